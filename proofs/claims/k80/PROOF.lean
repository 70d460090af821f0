import PyProof.Rows.All
import Wide.All
import OpenK.AllK
import Wide.FinOn
import PySem.Challenge.RW_booklimits_k80_errors_of_the_third_part
import PySem.Str
import PySem.PyData
import PyProof.P3Statements
import PyProof.ReprReads
import PyProof.EqLayable
import KE.LtData
import KE.KeyNested
import KE.SortKeyed
import PyProof.ReprLen
import PyProof.Rows.RegStrFacts
import HandS.ForMost
import HandS.Evl
import HandS.Lambda
import HandS.TupMul
import KE.DataMinMax
import KE.KTupSum
import KE.DataEq
import HandS.SortInts
import PyProof.DictRoadsH
import KE.KDictKeyed
import HandS.Conv
import KE.KDictCopyH
import KE.SortData
import HandS.Wide
import HandS.TupAny
import HandS.Style
import HandS.IsInst
import HandS.Deep
import KE.KSortedM
import PyProof.EqAt
import PyProof.NeKinds
import PyProof.ReprRoads
import KE.SortCalls
import KE.GoesZip
import KE.GoesEnum
import HandS.Zip
import HandS.Exc
import KE.KDictWalk
import HandS.Star
import KE.KDictDisplayH
import PyProof.DictTable
import HandS.DictComp
import KE.KExcLine
import HandS.ExcField
import KE.KDflt
import HandS.TryMany
import HandS.ExcIs
import HandS.ExcValue
import HandS.Defaults
import HandS.Words
import HandS.Dict
import HandS.Walk
import HandS.Ends
import HandS.HeadEnd
import HandS.Head0
import HandS.Head1
import HandS.Head2
import HandS.HeadHook1
import HandS.HeadHook2
import HandS.HeadHook3
import HandS.HeadHook4
import HandS.Codes
set_option Elab.async false
namespace Bk
open PySem
inductive D where
  | non | bl (b : Bool) | int (i : Int) | str (x : Str) | tup (xs : List D) | lst (xs : List D)
  /-- the drawing state's handle -/
  | m
  /-- the script -/
  | scr (ns : List Int)
  /-- a dict: its keys, its values -/
  | dct (ks vs : List D)
  /-- the function that a def got -/
  | fn
  /-- an exception of an own class, by number: its fields -/
  | exc (c : Nat) (ds : List D)
  /-- a dict whose keys are texts, its values -/
  | dks (ks : List Str) (vs : List D)
mutual
def D.py : D → PyData
  | .non => .none
  | .bl b => .bool b
  | .int i => .int i
  | .str x => .str x
  | .tup xs => .tuple (pys xs)
  | .lst xs => .list (pys xs)
  | .m => .none
  | .scr _ => .none
  | .dct _ _ => .none
  | .fn => .none
  | .exc _ _ => .none
  | .dks _ _ => .none
def pys : List D → List PyData
  | [] => []
  | x :: xs => x.py :: pys xs
end
mutual
/-- no handle within -/
def D.pl : D → Bool
  | .tup xs => pls xs
  | .lst xs => pls xs
  | .m => false
  | .scr _ => false
  | .dct _ _ => false
  | .fn => false
  | .exc _ _ => false
  | .dks _ _ => false
  | _ => true
def pls : List D → Bool
  | [] => true
  | x :: xs => x.pl && pls xs
end
mutual
/-- dicts too -/
def D.pyd : D → PyData
  | .non => .none
  | .bl b => .bool b
  | .int i => .int i
  | .str x => .str x
  | .tup xs => .tuple (pyds xs)
  | .lst xs => .list (pyds xs)
  | .dct ks vs => .dict ((pyds ks).zip (pyds vs))
  | .dks ks vs => .dict ((ks.map PyData.str).zip (pyds vs))
  | .m => .none
  | .scr _ => .none
  | .fn => .none
  | .exc _ _ => .none
def pyds : List D → List PyData
  | [] => []
  | x :: xs => x.pyd :: pyds xs
end
mutual
/-- data, dicts among them -/
def D.shw : D → Bool
  | .tup xs => shws xs
  | .lst xs => shws xs
  | .dct ks vs => shws ks && shws vs
  | .dks ks vs => shws vs && decide (ks.Nodup)
  | .m => false
  | .scr _ => false
  | .fn => false
  | .exc _ _ => false
  | _ => true
def shws : List D → Bool
  | [] => true
  | x :: xs => x.shw && shws xs
end
mutual
/-- no function within -/
def noFn : D → Bool
  | .tup xs => noFns xs
  | .lst xs => noFns xs
  | .dct ks vs => noFns ks && noFns vs
  | .fn => false
  | .exc _ ds => noFns ds
  | .dks _ vs => noFns vs
  | _ => true
def noFns : List D → Bool
  | [] => true
  | x :: xs => noFn x && noFns xs
end
mutual
def keyD : D → NestedKey
  | .non => .none
  | .bl b => .num (if b then 1 else 0)
  | .int i => .num i
  | .str x => .text x
  | .tup xs => .tup (keysD xs)
  | _ => .none
def keysD : List D → List NestedKey
  | [] => []
  | x :: xs => keyD x :: keysD xs
end
mutual
def okP : D → Bool
  | .non => true
  | .bl _ => true
  | .int _ => true
  | .str _ => true
  | .tup xs => okPs xs
  | _ => false
def okPs : List D → Bool
  | [] => true
  | x :: xs => okP x && okPs xs
end
def okK : D → Bool
  | .tup xs => okPs xs && decide ((keyD (.tup xs)).depth ≤ 8)
  | _ => false
def getK (k : NestedKey) : List D → List D → Option D
  | a :: ks, v :: vs => if keyD a = k then some v else getK k ks vs
  | _, _ => none
def setK (k : NestedKey) (y : D) : List D → List D → List D
  | a :: ks, v :: vs => if keyD a = k then y :: vs else v :: setK k y ks vs
  | _, _ => []
def putD (ks vs : List D) (k y : D) : D := if (getK (keyD k) ks vs).isSome then .dct ks (setK (keyD k) y ks vs) else .dct (ks ++ [k]) (vs ++ [y])
/-- the drawing state -/
structure G where
  cells : List Int
  great : List Int
  spot : Int
inductive R (α : Type) where
  | ok (a : α) (g : G)
  | ex (c : Nat) (ds : List D) (g : G)
  | st
/-- calls of defs; of defs that get a function last -/
structure Calls where
  f : Nat → List D → G → R D
  l : Nat → List D → (D → G → R D) → G → R D
instance : CoeFun Calls fun _ => Nat → List D → G → R D := ⟨Calls.f⟩
/-- the number of the function that was got -/
abbrev LAM : Nat := 1000000
def ovr (c : Calls) (lam : D → G → R D) : Calls := ⟨fun f ds g => if f = LAM then (match ds with | [d] => lam d g | _ => .st) else c.f f ds g, c.l⟩
@[inline] def R.bind {α β : Type} (r : R α) (k : α → G → R β) : R β := match r with
  | .ok a g => k a g
  | .ex c ds g => .ex c ds g
  | .st => .st
def mixed (cell n : Int) : Int :=
  (((cell * (1 + 2 * n) * 48271) % 2147483647 + 7919 * n * n + 104729 * n) * 69621) % 2147483629 / 7
/-- `_law_draw` -/
def G.mix (g : G) (lim : Int) : Int := mixed (mixed ((g.cells.getD (g.spot % 64).toNat 0) + 31 * (g.spot / 64)) g.spot) (g.spot + 7) % lim
def G.here (g : G) : Nat := (g.spot % (g.great.length : Int)).toNat
def G.draw (g : G) (lim : Int) : Int × G :=
  if g.great = [] then (g.mix lim, { g with spot := g.spot + 1 })
  else if 0 < g.great.getD g.here 0 then
    (g.great.getD g.here 0 % lim, { g with spot := g.spot + 1, great := g.great.set g.here (g.great.getD g.here 0 / lim) })
  else (g.mix lim, { g with spot := g.spot + 1 })
/-- an argument: the i-th one that is written, or a constant for one that lacks -/
inductive Pik where | at (i : Nat) | cst (b : Option Bool)
  deriving DecidableEq
def pikC : Option Bool → D
  | some b => .bl b
  | none => .non
inductive Op where | add | sub | mul | div | mod | pow
inductive Cm where | eq | ne | lt | le | gt | ge | isin | notin | isN | notN
inductive Ty where | int | bool | str | tuple | list
  deriving DecidableEq
inductive Bi where | len | all | any | sum | min | max | min2 | max2 | sorted | tuple | list | int | repr | maxd | mind | sortd
inductive T where | var (i : Nat) | tup (ts : List T)
mutual
inductive E where
  | cst (d : D)
  | var (i : Nat)
  | glb (i : Nat)
  | bin (o : Op) (a b : E)
  | neg (a : E)
  | cmp (o : Cm) (a b : E)
  | chn (o p : Cm) (a b c : E)
  | and (a b : E)
  | or (a b : E)
  | not (a : E)
  | ife (c a b : E)
  | tup (as : A)
  | lst (as : A)
  | idx (a b : E)
  | sl (a : E) (lo hi : Option E)
  | lc (elt : E) (t : T) (it : I) (cond : Option E)
  | call (f : Nat) (as : A)
  | bi (b : Bi) (as : A)
  | isi (a : E) (ts : List Ty)
  /-- f(as, lambda x: e), x in the slot i -/
  | callL (f : Nat) (as : A) (i : Nat) (e : E)
  /-- the function that was got, in the slot i, called -/
  | callv (i : Nat) (a : E)
  | draw (a b : E)
  /-- two lists, a new one -/
  | cat (a b : E)
  /-- a[::-1] of a list -/
  | rev (a : E)
  /-- an owned list: an item; whether it is (not) empty -/
  | idxO (i : Nat) (b : E)
  | emO (neg : Bool) (i : Nat)
  /-- {}, {k: v} -/
  | dnil
  | done (k v : E)
  /-- a key (not) in an owned dict; how many keys -/
  | inO (neg : Bool) (a : E) (i : Nat)
  | lenO (i : Nat)
  /-- list(range(a)), list(range(a, b)) -/
  | lrng1 (a : E)
  | lrng2 (a b : E)
  /-- displays with starred items -/
  | tupS (as : A)
  | lstS (as : A)
  /-- {k: v for t in it} -/
  | dcp (k v : E) (t : T) (it : I)
  /-- {k: v for t in it for t1 in it1} -/
  | dcp2 (k v : E) (t : T) (it : I) (t1 : T) (it1 : I)
  /-- x(lambda: e), x the v-th def that tells what comes of it: in a list, or the error's label and fields -/
  | said (v : Nat) (tb : List (Nat × Str)) (e : E)
  /-- a def called with its arguments in another order, some by their names: v the way of calling -/
  | callP (f v : Nat) (ix : List Pik) (as : A)
  /-- isinstance(a, C), a an exception: the classes of which it is one, of which it is none -/
  | isX (a : E) (yes no : List Nat)
  /-- a.n, a an exception: where the field stands, class by class -/
  | fld (a : E) (n : Str) (cs : List (Nat × Nat))
  /-- C(a, ..), an exception made, not raised -/
  | mkX (c : Nat) (as : A)
  /-- C(n=a, ..) -/
  | mkXk (c : Nat) (ix : List Pik) (as : A)
  /-- {"k": e, ..} -/
  | dkd (ks : List Str) (as : A)
  /-- f(as, lambda: e), f calls it and may hear its exceptions -/
  | callL0 (f : Nat) (as : A) (e : E)
  /-- the function that was got, in the slot i, called with nothing -/
  | callv0 (i : Nat)
inductive A where
  | nil
  | cons (e : E) (as : A)
  | star (e : E) (as : A)
inductive I where
  | seq (e : E)
  | rng1 (a : E)
  | rng2 (a b : E)
  | zip (a b : E)
  | enum (a : E)
  /-- d.items() -/
  | items (a : E)
end
mutual
inductive S where
  | expr (e : E)
  | asg (t : T) (e : E)
  /-- a name gets a new list that it owns -/
  | own (i : Nat) (e : E)
  /-- x, y = a, b; x, y, z = a, b, c; the mark: an owned new list -/
  | par (ts : List (Nat × Bool)) (as : A)
  | aug (i : Nat) (e : E)
  | ret (e : E)
  | ife (c : E) (a b : B)
  | for_ (t : T) (it : I) (b : B)
  | whl (n : Nat) (c : E) (b : B)
  | app (i : Nat) (e : E)
  /-- of owned lists: x[a] = b; t = x.pop(); x.extend(e) -/
  | sto (i : Nat) (a b : E)
  | pop (t : T) (i : Nat)
  | ext (i : Nat) (e : E)
  /-- x.pop() -/
  | popE (i : Nat)
  /-- nothing in the text: what is owned is owned no more -/
  | frz (i : Nat)
  | stop
  | pass
  /-- raise C(e, ..) -/
  | rais (c : Nat) (as : A)
  /-- try: x = e / except (..) as n: y = n; x in the slot j, y in the slot i; the classes that are caught -/
  | tryK (j : Nat) (e : E) (yes : List Nat) (i : Nat)
inductive B where
  | nil
  | cons (s : S) (b : B)
end
inductive Slot where
  | no | val (d : D) | own (d : D)
abbrev Gm := List Slot
def MulOk (i j : Int) : Bool := decide (i.natAbs.log2 + j.natAbs.log2 < 1000000)
def DivOk (j : Int) : Bool := decide (0 < j) && decide (j.natAbs.log2 < 9000)
def opD : Op → D → D → Option D
  | .add, .int i, .int j => some (.int (i + j))
  | .sub, .int i, .int j => some (.int (i - j))
  | .mul, .int i, .int j => if MulOk i j then some (.int (i * j)) else none
  | .div, .int i, .int j => if DivOk j then some (.int (i / j)) else none
  | .mod, .int i, .int j => if 0 < j then some (.int (i % j)) else none
  | .pow, .int i, .int j => if 0 ≤ j ∧ j ≤ 1000 ∧ i.natAbs < 2 ^ 64 then some (.int (i ^ j.toNat)) else none
  | .add, .tup xs, .tup ys => if xs.length + ys.length ≤ 1000000 then some (.tup (xs ++ ys)) else none
  | .add, .lst xs, .lst ys => if xs.length + ys.length ≤ 1000000 then some (.lst (xs ++ ys)) else none
  | .mul, .tup xs, .int k => if ¬ xs = [] ∧ 1 ≤ k ∧ k ≤ 1000 ∧ xs.length ≤ 1000 then some (.tup (List.replicate k.toNat xs).flatten) else none
  | .mul, .lst xs, .int k => if xs.length * k.toNat ≤ 1000000 ∧ k ≤ 1000000 ∧ -1000000 ≤ k then some (.lst (List.replicate k.toNat xs).flatten) else none
  | .add, .str x, .str y => if x.length + y.length ≤ 1000000 then some (.str (x ++ y)) else none
  | _, _, _ => none
/-- == and != are asked of data whose depth is at most 64 -/
def flatD : D → Bool
  | .non => true
  | .bl _ => true
  | .int _ => true
  | .str _ => true
  | _ => false
def eqF : D → D → Bool
  | .non, .non => true
  | .bl a, .bl b => a == b
  | .bl a, .int b => (if a then 1 else 0) == b
  | .int a, .bl b => a == (if b then 1 else 0)
  | .int a, .int b => a == b
  | .str a, .str b => a == b
  | _, _ => false
def inF (x : D) (ys : List D) : Bool := ys.any fun y => eqF y x
/-- a list, a tuple, held against an empty one -/
def emEq : D → D → Option Bool
  | .lst xs, .lst [] => some xs.isEmpty
  | .tup xs, .tup [] => some xs.isEmpty
  | _, _ => none
def cmpD : Cm → D → D → Option Bool
  | .lt, .int i, .int j => some (decide (i < j))
  | .le, .int i, .int j => some (decide (i ≤ j))
  | .gt, .int i, .int j => some (decide (j < i))
  | .ge, .int i, .int j => some (decide (j ≤ i))
  | .eq, .int i, .int j => some (decide (i = j))
  | .ne, .int i, .int j => some (!decide (i = j))
  | .eq, .str x, .str y => some (decide (x = y))
  | .ne, .str x, .str y => some (!decide (x = y))
  | .eq, .scr ns, .lst [] => some ns.isEmpty
  | .eq, a, b => if a.pl && b.pl && SeqAt.shaped a.py && SeqAt.shaped b.py then some (PyData.eqv a.py b.py) else emEq a b
  | .ne, a, b => if a.pl && b.pl && SeqAt.shaped a.py && SeqAt.shaped b.py then some (!PyData.eqv a.py b.py) else (emEq a b).map (!·)
  | .lt, .tup xs, .tup ys => if pls xs && pls ys && W.alike (D.tup xs).py (D.tup ys).py && decide ((D.tup xs).py.depth ≤ 60) then some (W.dataLt (D.tup xs).py (D.tup ys).py) else none
  | .isin, x, .tup ys => if flatD x && ys.all flatD then some (inF x ys) else if x.pl && pls ys && decide (x.py.depth ≤ 60) then some (ys.any fun y => PyData.eqv y.py x.py) else none
  | .isin, x, .lst ys => if flatD x && ys.all flatD then some (inF x ys) else if x.pl && pls ys && decide (x.py.depth ≤ 60) then some (ys.any fun y => PyData.eqv y.py x.py) else none
  | .notin, x, .tup ys => if flatD x && ys.all flatD then some (!inF x ys) else if x.pl && pls ys && decide (x.py.depth ≤ 60) then some (!(ys.any fun y => PyData.eqv y.py x.py)) else none
  | .notin, x, .lst ys => if flatD x && ys.all flatD then some (!inF x ys) else if x.pl && pls ys && decide (x.py.depth ≤ 60) then some (!(ys.any fun y => PyData.eqv y.py x.py)) else none
  | .isin, x, .dct ks vs => if okK x then some (getK (keyD x) ks vs).isSome else none
  | .notin, x, .dct ks vs => if okK x then some (!(getK (keyD x) ks vs).isSome) else none
  | .isN, .non, .non => some true
  | .isN, .int _, .non => some false
  | .isN, .str _, .non => some false
  | .isN, .tup _, .non => some false
  | .isN, .lst _, .non => some false
  | .isN, .bl _, .non => some false
  | .isN, .exc _ _, .non => some false
  | .isN, .dct _ _, .non => some false
  | .isN, .dks _ _, .non => some false
  | .notN, .non, .non => some false
  | .notN, .int _, .non => some true
  | .notN, .str _, .non => some true
  | .notN, .tup _, .non => some true
  | .notN, .lst _, .non => some true
  | .notN, .bl _, .non => some true
  | .notN, .exc _ _, .non => some true
  | .notN, .dct _ _, .non => some true
  | .notN, .dks _ _, .non => some true
  | _, _, _ => none
/-- xs[i] -/
def atD (xs : List D) (i : Int) : Option D := if 0 ≤ i then xs[i.toNat]? else if 0 ≤ i + xs.length then xs[(i + xs.length).toNat]? else none
def ixD (n : Nat) (i : Int) : Option Nat := if 0 ≤ i then (if i.toNat < n then some i.toNat else none) else if 0 ≤ i + n then some (i + n).toNat else none
def idxD : D → D → Option D
  | .tup xs, .int i => atD xs i
  | .lst xs, .int i => atD xs i
  | .dct ks vs, k => if okK k then getK (keyD k) ks vs else none
  | _, _ => none
def sIxD (n : Nat) (d : Nat) : Option Int → Nat
  | none => d
  | some i => if i < 0 then (i + n).toNat else min i.toNat n
def cutD (xs : List D) (lo hi : Option Int) : List D := (xs.drop (sIxD xs.length 0 lo)).take (sIxD xs.length xs.length hi - sIxD xs.length 0 lo)
def slD : D → Option Int → Option Int → Option D
  | .tup xs, lo, hi => some (.tup (cutD xs lo hi))
  | .lst xs, lo, hi => some (.lst (cutD xs lo hi))
  | _, _, _ => none
def intsD : List D → Option (List Int)
  | [] => some []
  | .int i :: r => (intsD r).map (i :: ·)
  | _ => none
def blsD : List D → Option (List Bool)
  | [] => some []
  | .bl i :: r => (blsD r).map (i :: ·)
  | _ => none
def maxI : Int → List Int → Int := fun a l => l.foldl (fun x y => if x < y then y else x) a
def minI : Int → List Int → Int := fun a l => l.foldl (fun x y => if y < x then y else x) a
def insI (i : Int) : List Int → List Int
  | [] => [i]
  | j :: r => if i ≤ j then i :: j :: r else j :: insI i r
def sortI (l : List Int) : List Int := l.foldr insI []
/-- the greatest, the least of alike data -/
def maxDD : D → List D → D := fun a l => l.foldl (fun x y => if W.dataLt x.py y.py then y else x) a
def minDD : D → List D → D := fun a l => l.foldl (fun x y => if W.dataLt y.py x.py then y else x) a
def alkD (xs : List D) : Bool := pls xs && xs.all (fun x => xs.all fun y => W.alike x.py y.py) && xs.all (fun x => match x with | .non => false | _ => true) && decide (PyData.depthAll (pys xs) ≤ 60)
/-- sorted data -/
def sortDD (xs : List D) : List D := xs.mergeSort (W.dataLe false D.py)
def biD : Bi → List D → Option D
  | .len, [.tup xs] => some (.int xs.length)
  | .len, [.lst xs] => some (.int xs.length)
  | .len, [.scr ns] => some (.int ns.length)
  | .len, [.str x] => if x.length ≤ 1000000 then some (.int x.length) else none
  | .all, [.lst xs] => (blsD xs).map fun bs => .bl (bs.all id)
  | .any, [.lst xs] => (blsD xs).map fun bs => .bl (bs.any id)
  | .sum, [.lst xs] => (intsD xs).map fun ns => .int ns.sum
  | .sum, [.tup xs] => (intsD xs).map fun ns => .int ns.sum
  | .max, [.lst xs] => (intsD xs).bind fun | [] => none | n :: ns => some (.int (maxI n ns))
  | .min, [.lst xs] => (intsD xs).bind fun | [] => none | n :: ns => some (.int (minI n ns))
  | .max2, [.int i, .int j] => some (.int (if i < j then j else i))
  | .min2, [.int i, .int j] => some (.int (if j < i then j else i))
  | .sorted, [.lst xs] => (intsD xs).map fun ns => .lst ((sortI ns).map .int)
  | .sorted, [.tup xs] => (intsD xs).map fun ns => .lst ((sortI ns).map .int)
  | .tuple, [.lst xs] => some (.tup xs)
  | .tuple, [.tup xs] => some (.tup xs)
  | .list, [.lst xs] => some (.lst xs)
  | .list, [.tup xs] => some (.lst xs)
  | .int, [.int i] => some (.int i)
  | .int, [.bl b] => some (.int (if b then 1 else 0))
  | .list, [.dct ks _] => if ks.length ≤ 1000000 then some (.lst ks) else none
  | .sortd, [.lst xs] => if alkD xs && xs.all (fun x => match x with | .tup (_ :: _) => true | _ => false) then some (.lst (sortDD xs)) else none
  | .maxd, [.lst xs] => if alkD xs then (match xs with | [] => none | x :: r => some (maxDD x r)) else none
  | .mind, [.lst xs] => if alkD xs then (match xs with | [] => none | x :: r => some (minDD x r)) else none
  | .repr, [d] => if d.pl && d.py.showable && decide (d.py.depth ≤ 64) && decide (d.py.shown.length ≤ 1000000) then some (.str d.py.shown) else if d.shw && d.pyd.showable && decide (d.pyd.depth ≤ 64) && decide (d.pyd.shown.length ≤ 1000000) then some (.str d.pyd.shown) else none
  | .sortd, [.tup xs] => if alkD xs && xs.all (fun x => match x with | .tup (_ :: _) => true | _ => false) then some (.lst (sortDD xs)) else none
  | _, _ => none
def isI : Ty → D → Bool
  | .bool, .bl _ => true
  | .int, .bl _ => true
  | .int, .int _ => true
  | .str, .str _ => true
  | .tuple, .tup _ => true
  | .list, .lst _ => true
  | .list, .scr _ => true
  | _, _ => false
def isiD (ts : List Ty) : D → Option Bool
  | .m => none
  | .fn => none
  | .exc _ _ => none
  | .dks _ _ => none
  | d => some (ts.any (isI · d))
mutual
def setT : T → D → Gm → Option Gm
  | .var i, d, Γ => if i < Γ.length then some (Γ.set i (.val d)) else none
  | .tup ts, .tup ds, Γ => setTs ts ds Γ
  | .tup _, _, _ => none
def setTs : List T → List D → Gm → Option Gm
  | [], [], Γ => some Γ
  | t :: ts, d :: ds, Γ => (setT t d Γ).bind (setTs ts ds)
  | _, _, _ => none
end
mutual
def T.vars : T → List Nat
  | .var i => [i]
  | .tup ts => varsT ts
def varsT : List T → List Nat
  | [] => []
  | t :: ts => t.vars ++ varsT ts
end
def wipeG (Γ : Gm) : List Nat → Gm
  | [] => Γ
  | v :: vs => (wipeG Γ vs).set v .no
def rngD (a : Int) : Nat → List D
  | 0 => []
  | n + 1 => .int a :: rngD (a + 1) n
def zipD : List D → List D → List D
  | x :: xs, y :: ys => .tup [x, y] :: zipD xs ys
  | _, _ => []
def enumD (n : Int) : List D → List D
  | [] => []
  | x :: xs => .tup [.int n, x] :: enumD (n + 1) xs
def seqD : D → Option (List D)
  | .tup xs => some xs
  | .lst xs => some xs
  | .dct ks _ => if ks.length ≤ 1000000 then some ks else none
  | _ => none
def itemsD : D → Option (List D)
  | .tup xs => some xs
  | .lst xs => some xs
  | _ => none
def lift {α : Type} (o : Option α) (g : G) : R α := match o with
  | some a => .ok a g
  | none => .st
/-- [elt for x in items if cond] -/
def R.nox {α : Type} (r : R α) : R α := match r with
  | .ok a g => .ok a g
  | _ => .st
def lcR (f : D → G → R (Option D)) : List D → G → R (List D)
  | [], g => .ok [] g
  | x :: xs, g => (f x g).nox.bind fun o g1 => (lcR f xs g1).bind fun ys g2 => .ok (match o with | some y => y :: ys | none => ys) g2
/-- {k: v for x in items}: stored one by one -/
def dcR (f : D → G → R (D × D)) : List D → D → G → R D
  | [], d, g => .ok d g
  | x :: xs, d, g => (f x g).nox.bind fun y g1 => match d with
    | .dct ks vs => if okK y.1 && decide (ks.length < 1000000) then dcR f xs (putD ks vs y.1 y.2) g1 else .st
    | _ => .st
/-- {k: v for x in items for y in f x} -/
def dc2R (f : D → D → G → R D) : List D → D → G → R D
  | [], d, g => .ok d g
  | x :: xs, d, g => (f x d g).nox.bind fun d1 g1 => dc2R f xs d1 g1
inductive Fl where
  | nx (Γ : Gm) | rt (d : D)
def forR (f : D → Gm → G → R Fl) : List D → Gm → G → R Fl
  | [], Γ, g => .ok (.nx Γ) g
  | x :: xs, Γ, g => (f x Γ g).bind fun fl g1 => match fl with
    | .nx Γ' => forR f xs Γ' g1
    | .rt d => .ok (.rt d) g1
def whlR (c : Gm → G → R Bool) (f : Gm → G → R Fl) : Nat → Gm → G → R Fl
  | 0, _, _ => .st
  | n + 1, Γ, g => (c Γ g).bind fun b g1 => if b then (f Γ g1).bind fun fl g2 => (match fl with
      | .nx Γ' => whlR c f n Γ' g2
      | .rt d => .ok (.rt d) g2)
    else .ok (.nx Γ) g1
def blR (r : R D) : R Bool := r.bind fun d g => match d with | .bl b => .ok b g | _ => .st
/-- what a program is: constants by number, defs: parameters, names, body -/
structure Df where
  np : Nat
  nn : Nat
  body : B
structure Pr where
  cs : List (Nat × D)
  ds : List (Nat × Df)
def isOb : D → Bool
  | .lst _ => true
  | .dct _ _ => true
  | _ => false
def parG : List (Nat × Bool) → List D → Gm → Option Gm
  | [], [], Γ => some Γ
  | (i, o) :: ts, d :: ds, Γ => if i < Γ.length then parG ts ds (Γ.set i (if o && isOb d then .own d else .val d)) else none
  | _, _, _ => none
/-- arguments in the parameters' order: the i-th one that is written, or what stands for one that lacks -/
def pickD : List Pik → List D → Option (List D)
  | [], _ => some []
  | .at i :: r, xs => match xs[i]? with
    | some x => (pickD r xs).map (x :: ·)
    | none => none
  | .cst b :: r, xs => (pickD r xs).map (pikC b :: ·)
def noOwn : Gm → Gm
  | [] => []
  | .own _ :: Γ => .no :: noOwn Γ
  | s :: Γ => s :: noOwn Γ
def plainR (r : R D) : R D := r.nox.bind fun d g => if noFn d then .ok d g else .st
/-- no function comes out, not in an exception either -/
def plainX (r : R D) : R D := match r with
  | .ok d g => if noFn d then .ok d g else .st
  | .ex c ds g => if noFns ds then .ex c ds g else .st
  | .st => .st
def isXD (yes no : List Nat) : D → Option Bool
  | .exc c _ => if yes.contains c then some true else if no.contains c then some false else none
  | _ => none
def fldD (cs : List (Nat × Nat)) : D → Option D
  | .exc c ds => (cs.lookup c).bind fun i => ds[i]?
  | _ => none
def caughtR (tb : List (Nat × Str)) (r : R D) : R D := match r with
  | .ok d g => .ok (.lst [d]) g
  | .ex c ds g => match tb.lookup c with
    | some x => .ok (.tup (.str x :: ds)) g
    | none => .st
  | .st => .st
section
variable (cs : List (Nat × D)) (call : Calls)
mutual
def evE : E → Gm → G → R D
  | .cst d, _, g => .ok d g
  | .var i, Γ, g => match Γ[i]? with | some (.val d) => .ok d g | _ => .st
  | .glb i, _, g => lift (cs.lookup i) g
  | .bin o a b, Γ, g => (evE a Γ g).bind fun x g => (evE b Γ g).bind fun y g => lift (opD o x y) g
  | .neg a, Γ, g => (evE a Γ g).bind fun x g => match x with | .int i => .ok (.int (-i)) g | _ => .st
  | .cmp o a b, Γ, g => (evE a Γ g).bind fun x g => (evE b Γ g).bind fun y g => lift ((cmpD o x y).map .bl) g
  | .chn o p a b c, Γ, g => (evE a Γ g).bind fun x g => (evE b Γ g).bind fun y g => (lift (cmpD o x y) g).bind fun k g =>
      if k then (evE c Γ g).bind fun z g => lift ((cmpD p y z).map .bl) g else .ok (.bl false) g
  | .and a b, Γ, g => (blR (evE a Γ g)).bind fun k g => if k then (blR (evE b Γ g)).bind fun j g => .ok (.bl j) g else .ok (.bl false) g
  | .or a b, Γ, g => (blR (evE a Γ g)).bind fun k g => if k then .ok (.bl true) g else (blR (evE b Γ g)).bind fun j g => .ok (.bl j) g
  | .not a, Γ, g => (blR (evE a Γ g)).bind fun k g => .ok (.bl (!k)) g
  | .ife c a b, Γ, g => (blR (evE c Γ g)).bind fun k g => if k then evE a Γ g else evE b Γ g
  | .tup as, Γ, g => (evA as Γ g).bind fun xs g => .ok (.tup xs) g
  | .lst as, Γ, g => (evA as Γ g).bind fun xs g => .ok (.lst xs) g
  | .idx a b, Γ, g => (evE a Γ g).bind fun x g => (evE b Γ g).bind fun y g => lift (idxD x y) g
  | .sl a lo hi, Γ, g => (evE a Γ g).bind fun x g => (evO lo Γ g).bind fun l g => (evO hi Γ g).bind fun h g => lift (slD x l h) g
  | .lc elt t it cond, Γ, g => (evI it Γ g).bind fun xs g => (lcR (fun x g => (lift (setT t x (wipeG Γ t.vars)) g).bind fun Γ' g =>
      match cond with
      | none => (evE elt Γ' g).bind fun y g => .ok (some y) g
      | some c => (blR (evE c Γ' g)).bind fun k g => if k then (evE elt Γ' g).bind fun y g => .ok (some y) g else .ok none g) xs g).bind fun ys g => .ok (.lst ys) g
  | .call f as, Γ, g => (evA as Γ g).bind fun xs g => call f xs g
  | .callL f as i e, Γ, g => (evA as Γ g).bind fun xs g => if noFns xs && decide (i < Γ.length) then plainR (call.l f xs (fun d g => if noFn d then plainR (evE e ((noOwn Γ).set i (.val d)) g) else .st) g) else .st
  | .callv i a, Γ, g => match Γ[i]? with
      | some (.val .fn) => (evE a Γ g).bind fun d g => call LAM [d] g
      | _ => .st
  | .bi b as, Γ, g => (evA as Γ g).bind fun xs g => lift (biD b xs) g
  | .isi a ts, Γ, g => (evE a Γ g).bind fun x g => lift ((isiD ts x).map .bl) g
  | .draw a b, Γ, g => (evE a Γ g).bind fun x g => (evE b Γ g).bind fun y g => match x, y with
      | .m, .int lim => if 0 < lim ∧ lim < 2 ^ 4000 ∧ g.spot < 2 ^ 60 then .ok (.int (g.draw lim).1) (g.draw lim).2 else .st
      | _, _ => .st
  | .cat a b, Γ, g => (evE a Γ g).bind fun x g => (evE b Γ g).bind fun y g => match x, y with
      | .lst xs, .lst ys => if xs.length + ys.length ≤ 1000000 then .ok (.lst (xs ++ ys)) g else .st
      | _, _ => .st
  | .rev a, Γ, g => (evE a Γ g).bind fun x g => match x with
      | .lst xs => .ok (.lst xs.reverse) g
      | _ => .st
  | .idxO i b, Γ, g => match Γ[i]? with
      | some (.own d) => (evE b Γ g).bind fun y g => lift (idxD d y) g
      | _ => .st
  | .dnil, _, g => .ok (.dct [] []) g
  | .done a b, Γ, g => (evE a Γ g).bind fun k g => (evE b Γ g).bind fun v g => if okK k then .ok (.dct [k] [v]) g else .st
  | .inO neg a i, Γ, g => (evE a Γ g).bind fun k g => match Γ[i]? with
      | some (.own (.dct ks vs)) => if okK k then .ok (.bl (if neg then !(getK (keyD k) ks vs).isSome else (getK (keyD k) ks vs).isSome)) g else .st
      | _ => .st
  | .lrng1 a, Γ, g => (evE a Γ g).bind fun x g => match x with | .int i => if -1000000 ≤ i ∧ i ≤ 1000000 then .ok (.lst (rngD 0 i.toNat)) g else .st | _ => .st
  | .lrng2 a b, Γ, g => (evE a Γ g).bind fun x g => (evE b Γ g).bind fun y g => match x, y with
      | .int i, .int j => if (-1000000 ≤ i ∧ i ≤ 1000000) ∧ -1000000 ≤ j ∧ j ≤ 1000000 then .ok (.lst (rngD i (j - i).toNat)) g else .st
      | _, _ => .st
  | .lenO i, Γ, g => match Γ[i]? with
      | some (.own (.dct ks vs)) => if ks.length ≤ 1000000 then .ok (.int ks.length) g else .st
      | some (.own (.lst xs)) => if xs.length ≤ 1000000 then .ok (.int xs.length) g else .st
      | _ => .st
  | .emO neg i, Γ, g => match Γ[i]? with
      | some (.own (.lst xs)) => .ok (.bl (if neg then !xs.isEmpty else xs.isEmpty)) g
      | _ => .st
  | .tupS as, Γ, g => (evA as Γ g).bind fun xs g => if xs.length ≤ 1000000 then .ok (.tup xs) g else .st
  | .lstS as, Γ, g => (evA as Γ g).bind fun xs g => if xs.length ≤ 1000000 then .ok (.lst xs) g else .st
  | .dcp k v t it, Γ, g => (evI it Γ g).bind fun xs g => dcR (fun x g => (lift (setT t x (wipeG Γ t.vars)) g).bind fun Γ' g => (evE k Γ' g).bind fun a g => (evE v Γ' g).bind fun b g => .ok (a, b) g) xs (.dct [] []) g
  | .dcp2 k v t it t1 it1, Γ, g => (evI it Γ g).bind fun xs g => dc2R (fun x d g => (lift (setT t x (wipeG Γ (T.tup [t, t1]).vars)) g).bind fun Γ1 g => (evI it1 Γ1 g).bind fun ys g => dcR (fun y g => (lift (setT t1 y (wipeG (noOwn Γ1) t1.vars)) g).bind fun Γ' g => (evE k Γ' g).bind fun a g => (evE v Γ' g).bind fun b g => .ok (a, b) g) ys d g) xs (.dct [] []) g
  | .said _ tb e, Γ, g => caughtR tb (evE e Γ g)
  | .callP f _ ix as, Γ, g => (evA as Γ g).bind fun xs g => match pickD ix xs with | some ys => call f ys g | none => .st
  | .isX a yes no, Γ, g => (evE a Γ g).bind fun x g => lift ((isXD yes no x).map .bl) g
  | .fld a _ cs, Γ, g => (evE a Γ g).bind fun x g => lift (fldD cs x) g
  | .mkX c as, Γ, g => (evA as Γ g).bind fun ds g => .ok (.exc c ds) g
  | .mkXk c ix as, Γ, g => (evA as Γ g).bind fun xs g => match pickD ix xs with | some ds => .ok (.exc c ds) g | none => .st
  | .dkd ks as, Γ, g => (evA as Γ g).bind fun vs g => if vs.length = ks.length ∧ ks.length ≤ 15 ∧ ks.Nodup then .ok (.dks ks vs) g else .st
  | .callL0 f as e, Γ, g => (evA as Γ g).bind fun xs g => if noFns xs then plainX (call.l f xs (fun _ g => plainX (evE e (noOwn Γ) g)) g) else .st
  | .callv0 i, Γ, g => match Γ[i]? with
      | some (.val .fn) => call LAM [.non] g
      | _ => .st
def evO : Option E → Gm → G → R (Option Int)
  | none, _, g => .ok none g
  | some e, Γ, g => (evE e Γ g).bind fun x g => match x with | .int i => .ok (some i) g | _ => .st
def evA : A → Gm → G → R (List D)
  | .nil, _, g => .ok [] g
  | .cons e as, Γ, g => (evE e Γ g).bind fun x g => (evA as Γ g).bind fun xs g => .ok (x :: xs) g
  | .star e as, Γ, g => (evE e Γ g).bind fun x g => match itemsD x with
      | some ys => (evA as Γ g).bind fun xs g => .ok (ys ++ xs) g
      | none => .st
def evI : I → Gm → G → R (List D)
  | .seq e, Γ, g => (evE e Γ g).bind fun x g => lift (seqD x) g
  | .rng1 a, Γ, g => (evE a Γ g).bind fun x g => match x with | .int i => if -1000000 ≤ i ∧ i ≤ 1000000 then .ok (rngD 0 i.toNat) g else .st | _ => .st
  | .rng2 a b, Γ, g => (evE a Γ g).bind fun x g => (evE b Γ g).bind fun y g => match x, y with
      | .int i, .int j => if (-1000000 ≤ i ∧ i ≤ 1000000) ∧ -1000000 ≤ j ∧ j ≤ 1000000 then .ok (rngD i (j - i).toNat) g else .st
      | _, _ => .st
  | .zip a b, Γ, g => (evE a Γ g).bind fun x g => (evE b Γ g).bind fun y g => match itemsD x, itemsD y with
      | some xs, some ys => .ok (zipD xs ys) g
      | _, _ => .st
  | .enum a, Γ, g => (evE a Γ g).bind fun x g => match itemsD x with
      | some xs => .ok (enumD 0 xs) g
      | _ => .st
  | .items a, Γ, g => (evE a Γ g).bind fun x g => match x with
      | .dct ks vs => if ks.length ≤ 1000000 then .ok (zipD ks vs) g else .st
      | _ => .st
end
mutual
def evS : S → Gm → G → R Fl
  | .expr e, Γ, g => (evE cs call e Γ g).bind fun _ g => .ok (.nx Γ) g
  | .asg t e, Γ, g => (evE cs call e Γ g).bind fun x g => (lift (setT t x Γ) g).bind fun Γ' g => .ok (.nx Γ') g
  | .own i e, Γ, g => (evE cs call e Γ g).bind fun x g => match x with
      | .lst xs => if i < Γ.length then .ok (.nx (Γ.set i (.own (.lst xs)))) g else .st
      | .dct ks vs => if i < Γ.length then .ok (.nx (Γ.set i (.own (.dct ks vs)))) g else .st
      | _ => .st
  | .par ts as, Γ, g => (evA cs call as Γ g).bind fun xs g => (lift (parG ts xs Γ) g).bind fun Γ' g => .ok (.nx Γ') g
  | .aug i e, Γ, g => match Γ[i]? with
      | some (.val x) => (evE cs call e Γ g).bind fun y g => (match x, y with
        | .int a, .int b => .ok (.nx (Γ.set i (.val (.int (a + b))))) g
        | _, _ => .st)
      | _ => .st
  | .ret e, Γ, g => (evE cs call e Γ g).bind fun x g => .ok (.rt x) g
  | .ife c a b, Γ, g => (blR (evE cs call c Γ g)).bind fun k g => if k then evB a Γ g else evB b Γ g
  | .for_ t it b, Γ, g => (evI cs call it Γ g).bind fun xs g => forR (fun x Γ g => (lift (setT t x Γ) g).bind fun Γ' g => evB b Γ' g) xs Γ g
  | .whl n c b, Γ, g => whlR (fun Γ g => blR (evE cs call c Γ g)) (fun Γ g => evB b Γ g) n Γ g
  | .app i e, Γ, g => match Γ[i]? with
      | some (.own (.lst xs)) => (evE cs call e Γ g).bind fun y g => if xs.length < 1000000 then .ok (.nx (Γ.set i (.own (.lst (xs ++ [y]))))) g else .st
      | _ => .st
  | .sto i a b, Γ, g => (evE cs call b Γ g).bind fun y g => match Γ[i]? with
      | some (.own (.lst xs)) => (evE cs call a Γ g).bind fun k g => (match k with
        | .int k => (match ixD xs.length k with
          | some j => .ok (.nx (Γ.set i (.own (.lst (xs.set j y))))) g
          | none => .st)
        | _ => .st)
      | some (.own (.dct ks vs)) => (evE cs call a Γ g).bind fun k g => if okK k && decide (ks.length < 1000000) then .ok (.nx (Γ.set i (.own (putD ks vs k y)))) g else .st
      | _ => .st
  | .pop t i, Γ, g => match Γ[i]? with
      | some (.own (.lst xs)) => (match xs[xs.length - 1]? with
        | some x => (lift (setT t x (Γ.set i (.own (.lst xs.dropLast)))) g).bind fun Γ' g => .ok (.nx Γ') g
        | none => .st)
      | _ => .st
  | .ext i e, Γ, g => match Γ[i]? with
      | some (.own (.lst xs)) => (evE cs call e Γ g).bind fun y g => (match y with
        | .lst ys => if xs.length + ys.length ≤ 1000000 then .ok (.nx (Γ.set i (.own (.lst (xs ++ ys))))) g else .st
        | _ => .st)
      | _ => .st
  | .popE i, Γ, g => match Γ[i]? with
      | some (.own (.lst xs)) => (match xs[xs.length - 1]? with
        | some _ => .ok (.nx (Γ.set i (.own (.lst xs.dropLast)))) g
        | none => .st)
      | _ => .st
  | .frz i, Γ, g => match Γ[i]? with
      | some (.own d) => .ok (.nx (Γ.set i (.val d))) g
      | _ => .ok (.nx Γ) g
  | .stop, _, _ => .st
  | .pass, Γ, g => .ok (.nx Γ) g
  | .rais c as, Γ, g => (evA cs call as Γ g).bind fun ds g => .ex c ds g
  | .tryK j e yes i, Γ, g => match evE cs call e Γ g with
      | .ok d g => if j < Γ.length then .ok (.nx (Γ.set j (.val d))) g else .st
      | .ex c ds g => if yes.contains c && decide (i < Γ.length) then .ok (.nx ((List.replicate Γ.length Slot.no).set i (.val (.exc c ds)))) g else .st
      | .st => .st
def evB : B → Gm → G → R Fl
  | .nil, Γ, g => .ok (.nx Γ) g
  | .cons s b, Γ, g => (evS s Γ g).bind fun fl g => match fl with
    | .nx Γ' => evB b Γ' g
    | .rt d => .ok (.rt d) g
end
end
def startG (n : Nat) (ds : List D) : Gm := ds.map .val ++ List.replicate (n - ds.length) .no
def endR (r : R Fl) : R D := r.bind fun fl g => match fl with
  | .nx _ => .ok .non g
  | .rt d => .ok d g
def den (p : Pr) : Nat → Calls
  | 0 => ⟨fun _ _ _ => .st, fun _ _ _ _ => .st⟩
  | k + 1 => ⟨fun f ds g => match p.ds.lookup f with
    | none => .st
    | some df => if ds.length = df.np ∧ df.np ≤ df.nn then endR (evB p.cs (den p k) df.body (startG df.nn ds) g) else .st,
    fun f ds lam g => match p.ds.lookup f with
    | none => .st
    | some df => if ds.length + 1 = df.np ∧ df.np ≤ df.nn then endR (evB p.cs (ovr (den p k) lam) df.body (startG df.nn (ds ++ [.fn])) g) else .st⟩
end Bk
set_option Elab.async false
set_option linter.all false
set_option maxRecDepth 100000
set_option maxHeartbeats 4000000
namespace Bk
open PySem
def Rel {α : Type} (ρ : α → α → Prop) : R α → R α → Prop
  | .st, _ => True
  | .ok a g, .ok a' g' => ρ a a' ∧ g = g'
  | .ex c ds g, .ex c' ds' g' => c = c' ∧ ds = ds' ∧ g = g'
  | _, _ => False
theorem Rel.bind {α β : Type} {ρ : α → α → Prop} {σ : β → β → Prop} {r r' : R α} {k k' : α → G → R β} (h : Rel ρ r r') (hk : ∀ a a' g, ρ a a' → Rel σ (k a g) (k' a' g)) : Rel σ (r.bind k) (r'.bind k') := by
  cases r with
  | st => exact trivial
  | ok a g =>
    cases r' with
    | ok a' g' =>
      obtain ⟨h1, rfl⟩ := h
      exact hk a a' g h1
    | ex _ _ _ => exact h.elim
    | st => exact h.elim
  | ex c ds g =>
    cases r' with
    | ex c' ds' g' => exact h
    | ok _ _ => exact h.elim
    | st => exact h.elim
theorem Rel.same {α : Type} {ρ : α → α → Prop} (h : ∀ a, ρ a a) : ∀ r : R α, Rel ρ r r
  | .st => trivial
  | .ok a g => ⟨h a, rfl⟩
  | .ex c ds g => ⟨rfl, rfl, rfl⟩
theorem Rel.sm {α : Type} (r : R α) : Rel Eq r r := Rel.same (fun _ => rfl) r
theorem Rel.st {α : Type} {ρ : α → α → Prop} (r : R α) : Rel ρ .st r := trivial
theorem Rel.bindE {α β : Type} {σ : β → β → Prop} {r r' : R α} {k k' : α → G → R β} (h : Rel Eq r r') (hk : ∀ a g, Rel σ (k a g) (k' a g)) : Rel σ (r.bind k) (r'.bind k') :=
  Rel.bind h fun a a' g e => by subst e; exact hk a g
theorem Rel.nox {α : Type} {ρ : α → α → Prop} {r r' : R α} (h : Rel ρ r r') : Rel ρ r.nox r'.nox := by
  cases r <;> cases r' <;> first | exact h | exact trivial | exact h.elim
/-- Γ says no more than Δ -/
def Les : Gm → Gm → Prop
  | [], [] => True
  | s :: Γ, t :: Δ => (s = .no ∨ s = t) ∧ Les Γ Δ
  | _, _ => False
theorem Les.refl : ∀ Γ : Gm, Les Γ Γ
  | [] => trivial
  | _ :: Γ => ⟨.inr rfl, Les.refl Γ⟩
theorem Les.trans : ∀ {Γ Δ Θ : Gm}, Les Γ Δ → Les Δ Θ → Les Γ Θ
  | [], [], [], _, _ => trivial
  | a :: Γ, b :: Δ, c :: Θ, h, k => ⟨by
      rcases h.1 with e | e
      · exact .inl e
      · rcases k.1 with f | f
        · exact .inl (e.trans f)
        · exact .inr (e.trans f), Les.trans h.2 k.2⟩
  | [], [], _ :: _, _, k => k.elim
  | [], _ :: _, _, h, _ => h.elim
  | _ :: _, [], _, h, _ => h.elim
  | _ :: _, _ :: _, [], _, k => k.elim
theorem Les.len : ∀ {Γ Δ : Gm}, Les Γ Δ → Γ.length = Δ.length
  | [], [], _ => rfl
  | _ :: Γ, _ :: Δ, h => by rw [List.length_cons, List.length_cons, Les.len h.2]
  | [], _ :: _, h => h.elim
  | _ :: _, [], h => h.elim
theorem Les.get : ∀ {Γ Δ : Gm}, Les Γ Δ → ∀ i : Nat, Γ[i]? = some .no ∨ Γ[i]? = Δ[i]?
  | [], [], _, _ => .inr rfl
  | s :: Γ, t :: Δ, h, 0 => by
    rcases h.1 with e | e
    · exact .inl (by simp [e])
    · exact .inr (by simp [e])
  | s :: Γ, t :: Δ, h, i + 1 => by simpa using Les.get h.2 i
  | [], _ :: _, h, _ => h.elim
  | _ :: _, [], h, _ => h.elim
theorem Les.set : ∀ {Γ Δ : Gm}, Les Γ Δ → ∀ (i : Nat) (s : Slot), Les (Γ.set i s) (Δ.set i s)
  | [], [], _, _, _ => trivial
  | _ :: Γ, _ :: Δ, h, 0, s => ⟨.inr rfl, h.2⟩
  | _ :: Γ, _ :: Δ, h, i + 1, s => ⟨h.1, Les.set h.2 i s⟩
  | [], _ :: _, h, _, _ => h.elim
  | _ :: _, [], h, _, _ => h.elim
theorem Les.noset : ∀ {Γ Δ : Gm}, Les Γ Δ → ∀ {i : Nat}, Γ[i]? = some .no → ∀ s : Slot, Les Γ (Δ.set i s)
  | [], [], _, _, _, _ => trivial
  | a :: Γ, _ :: Δ, h, 0, e, s => ⟨.inl (by simpa using e), h.2⟩
  | _ :: Γ, _ :: Δ, h, i + 1, e, s => ⟨h.1, Les.noset h.2 (by simpa using e) s⟩
  | [], _ :: _, h, _, _, _ => h.elim
  | _ :: _, [], h, _, _, _ => h.elim
theorem Les.wipe {Γ Δ : Gm} (h : Les Γ Δ) : ∀ vs : List Nat, Les (wipeG Γ vs) (wipeG Δ vs)
  | [] => h
  | v :: vs => (Les.wipe h vs).set v .no
theorem Les.noOwn : ∀ {Γ Δ : Gm}, Les Γ Δ → Les (Bk.noOwn Γ) (Bk.noOwn Δ)
  | [], [], _ => trivial
  | s :: Γ, t :: Δ, h => by
    have ih := Les.noOwn h.2
    rcases h.1 with e | e
    · subst e
      cases t <;> exact ⟨.inl rfl, ih⟩
    · subst e
      cases s <;> exact ⟨.inr rfl, ih⟩
  | [], _ :: _, h => h.elim
  | _ :: _, [], h => h.elim
/-- what comes of options -/
def Ro {α : Type} (ρ : α → α → Prop) : Option α → Option α → Prop
  | none, _ => True
  | some a, some a' => ρ a a'
  | some _, none => False
theorem Ro.lift {α : Type} {ρ : α → α → Prop} {o o' : Option α} (h : Ro ρ o o') (g : G) : Rel ρ (Bk.lift o g) (Bk.lift o' g) := by
  cases o with
  | none => exact trivial
  | some a =>
    cases o' with
    | none => exact h.elim
    | some a' => exact ⟨h, rfl⟩
mutual
theorem setT_sub : ∀ (t : T) (d : D) {Γ Δ : Gm}, Les Γ Δ → Ro Les (setT t d Γ) (setT t d Δ)
  | .var i, d, Γ, Δ, h => by
    simp only [setT, h.len]
    split
    · exact h.set _ _
    · exact trivial
  | .tup ts, .tup ds, Γ, Δ, h => by simpa only [setT] using setTs_sub ts ds h
  | .tup _, .non, _, _, _ => by simp only [setT]; exact trivial
  | .tup _, .bl _, _, _, _ => by simp only [setT]; exact trivial
  | .tup _, .int _, _, _, _ => by simp only [setT]; exact trivial
  | .tup _, .str _, _, _, _ => by simp only [setT]; exact trivial
  | .tup _, .lst _, _, _, _ => by simp only [setT]; exact trivial
  | .tup _, .m, _, _, _ => by simp only [setT]; exact trivial
  | .tup _, .scr _, _, _, _ => by simp only [setT]; exact trivial
  | .tup _, .dct _ _, _, _, _ => by simp only [setT]; exact trivial
  | .tup _, .fn, _, _, _ => by simp only [setT]; exact trivial
  | .tup _, .exc _ _, _, _, _ => by simp only [setT]; exact trivial
  | .tup _, .dks _ _, _, _, _ => by simp only [setT]; exact trivial
theorem setTs_sub : ∀ (ts : List T) (ds : List D) {Γ Δ : Gm}, Les Γ Δ → Ro Les (setTs ts ds Γ) (setTs ts ds Δ)
  | [], [], _, _, h => by simp only [setTs]; exact h
  | t :: ts, d :: ds, Γ, Δ, h => by
    simp only [setTs]
    have a := setT_sub t d h
    cases e1 : setT t d Γ with
    | none => exact trivial
    | some Γ1 =>
      rw [e1] at a
      cases e2 : setT t d Δ with
      | none => rw [e2] at a; exact a.elim
      | some Δ1 =>
        rw [e2] at a
        exact setTs_sub ts ds a
  | [], _ :: _, _, _, _ => by simp only [setTs]; exact trivial
  | _ :: _, [], _, _, _ => by simp only [setTs]; exact trivial
end
theorem parG_sub : ∀ (ts : List (Nat × Bool)) (ds : List D) {Γ Δ : Gm}, Les Γ Δ → Ro Les (parG ts ds Γ) (parG ts ds Δ)
  | [], [], _, _, h => by simp only [parG]; exact h
  | (i, o) :: ts, d :: ds, Γ, Δ, h => by
    simp only [parG, h.len]
    split
    · exact parG_sub ts ds (h.set _ _)
    · exact trivial
  | [], _ :: _, _, _, _ => by simp only [parG]; exact trivial
  | _ :: _, [], _, _, _ => by simp only [parG]; exact trivial
theorem lcR_sub {f f' : D → G → R (Option D)} (h : ∀ x g, Rel Eq (f x g) (f' x g)) : ∀ (xs : List D) (g : G), Rel Eq (lcR f xs g) (lcR f' xs g)
  | [], g => ⟨rfl, rfl⟩
  | x :: xs, g => by
    simp only [lcR]
    exact Rel.bindE (h x g).nox fun o g1 => Rel.bindE (lcR_sub h xs g1) fun ys g2 => Rel.sm _
theorem dcR_sub {f f' : D → G → R (D × D)} (h : ∀ x g, Rel Eq (f x g) (f' x g)) : ∀ (xs : List D) (d : D) (g : G), Rel Eq (dcR f xs d g) (dcR f' xs d g)
  | [], d, g => ⟨rfl, rfl⟩
  | x :: xs, d, g => by
    simp only [dcR]
    refine Rel.bindE (h x g).nox fun o g1 => ?_
    split
    · split
      · exact dcR_sub h xs _ g1
      · exact trivial
    · exact trivial
theorem dc2R_sub {f f' : D → D → G → R D} (h : ∀ x d g, Rel Eq (f x d g) (f' x d g)) : ∀ (xs : List D) (d : D) (g : G), Rel Eq (dc2R f xs d g) (dc2R f' xs d g)
  | [], d, g => ⟨rfl, rfl⟩
  | x :: xs, d, g => by
    simp only [dc2R]
    exact Rel.bindE (h x d g).nox fun o g1 => dc2R_sub h xs o g1
structure Cle (call call' : Calls) : Prop where
  f : ∀ f xs g, Rel Eq (call.f f xs g) (call'.f f xs g)
  l : ∀ f xs lam lam' g, (∀ d g, Rel Eq (lam d g) (lam' d g)) → Rel Eq (call.l f xs lam g) (call'.l f xs lam' g)
def FlR : Fl → Fl → Prop
  | .nx Γ, .nx Δ => Les Γ Δ
  | .rt d, .rt d' => d = d'
  | _, _ => False
theorem forR_sub {f f' : D → Gm → G → R Fl} (h : ∀ x Γ Δ g, Les Γ Δ → Rel FlR (f x Γ g) (f' x Δ g)) : ∀ (xs : List D) {Γ Δ : Gm} (g : G), Les Γ Δ → Rel FlR (forR f xs Γ g) (forR f' xs Δ g)
  | [], _, _, g, s => ⟨s, rfl⟩
  | x :: xs, Γ, Δ, g, s => by
    simp only [forR]
    refine Rel.bind (h x Γ Δ g s) fun a a' g1 e => ?_
    cases a <;> cases a' <;> first | exact e.elim | skip
    · exact forR_sub h xs g1 e
    · exact ⟨e, rfl⟩
theorem whlR_sub {c c' : Gm → G → R Bool} {f f' : Gm → G → R Fl} (hc : ∀ Γ Δ g, Les Γ Δ → Rel Eq (c Γ g) (c' Δ g)) (h : ∀ Γ Δ g, Les Γ Δ → Rel FlR (f Γ g) (f' Δ g)) : ∀ (n : Nat) {Γ Δ : Gm} (g : G), Les Γ Δ → Rel FlR (whlR c f n Γ g) (whlR c' f' n Δ g)
  | 0, _, _, g, s => trivial
  | n + 1, Γ, Δ, g, s => by
    simp only [whlR]
    refine Rel.bindE (hc Γ Δ g s) fun b g1 => ?_
    cases b
    · exact ⟨s, rfl⟩
    · refine Rel.bind (h Γ Δ g1 s) fun a a' g2 e => ?_
      cases a <;> cases a' <;> first | exact e.elim | skip
      · exact whlR_sub hc h n g2 e
      · exact ⟨e, rfl⟩
theorem blR_sub {r r' : R D} (h : Rel Eq r r') : Rel Eq (blR r) (blR r') := Rel.bindE h fun _ _ => Rel.sm _
theorem plainR_sub {r r' : R D} (h : Rel Eq r r') : Rel Eq (plainR r) (plainR r') := Rel.bindE h.nox fun _ _ => Rel.sm _
theorem caughtR_sub {tb : List (Nat × Str)} {r r' : R D} (h : Rel Eq r r') : Rel Eq (caughtR tb r) (caughtR tb r') := by
  cases r <;> cases r' <;> first | exact trivial | exact h.elim | skip
  · obtain ⟨rfl, rfl⟩ := h; exact Rel.sm _
  · obtain ⟨rfl, rfl, rfl⟩ := h; exact Rel.sm _
theorem plainX_sub {r r' : R D} (h : Rel Eq r r') : Rel Eq (plainX r) (plainX r') := by
  cases r <;> cases r' <;> first | exact trivial | exact h.elim | skip
  · obtain ⟨rfl, rfl⟩ := h; exact Rel.sm _
  · obtain ⟨rfl, rfl, rfl⟩ := h; exact Rel.sm _
section
variable (cs : List (Nat × D)) {call call' : Calls} (hc : Cle call call')
include hc
mutual
theorem evE_sub : ∀ (e : E) {Γ Δ : Gm} (g : G), Les Γ Δ → Rel Eq (evE cs call e Γ g) (evE cs call' e Δ g)
  | .cst d, _, _, g, h => by simp only [evE]; exact Rel.sm _
  | .var i, Γ, Δ, g, h => by
    simp only [evE]
    rcases h.get i with e | e
    · rw [e]; exact trivial
    · rw [e]; exact Rel.sm _
  | .glb i, _, _, g, h => by simp only [evE]; exact Rel.sm _
  | .bin o a b, _, _, g, h => by simp only [evE]; exact Rel.bindE (evE_sub a g h) fun x g => Rel.bindE (evE_sub b g h) fun y g => Rel.sm _
  | .neg a, _, _, g, h => by simp only [evE]; exact Rel.bindE (evE_sub a g h) fun x g => Rel.sm _
  | .cmp o a b, _, _, g, h => by simp only [evE]; exact Rel.bindE (evE_sub a g h) fun x g => Rel.bindE (evE_sub b g h) fun y g => Rel.sm _
  | .chn o p a b c, _, _, g, h => by
    simp only [evE]
    refine Rel.bindE (evE_sub a g h) fun x g => Rel.bindE (evE_sub b g h) fun y g => Rel.bindE (Rel.sm _) fun k g => ?_
    cases k
    · exact Rel.sm _
    · exact Rel.bindE (evE_sub c g h) fun _ _ => Rel.sm _
  | .and a b, _, _, g, h => by
    simp only [evE]
    refine Rel.bindE (blR_sub (evE_sub a g h)) fun k g => ?_
    cases k
    · exact Rel.sm _
    · exact Rel.bindE (blR_sub (evE_sub b g h)) fun _ _ => Rel.sm _
  | .or a b, _, _, g, h => by
    simp only [evE]
    refine Rel.bindE (blR_sub (evE_sub a g h)) fun k g => ?_
    cases k
    · exact Rel.bindE (blR_sub (evE_sub b g h)) fun _ _ => Rel.sm _
    · exact Rel.sm _
  | .not a, _, _, g, h => by simp only [evE]; exact Rel.bindE (blR_sub (evE_sub a g h)) fun k g => Rel.sm _
  | .ife c a b, _, _, g, h => by
    simp only [evE]
    refine Rel.bindE (blR_sub (evE_sub c g h)) fun k g => ?_
    cases k
    · exact evE_sub b g h
    · exact evE_sub a g h
  | .tup as, _, _, g, h => by simp only [evE]; exact Rel.bindE (evA_sub as g h) fun xs g => Rel.sm _
  | .lst as, _, _, g, h => by simp only [evE]; exact Rel.bindE (evA_sub as g h) fun xs g => Rel.sm _
  | .idx a b, _, _, g, h => by simp only [evE]; exact Rel.bindE (evE_sub a g h) fun x g => Rel.bindE (evE_sub b g h) fun y g => Rel.sm _
  | .sl a lo hi, _, _, g, h => by simp only [evE]; exact Rel.bindE (evE_sub a g h) fun x g => Rel.bindE (evO_sub lo g h) fun l g => Rel.bindE (evO_sub hi g h) fun y g => Rel.sm _
  | .lc elt t it none, Γ, Δ, g, h => by
    simp only [evE]
    refine Rel.bindE (evI_sub it g h) fun xs g => Rel.bindE (lcR_sub (fun x g => ?_) xs g) fun ys g => Rel.sm _
    exact Rel.bind ((setT_sub t x (h.wipe t.vars)).lift g) fun Γ' Δ' g h' => Rel.bindE (evE_sub elt g h') fun y g => Rel.sm _
  | .lc elt t it (some c), Γ, Δ, g, h => by
    simp only [evE]
    refine Rel.bindE (evI_sub it g h) fun xs g => Rel.bindE (lcR_sub (fun x g => ?_) xs g) fun ys g => Rel.sm _
    refine Rel.bind ((setT_sub t x (h.wipe t.vars)).lift g) fun Γ' Δ' g h' => Rel.bindE (blR_sub (evE_sub c g h')) fun k g => ?_
    cases k
    · exact Rel.sm _
    · exact Rel.bindE (evE_sub elt g h') fun y g => Rel.sm _
  | .call f as, _, _, g, h => by simp only [evE]; exact Rel.bindE (evA_sub as g h) fun xs g => hc.f f xs g
  | .callL f as i e, Γ, Δ, g, h => by
    simp only [evE, h.len]
    refine Rel.bindE (evA_sub as g h) fun xs g => ?_
    split
    · refine plainR_sub (hc.l f xs _ _ g fun d g => ?_)
      split
      · exact plainR_sub (evE_sub e g (h.noOwn.set i _))
      · exact trivial
    · exact trivial
  | .callv i a, Γ, Δ, g, h => by
    simp only [evE]
    rcases h.get i with e | e
    · rw [e]; exact trivial
    · rw [e]
      split
      · exact Rel.bindE (evE_sub a g h) fun x g => hc.f LAM [x] g
      · exact trivial
  | .bi b as, _, _, g, h => by simp only [evE]; exact Rel.bindE (evA_sub as g h) fun xs g => Rel.sm _
  | .isi a ts, _, _, g, h => by simp only [evE]; exact Rel.bindE (evE_sub a g h) fun x g => Rel.sm _
  | .draw a b, _, _, g, h => by simp only [evE]; exact Rel.bindE (evE_sub a g h) fun x g => Rel.bindE (evE_sub b g h) fun y g => Rel.sm _
  | .cat a b, _, _, g, h => by simp only [evE]; exact Rel.bindE (evE_sub a g h) fun x g => Rel.bindE (evE_sub b g h) fun y g => Rel.sm _
  | .rev a, _, _, g, h => by simp only [evE]; exact Rel.bindE (evE_sub a g h) fun x g => Rel.sm _
  | .idxO i b, Γ, Δ, g, h => by
    simp only [evE]
    rcases h.get i with e | e
    · rw [e]; exact trivial
    · rw [e]
      split
      · exact Rel.bindE (evE_sub b g h) fun y g => Rel.sm _
      · exact trivial
  | .dnil, _, _, g, h => by simp only [evE]; exact Rel.sm _
  | .done a b, _, _, g, h => by simp only [evE]; exact Rel.bindE (evE_sub a g h) fun x g => Rel.bindE (evE_sub b g h) fun y g => Rel.sm _
  | .inO neg a i, Γ, Δ, g, h => by
    simp only [evE]
    refine Rel.bindE (evE_sub a g h) fun x g => ?_
    rcases h.get i with e | e
    · rw [e]; exact trivial
    · rw [e]; exact Rel.sm _
  | .lrng1 a, _, _, g, h => by simp only [evE]; exact Rel.bindE (evE_sub a g h) fun x g => Rel.sm _
  | .lrng2 a b, _, _, g, h => by simp only [evE]; exact Rel.bindE (evE_sub a g h) fun x g => Rel.bindE (evE_sub b g h) fun y g => Rel.sm _
  | .lenO i, Γ, Δ, g, h => by
    simp only [evE]
    rcases h.get i with e | e
    · rw [e]; exact trivial
    · rw [e]; exact Rel.sm _
  | .emO neg i, Γ, Δ, g, h => by
    simp only [evE]
    rcases h.get i with e | e
    · rw [e]; exact trivial
    · rw [e]; exact Rel.sm _
  | .tupS as, _, _, g, h => by simp only [evE]; exact Rel.bindE (evA_sub as g h) fun xs g => Rel.sm _
  | .lstS as, _, _, g, h => by simp only [evE]; exact Rel.bindE (evA_sub as g h) fun xs g => Rel.sm _
  | .dcp k v t it, Γ, Δ, g, h => by
    simp only [evE]
    refine Rel.bindE (evI_sub it g h) fun xs g => dcR_sub (fun x g => ?_) xs _ g
    exact Rel.bind ((setT_sub t x (h.wipe t.vars)).lift g) fun Γ' Δ' g h' => Rel.bindE (evE_sub k g h') fun a g => Rel.bindE (evE_sub v g h') fun b g => Rel.sm _
  | .dcp2 k v t it t1 it1, Γ, Δ, g, h => by
    simp only [evE]
    refine Rel.bindE (evI_sub it g h) fun xs g => dc2R_sub (fun x d g => ?_) xs _ g
    refine Rel.bind ((setT_sub t x (h.wipe _)).lift g) fun Γ' Δ' g h' => Rel.bindE (evI_sub it1 g h') fun ys g => dcR_sub (fun y g => ?_) ys _ g
    exact Rel.bind ((setT_sub t1 y (h'.noOwn.wipe t1.vars)).lift g) fun Γ2 Δ2 g h2 => Rel.bindE (evE_sub k g h2) fun a g => Rel.bindE (evE_sub v g h2) fun b g => Rel.sm _
  | .said v tb e, _, _, g, h => by simp only [evE]; exact caughtR_sub (evE_sub e g h)
  | .callP f v ix as, _, _, g, h => by
    simp only [evE]
    refine Rel.bindE (evA_sub as g h) fun xs g => ?_
    cases pickD ix xs with
    | none => trivial
    | some ys => exact hc.f f ys g
  | .isX a yes no, _, _, g, h => by simp only [evE]; exact Rel.bindE (evE_sub a g h) fun x g => Rel.sm _
  | .fld a n cs, _, _, g, h => by simp only [evE]; exact Rel.bindE (evE_sub a g h) fun x g => Rel.sm _
  | .mkX c as, _, _, g, h => by simp only [evE]; exact Rel.bindE (evA_sub as g h) fun x g => Rel.sm _
  | .mkXk c ix as, _, _, g, h => by simp only [evE]; exact Rel.bindE (evA_sub as g h) fun x g => Rel.sm _
  | .dkd ks as, _, _, g, h => by simp only [evE]; exact Rel.bindE (evA_sub as g h) fun x g => Rel.sm _
  | .callL0 f as e, Γ, Δ, g, h => by
    simp only [evE]
    refine Rel.bindE (evA_sub as g h) fun xs g => ?_
    split
    · exact plainX_sub (hc.l f xs _ _ g fun d g => plainX_sub (evE_sub e g h.noOwn))
    · exact trivial
  | .callv0 i, Γ, Δ, g, h => by
    simp only [evE]
    rcases h.get i with e | e
    · rw [e]; exact trivial
    · rw [e]
      split
      · exact hc.f LAM [.non] g
      · exact trivial
theorem evO_sub : ∀ (e : Option E) {Γ Δ : Gm} (g : G), Les Γ Δ → Rel Eq (evO cs call e Γ g) (evO cs call' e Δ g)
  | none, _, _, g, h => by simp only [evO]; exact Rel.sm _
  | some e, _, _, g, h => by simp only [evO]; exact Rel.bindE (evE_sub e g h) fun x g => Rel.sm _
theorem evA_sub : ∀ (as : A) {Γ Δ : Gm} (g : G), Les Γ Δ → Rel Eq (evA cs call as Γ g) (evA cs call' as Δ g)
  | .nil, _, _, g, h => by simp only [evA]; exact Rel.sm _
  | .cons e as, _, _, g, h => by simp only [evA]; exact Rel.bindE (evE_sub e g h) fun x g => Rel.bindE (evA_sub as g h) fun y g => Rel.sm _
  | .star e as, _, _, g, h => by
    simp only [evA]
    refine Rel.bindE (evE_sub e g h) fun x g => ?_
    split
    · exact Rel.bindE (evA_sub as g h) fun y g => Rel.sm _
    · exact trivial
theorem evI_sub : ∀ (i : I) {Γ Δ : Gm} (g : G), Les Γ Δ → Rel Eq (evI cs call i Γ g) (evI cs call' i Δ g)
  | .seq e, _, _, g, h => by simp only [evI]; exact Rel.bindE (evE_sub e g h) fun x g => Rel.sm _
  | .rng1 a, _, _, g, h => by simp only [evI]; exact Rel.bindE (evE_sub a g h) fun x g => Rel.sm _
  | .rng2 a b, _, _, g, h => by simp only [evI]; exact Rel.bindE (evE_sub a g h) fun x g => Rel.bindE (evE_sub b g h) fun y g => Rel.sm _
  | .zip a b, _, _, g, h => by simp only [evI]; exact Rel.bindE (evE_sub a g h) fun x g => Rel.bindE (evE_sub b g h) fun y g => Rel.sm _
  | .enum a, _, _, g, h => by simp only [evI]; exact Rel.bindE (evE_sub a g h) fun x g => Rel.sm _
  | .items a, _, _, g, h => by simp only [evI]; exact Rel.bindE (evE_sub a g h) fun x g => Rel.sm _
end
omit hc in
theorem nx_sub {Γ Δ : Gm} (h : Les Γ Δ) (g : G) : Rel FlR (.ok (.nx Γ) g) (.ok (.nx Δ) g) := ⟨h, rfl⟩
mutual
theorem evS_sub : ∀ (s : S) {Γ Δ : Gm} (g : G), Les Γ Δ → Rel FlR (evS cs call s Γ g) (evS cs call' s Δ g)
  | .expr e, _, _, g, h => by simp only [evS]; exact Rel.bindE (evE_sub cs hc e g h) fun x g => nx_sub h g
  | .asg t e, _, _, g, h => by
    simp only [evS]
    exact Rel.bindE (evE_sub cs hc e g h) fun x g => Rel.bind ((setT_sub t x h).lift g) fun Γ' Δ' g h' => nx_sub h' g
  | .own i e, Γ, Δ, g, h => by
    simp only [evS, h.len]
    refine Rel.bindE (evE_sub cs hc e g h) fun x g => ?_
    split
    · split
      · exact nx_sub (h.set _ _) g
      · exact trivial
    · split
      · exact nx_sub (h.set _ _) g
      · exact trivial
    · exact trivial
  | .par ts as, _, _, g, h => by
    simp only [evS]
    exact Rel.bindE (evA_sub cs hc as g h) fun x g => Rel.bind ((parG_sub ts x h).lift g) fun Γ' Δ' g h' => nx_sub h' g
  | .aug i e, Γ, Δ, g, h => by
    simp only [evS]
    rcases h.get i with e1 | e1
    · rw [e1]; exact trivial
    · rw [e1]
      split
      · refine Rel.bindE (evE_sub cs hc e g h) fun x g => ?_
        split
        · exact nx_sub (h.set _ _) g
        · exact trivial
      · exact trivial
  | .ret e, _, _, g, h => by simp only [evS]; exact Rel.bindE (evE_sub cs hc e g h) fun x g => ⟨rfl, rfl⟩
  | .ife c a b, _, _, g, h => by
    simp only [evS]
    refine Rel.bindE (blR_sub (evE_sub cs hc c g h)) fun k g => ?_
    cases k
    · exact evB_sub b g h
    · exact evB_sub a g h
  | .for_ t it b, _, _, g, h => by
    simp only [evS]
    exact Rel.bindE (evI_sub cs hc it g h) fun xs g => forR_sub (fun x Γ Δ g h => Rel.bind ((setT_sub t x h).lift g) fun Γ' Δ' g h' => evB_sub b g h') xs g h
  | .whl n c b, _, _, g, h => by
    simp only [evS]
    exact whlR_sub (fun Γ Δ g h => blR_sub (evE_sub cs hc c g h)) (fun Γ Δ g h => evB_sub b g h) n g h
  | .app i e, Γ, Δ, g, h => by
    simp only [evS]
    rcases h.get i with e1 | e1
    · rw [e1]; exact trivial
    · rw [e1]
      split
      · refine Rel.bindE (evE_sub cs hc e g h) fun x g => ?_
        split
        · exact nx_sub (h.set _ _) g
        · exact trivial
      · exact trivial
  | .sto i a b, Γ, Δ, g, h => by
    simp only [evS]
    refine Rel.bindE (evE_sub cs hc b g h) fun y g => ?_
    rcases h.get i with e1 | e1
    · rw [e1]; exact trivial
    · rw [e1]
      split
      · refine Rel.bindE (evE_sub cs hc a g h) fun k g => ?_
        split
        · split
          · exact nx_sub (h.set _ _) g
          · exact trivial
        · exact trivial
      · refine Rel.bindE (evE_sub cs hc a g h) fun k g => ?_
        split
        · exact nx_sub (h.set _ _) g
        · exact trivial
      · exact trivial
  | .pop t i, Γ, Δ, g, h => by
    simp only [evS]
    rcases h.get i with e1 | e1
    · rw [e1]; exact trivial
    · rw [e1]
      split
      · split
        · exact Rel.bind ((setT_sub t _ (h.set _ _)).lift g) fun Γ' Δ' g h' => nx_sub h' g
        · exact trivial
      · exact trivial
  | .popE i, Γ, Δ, g, h => by
    simp only [evS]
    rcases h.get i with e1 | e1
    · rw [e1]; exact trivial
    · rw [e1]
      split
      · split
        · exact nx_sub (h.set _ _) g
        · exact trivial
      · exact trivial
  | .ext i e, Γ, Δ, g, h => by
    simp only [evS]
    rcases h.get i with e1 | e1
    · rw [e1]; exact trivial
    · rw [e1]
      split
      · refine Rel.bindE (evE_sub cs hc e g h) fun x g => ?_
        split
        · split
          · exact nx_sub (h.set _ _) g
          · exact trivial
        · exact trivial
      · exact trivial
  | .frz i, Γ, Δ, g, h => by
    simp only [evS]
    rcases h.get i with e1 | e1
    · rw [e1]
      show Rel FlR (.ok (.nx Γ) g) _
      split
      · exact nx_sub (h.noset e1 _) g
      · exact nx_sub h g
    · rw [e1]
      split
      · exact nx_sub (h.set _ _) g
      · exact nx_sub h g
  | .stop, _, _, g, h => by simp only [evS]; exact trivial
  | .pass, _, _, g, h => by simp only [evS]; exact nx_sub h g
  | .rais c as, _, _, g, h => by simp only [evS]; exact Rel.bindE (evA_sub cs hc as g h) fun x g => ⟨rfl, rfl, rfl⟩
  | .tryK j e yes i, Γ, Δ, g, h => by
    simp only [evS, h.len]
    have r := evE_sub cs hc e g h
    revert r
    generalize evE cs call e Γ g = x
    generalize evE cs call' e Δ g = y
    intro r
    cases x <;> cases y <;> first | exact trivial | exact r.elim | skip
    · obtain ⟨rfl, rfl⟩ := r
      simp only
      split
      · exact nx_sub (h.set _ _) _
      · exact trivial
    · obtain ⟨rfl, rfl, rfl⟩ := r
      simp only
      split
      · exact nx_sub (Les.refl _) _
      · exact trivial
theorem evB_sub : ∀ (b : B) {Γ Δ : Gm} (g : G), Les Γ Δ → Rel FlR (evB cs call b Γ g) (evB cs call' b Δ g)
  | .nil, _, _, g, h => by simp only [evB]; exact nx_sub h g
  | .cons s b, _, _, g, h => by
    simp only [evB]
    refine Rel.bind (evS_sub s g h) fun a a' g e => ?_
    cases a <;> cases a' <;> first | exact e.elim | skip
    · exact evB_sub b g e
    · exact ⟨e, rfl⟩
end
end
theorem Cle.ovr {call call' : Calls} (h : Cle call call') {lam lam' : D → G → R D} (hl : ∀ d g, Rel Eq (lam d g) (lam' d g)) : Cle (ovr call lam) (ovr call' lam') where
  f := fun f xs g => by
    simp only [Bk.ovr]
    split
    · split
      · exact hl _ _
      · exact trivial
    · exact h.f f xs g
  l := h.l
theorem endR_sub {r r' : R Fl} (h : Rel FlR r r') : Rel Eq (endR r) (endR r') := Rel.bind h fun a a' g e => by
  cases a <;> cases a' <;> first | exact e.elim | skip
  · exact ⟨rfl, rfl⟩
  · exact ⟨e, rfl⟩
theorem den_cle (p : Pr) : ∀ k, Cle (den p k) (den p k)
  | 0 => ⟨fun _ _ _ => trivial, fun _ _ _ _ _ _ => trivial⟩
  | k + 1 => ⟨fun f xs g => Rel.sm _, fun f xs lam lam' g hl => by
      simp only [den]
      split
      · exact trivial
      · split
        · exact endR_sub (evB_sub p.cs ((den_cle p k).ovr hl) _ g (Les.refl _))
        · exact trivial⟩
/-- what more the function that is got tells, more is told -/
class CM (call : Calls) : Prop where
  c : Cle call call
instance (p : Pr) (k : Nat) : CM (den p k) := ⟨den_cle p k⟩
end Bk
set_option Elab.async false
set_option linter.all false
namespace Bk
open PySem
def FUEL : Nat := 10 ^ 200
def b__law_plan : B := (.cons (.asg (.tup [(.var 3), (.var 4)]) (.tup (.cons (.call 1 (.cons (.var 0) (.cons (.var 1) .nil))) (.cons (.bin .add (.cst (.int 1)) (.draw (.var 0) (.var 2))) .nil)))) (.cons (.ret (.tup (.cons (.var 3) (.cons (.var 4) (.cons (.bi .tuple (.cons (.bi .sorted (.cons (.lc (.draw (.var 0) (.bin .add (.var 4) (.cst (.int 1)))) (.var 5) (.seq (.var 3)) none) .nil)) .nil)) .nil))))) .nil))
abbrev f__law_plan : Nat × Df := (0, ⟨3, 6, b__law_plan⟩)
def b_regret_of : B := (.cons (.expr (.call 6 (.cons (.var 0) .nil))) (.cons (.expr (.call 7 (.cons (.var 1) .nil))) (.cons (.ret (.bi .max (.cons (.call 8 (.cons (.var 0) (.cons (.var 1) .nil))) .nil))) .nil)))
abbrev f_regret_of : Nat × Df := (5, ⟨2, 2, b_regret_of⟩)
def b__law_of : B := (.cons (.ret (.idx (.var 1) (.draw (.var 0) (.bi .len (.cons (.var 1) .nil))))) .nil)
abbrev f__law_of : Nat × Df := (9, ⟨2, 2, b__law_of⟩)
def b_share_of : B := (.cons (.expr (.call 6 (.cons (.var 0) .nil))) (.cons (.expr (.call 7 (.cons (.var 1) .nil))) (.cons (.asg (.var 2) (.call 11 (.cons (.idx (.var 0) (.cst (.int 0))) (.cons (.call 12 (.cons (.var 0) (.cons (.var 1) .nil))) .nil)))) (.cons (.ret (.call 13 (.cons (.lc (.tup (.cons (.var 3) (.cons (.bin .mul (.var 1) (.var 4)) .nil))) (.tup [(.var 3), (.var 4)]) (.zip (.var 2) (.idx (.var 0) (.cst (.int 0)))) none) .nil))) .nil))))
abbrev f_share_of : Nat × Df := (10, ⟨2, 5, b_share_of⟩)
def b_limits_of : B := (.cons (.expr (.call 6 (.cons (.var 0) .nil))) (.cons (.expr (.call 7 (.cons (.var 1) .nil))) (.cons (.ret (.call 12 (.cons (.var 0) (.cons (.var 1) .nil)))) .nil)))
abbrev f_limits_of : Nat × Df := (14, ⟨2, 2, b_limits_of⟩)
def b_long_share : B := (.cons (.ret (.call 16 (.cons (.call 6 (.cons (.var 0) .nil)) .nil))) .nil)
abbrev f_long_share : Nat × Df := (15, ⟨1, 1, b_long_share⟩)
def b__law_like : B := (.cons (.ret (.cmp .eq (.bi .repr (.cons (.var 0) .nil)) (.bi .repr (.cons (.var 1) .nil)))) .nil)
abbrev f__law_like : Nat × Df := (17, ⟨2, 2, b__law_like⟩)
def b__law_fares : B := (.cons (.asg (.tup [(.var 3), (.var 4)]) (.tup (.cons (.tup .nil) (.cons (.cst (.int 0)) .nil)))) (.cons (.for_ (.var 2) (.rng1 (.bin .add (.cst (.int 1)) (.draw (.var 0) (.var 1)))) (.cons (.asg (.var 4) (.bin .add (.bin .add (.var 4) (.cst (.int 1))) (.draw (.var 0) (.idx (.lst (.cons (.cst (.int 3)) (.cons (.cst (.int 24)) .nil))) (.draw (.var 0) (.cst (.int 2))))))) (.cons (.asg (.var 3) (.bin .add (.var 3) (.tup (.cons (.var 4) .nil)))) .nil))) (.cons (.ret (.var 3)) .nil)))
abbrev f__law_fares : Nat × Df := (1, ⟨2, 5, b__law_fares⟩)
def b_common : B := (.cons (.whl FUEL (.cmp .ne (.var 1) (.cst (.int 0))) (.cons (.par [(0, false), (1, false)] (.cons (.var 1) (.cons (.bin .mod (.bi .int (.cons (.var 0) .nil)) (.var 1)) .nil))) .nil)) (.cons (.ret (.var 0)) .nil))
abbrev f_common : Nat × Df := (4, ⟨2, 2, b_common⟩)
def b_need_plan : B := (.cons (.ife (.or (.not (.isi (.var 0) [.tuple])) (.cmp .ne (.bi .len (.cons (.var 0) .nil)) (.cst (.int 3)))) (.cons (.rais 4 (.cons (.cst (.str "form")) .nil)) .nil) .nil) (.cons (.expr (.call 20 (.cons (.idx (.var 0) (.cst (.int 0))) .nil))) (.cons (.ife (.not (.call 21 (.cons (.idx (.var 0) (.cst (.int 1))) (.cons (.cst (.int 1)) (.cons (.glb 0) .nil))))) (.cons (.rais 4 (.cons (.cst (.str "of")) .nil)) .nil) .nil) (.cons (.ife (.or (.not (.isi (.idx (.var 0) (.cst (.int 2))) [.tuple])) (.cmp .ne (.bi .len (.cons (.idx (.var 0) (.cst (.int 2))) .nil)) (.bi .len (.cons (.idx (.var 0) (.cst (.int 0))) .nil)))) (.cons (.rais 4 (.cons (.cst (.str "parts")) .nil)) .nil) .nil) (.cons (.ife (.or (.not (.bi .all (.cons (.lc (.call 21 (.cons (.var 1) (.cons (.cst (.int 0)) (.cons (.idx (.var 0) (.cst (.int 1))) .nil)))) (.var 1) (.seq (.idx (.var 0) (.cst (.int 2)))) none) .nil))) (.not (.call 22 (.cons (.idx (.var 0) (.cst (.int 2))) .nil)))) (.cons (.rais 4 (.cons (.cst (.str "parts")) .nil)) .nil) .nil) (.cons (.ret (.var 0)) .nil))))))
abbrev f_need_plan : Nat × Df := (6, ⟨1, 2, b_need_plan⟩)
def b_need_room : B := (.cons (.ife (.not (.call 21 (.cons (.var 0) (.cons (.cst (.int 1)) (.cons (.glb 1) .nil))))) (.cons (.rais 3 (.cons (.var 0) .nil)) .nil) .nil) .nil)
abbrev f_need_room : Nat × Df := (7, ⟨1, 1, b_need_room⟩)
def b_regrets_at : B := (.cons (.asg (.var 2) (.call 11 (.cons (.idx (.var 0) (.cst (.int 0))) (.cons (.call 12 (.cons (.var 0) (.cons (.var 1) .nil))) .nil)))) (.cons (.ret (.lc (.bin .sub (.bin .mul (.var 1) (.var 3)) (.var 4)) (.tup [(.var 3), (.var 4)]) (.zip (.idx (.var 0) (.cst (.int 0))) (.var 2)) none)) .nil))
abbrev f_regrets_at : Nat × Df := (8, ⟨2, 5, b_regrets_at⟩)
def b_gains_by : B := (.cons (.par [(2, true), (3, false), (4, false)] (.cons (.lst .nil) (.cons (.cst (.int 0)) (.cons (.cst (.int 0)) .nil)))) (.cons (.for_ (.tup [(.var 5), (.var 6)]) (.zip (.var 0) (.var 1)) (.cons (.aug 4 (.bin .mul (.var 5) (.bin .sub (.var 6) (.var 3)))) (.cons (.asg (.var 3) (.var 6)) (.cons (.app 2 (.var 4)) .nil)))) (.cons (.frz 2) (.cons (.ret (.var 2)) .nil))))
abbrev f_gains_by : Nat × Df := (11, ⟨2, 7, b_gains_by⟩)
def b_lesser_share : B := (.cons (.asg (.var 1) (.idx (.var 0) (.cst (.int 0)))) (.cons (.for_ (.var 2) (.seq (.sl (.var 0) (some (.cst (.int 1))) none)) (.cons (.ife (.cmp .lt (.bin .mul (.idx (.var 2) (.cst (.int 0))) (.idx (.var 1) (.cst (.int 1)))) (.bin .mul (.idx (.var 1) (.cst (.int 0))) (.idx (.var 2) (.cst (.int 1))))) (.cons (.asg (.var 1) (.var 2)) .nil) .nil) .nil)) (.cons (.ret (.call 23 (.cons (.idx (.var 1) (.cst (.int 0))) (.cons (.idx (.var 1) (.cst (.int 1))) .nil)))) .nil)))
abbrev f_lesser_share : Nat × Df := (13, ⟨1, 3, b_lesser_share⟩)
def b_limits_in : B := (.cons (.ret (.bi .tuple (.cons (.lc (.bin .div (.bin .mul (.var 2) (.var 1)) (.idx (.var 0) (.cst (.int 1)))) (.var 2) (.seq (.idx (.var 0) (.cst (.int 2)))) none) .nil))) .nil)
abbrev f_limits_in : Nat × Df := (12, ⟨2, 3, b_limits_in⟩)
def b_long_in : B := (.cons (.asg (.var 1) (.call 11 (.cons (.idx (.var 0) (.cst (.int 0))) (.cons (.idx (.var 0) (.cst (.int 2))) .nil)))) (.cons (.ret (.call 13 (.cons (.lc (.tup (.cons (.var 2) (.cons (.bin .mul (.idx (.var 0) (.cst (.int 1))) (.var 3)) .nil))) (.tup [(.var 2), (.var 3)]) (.zip (.var 1) (.idx (.var 0) (.cst (.int 0)))) none) .nil))) .nil))
abbrev f_long_in : Nat × Df := (16, ⟨1, 4, b_long_in⟩)
def b_need_fares : B := (.cons (.ife (.not (.call 24 (.cons (.var 0) .nil))) (.cons (.rais 4 (.cons (.cst (.str "fares")) .nil)) .nil) .nil) (.cons (.ret (.var 0)) .nil))
abbrev f_need_fares : Nat × Df := (20, ⟨1, 1, b_need_fares⟩)
def b_is_whole : B := (.cons (.ret (.and (.isi (.var 0) [.int]) (.and (.not (.isi (.var 0) [.bool])) (.chn .le .le (.var 1) (.var 0) (.var 2))))) .nil)
abbrev f_is_whole : Nat × Df := (21, ⟨3, 3, b_is_whole⟩)
def b_are_rising : B := (.cons (.ret (.bi .all (.cons (.lc (.cmp .le (.var 1) (.var 2)) (.tup [(.var 1), (.var 2)]) (.zip (.var 0) (.sl (.var 0) (some (.cst (.int 1))) none)) none) .nil))) .nil)
abbrev f_are_rising : Nat × Df := (22, ⟨1, 3, b_are_rising⟩)
def b_fraction : B := (.cons (.ife (.cmp .eq (.var 1) (.cst (.int 0))) (.cons (.ret (.tup (.cons (.cst (.int 1)) (.cons (.cst (.int 1)) .nil)))) .nil) .nil) (.cons (.asg (.var 2) (.call 4 (.cons (.var 0) (.cons (.var 1) .nil)))) (.cons (.ret (.tup (.cons (.bin .div (.var 0) (.var 2)) (.cons (.bin .div (.var 1) (.var 2)) .nil)))) .nil)))
abbrev f_fraction : Nat × Df := (23, ⟨2, 3, b_fraction⟩)
def b_are_fares : B := (.cons (.ife (.or (.not (.isi (.var 0) [.tuple])) (.not (.chn .le .le (.cst (.int 1)) (.bi .len (.cons (.var 0) .nil)) (.glb 2)))) (.cons (.ret (.cst (.bl false))) .nil) .nil) (.cons (.ife (.not (.bi .all (.cons (.lc (.call 21 (.cons (.var 1) (.cons (.cst (.int 1)) (.cons (.glb 3) .nil)))) (.var 1) (.seq (.var 0)) none) .nil))) (.cons (.ret (.cst (.bl false))) .nil) .nil) (.cons (.ret (.bi .all (.cons (.lc (.cmp .lt (.var 2) (.var 3)) (.tup [(.var 2), (.var 3)]) (.zip (.var 0) (.sl (.var 0) (some (.cst (.int 1))) none)) none) .nil))) .nil)))
abbrev f_are_fares : Nat × Df := (24, ⟨1, 4, b_are_fares⟩)
def b__law_yard : B := (.cons (.par [(4, true), (5, false)] (.cons (.lst .nil) (.cons (.cst (.int 0)) .nil))) (.cons (.for_ (.var 3) (.rng1 (.bin .add (.cst (.int 1)) (.draw (.var 0) (.var 2)))) (.cons (.asg (.var 5) (.bin .add (.bin .add (.var 5) (.cst (.int 1))) (.idx (.lst (.cons (.draw (.var 0) (.cst (.int 3))) (.cons (.draw (.var 0) (.cst (.int 24))) (.cons (.cst (.int 0)) .nil)))) (.draw (.var 0) (.cst (.int 3)))))) (.cons (.app 4 (.var 5)) .nil))) (.cons (.frz 4) (.cons (.ret (.tup (.cons (.bin .add (.cst (.int 1)) (.draw (.var 0) (.var 1))) (.cons (.bi .tuple (.cons (.var 4) .nil)) .nil)))) .nil))))
abbrev f__law_yard : Nat × Df := (46, ⟨3, 6, b__law_yard⟩)
def b__law_book : B := (.cons (.asg (.var 2) (.draw (.var 0) (.cst (.int 6)))) (.cons (.asg (.var 3) (.call 48 (.cons (.var 0) (.cons (.var 1) .nil)))) (.cons (.ife (.cmp .isin (.var 2) (.tup (.cons (.cst (.int 2)) (.cons (.cst (.int 3)) (.cons (.cst (.int 5)) .nil))))) (.cons (.asg (.var 3) (.tup (.cons (.idx (.lst (.cons (.cst (.str "all")) (.cons (.cst (.str "any")) .nil))) (.draw (.var 0) (.cst (.int 2)))) (.cons (.var 3) (.cons (.call 48 (.cons (.var 0) (.cons (.var 1) .nil))) .nil))))) .nil) .nil) (.cons (.ife (.cmp .eq (.var 2) (.cst (.int 3))) (.cons (.asg (.var 3) (.tup (.cons (.idx (.lst (.cons (.cst (.str "all")) (.cons (.cst (.str "any")) .nil))) (.draw (.var 0) (.cst (.int 2)))) (.cons (.call 48 (.cons (.var 0) (.cons (.var 1) .nil))) (.cons (.var 3) .nil))))) .nil) .nil) (.cons (.ret (.ife (.cmp .gt (.var 2) (.cst (.int 3))) (.tup (.cons (.cst (.str "oust")) (.cons (.var 3) (.cons (.idx (.lst (.cons (.cst (.int 0)) (.cons (.cst (.int 1)) (.cons (.draw (.var 0) (.cst (.int 12))) (.cons (.cst (.int 99)) .nil))))) (.draw (.var 0) (.cst (.int 4)))) .nil)))) (.var 3))) .nil)))))
abbrev f__law_book : Nat × Df := (47, ⟨2, 4, b__law_book⟩)
def b__law_dearest : B := (.cons (.asg (.var 2) (.sl (.rev (.bi .sorted (.cons (.var 1) .nil))) none (some (.idx (.var 0) (.cst (.int 0)))))) (.cons (.ret (.bi .tuple (.cons (.lc (.bi .len (.cons (.lc (.var 4) (.var 4) (.seq (.var 2)) (some (.cmp .eq (.var 4) (.var 3)))) .nil)) (.var 3) (.rng1 (.bi .len (.cons (.idx (.var 0) (.cst (.int 1))) .nil))) none) .nil))) .nil))
abbrev f__law_dearest : Nat × Df := (49, ⟨2, 5, b__law_dearest⟩)
def b_regret : B := (.cons (.asg (.var 3) (.call 52 (.cons (.var 0) (.cons (.var 1) (.cons (.var 2) .nil))))) (.cons (.ret (.bin .sub (.call 53 (.cons (.var 0) (.cons (.var 2) .nil))) (.var 3))) .nil))
abbrev f_regret : Nat × Df := (51, ⟨3, 4, b_regret⟩)
def b_share : B := (.cons (.ret (.call 23 (.cons (.call 52 (.cons (.var 0) (.cons (.var 1) (.cons (.var 2) .nil)))) (.cons (.call 53 (.cons (.var 0) (.cons (.var 2) .nil))) .nil)))) .nil)
abbrev f_share : Nat × Df := (54, ⟨3, 3, b_share⟩)
def b__law_step : B := (.cons (.own 5 (.bi .list (.cons (.var 2) .nil))) (.cons (.ife (.and (.cmp .lt (.bi .sum (.cons (.var 2) .nil)) (.idx (.var 0) (.cst (.int 0)))) (.call 56 (.cons (.var 0) (.cons (.var 1) (.cons (.var 2) (.cons (.var 4) .nil)))))) (.cons (.sto 5 (.var 4) (.bin .add (.idxO 5 (.var 4)) (.cst (.int 1)))) (.cons (.frz 5) (.cons (.ret (.tup (.cons (.bi .tuple (.cons (.var 5) .nil)) (.cons (.var 3) (.cons (.cst (.str "taken")) .nil))))) .nil))) .nil) (.cons (.asg (.var 6) (.lc (.var 7) (.var 7) (.rng1 (.var 4)) (some (.cmp .gt (.idx (.var 2) (.var 7)) (.cst (.int 0)))))) (.cons (.ife (.and (.cmp .eq (.idx (.var 1) (.cst (.int 0))) (.cst (.str "oust"))) (.and (.cmp .ne (.var 6) (.lst .nil)) (.cmp .gt (.idx (.idx (.var 0) (.cst (.int 1))) (.var 4)) (.bin .add (.idx (.idx (.var 0) (.cst (.int 1))) (.idx (.var 6) (.cst (.int 0)))) (.idx (.var 1) (.cst (.int 2))))))) (.cons (.sto 5 (.idx (.var 6) (.cst (.int 0))) (.bin .sub (.idxO 5 (.idx (.var 6) (.cst (.int 0)))) (.cst (.int 1)))) (.cons (.sto 5 (.var 4) (.bin .add (.idxO 5 (.var 4)) (.cst (.int 1)))) (.cons (.frz 5) (.cons (.ret (.tup (.cons (.bi .tuple (.cons (.var 5) .nil)) (.cons (.bin .add (.var 3) (.idx (.var 1) (.cst (.int 2)))) (.cons (.cst (.str "ousted")) .nil))))) .nil)))) .nil) (.cons (.ret (.tup (.cons (.var 2) (.cons (.var 3) (.cons (.cst (.str "refused")) .nil))))) .nil)))))
abbrev f__law_step : Nat × Df := (55, ⟨5, 8, b__law_step⟩)
def b__law_sum : B := (.cons (.ret (.bi .sum (.cons (.lc (.bin .mul (.idx (.idx (.var 0) (.cst (.int 1))) (.var 2)) (.idx (.var 1) (.var 2))) (.var 2) (.rng1 (.bi .len (.cons (.var 1) .nil))) none) .nil))) .nil)
abbrev f__law_sum : Nat × Df := (57, ⟨2, 3, b__law_sum⟩)
def b_got : B := (.cons (.asg (.tup [(.var 3), (.var 4), (.var 5)]) (.call 58 (.cons (.var 0) (.cons (.var 1) (.cons (.var 2) .nil))))) (.cons (.ret (.bin .sub (.call 59 (.cons (.var 0) (.cons (.var 3) .nil))) (.var 4))) .nil))
abbrev f_got : Nat × Df := (52, ⟨3, 6, b_got⟩)
def b_seen : B := (.cons (.expr (.call 61 (.cons (.var 0) .nil))) (.cons (.ret (.call 62 (.cons (.var 0) (.cons (.call 63 (.cons (.var 0) (.cons (.var 1) .nil))) .nil)))) .nil))
abbrev f_seen : Nat × Df := (60, ⟨2, 2, b_seen⟩)
def b_hindsight : B := (.cons (.ret (.call 59 (.cons (.var 0) (.cons (.call 60 (.cons (.var 0) (.cons (.var 1) .nil))) .nil)))) .nil)
abbrev f_hindsight : Nat × Df := (53, ⟨2, 2, b_hindsight⟩)
def b_went : B := (.cons (.expr (.call 64 (.cons (.var 0) (.cons (.var 1) .nil)))) (.cons (.asg (.tup [(.var 3), (.var 4), (.var 5)]) (.call 65 (.cons (.var 0) (.cons (.var 1) (.cons (.call 63 (.cons (.var 0) (.cons (.var 2) .nil))) .nil))))) (.cons (.ret (.tup (.cons (.var 3) (.cons (.var 4) (.cons (.bi .tuple (.cons (.var 5) .nil)) .nil))))) .nil)))
abbrev f_went : Nat × Df := (58, ⟨3, 6, b_went⟩)
def b__law_lowest : B := (.cons (.ife (.cmp .eq (.var 1) (.cst (.int 0))) (.cons (.ret (.tup (.cons (.cst (.int 1)) (.cons (.cst (.int 1)) .nil)))) .nil) .nil) (.cons (.asg (.var 2) (.lc (.var 3) (.var 3) (.rng2 (.cst (.int 1)) (.bin .add (.var 1) (.cst (.int 1)))) (some (.and (.cmp .eq (.bin .mod (.bi .int (.cons (.var 0) .nil)) (.var 3)) (.cst (.int 0))) (.cmp .eq (.bin .mod (.bi .int (.cons (.var 1) .nil)) (.var 3)) (.cst (.int 0))))))) (.cons (.ret (.tup (.cons (.bin .div (.var 0) (.idx (.var 2) (.neg (.cst (.int 1))))) (.cons (.bin .div (.var 1) (.idx (.var 2) (.neg (.cst (.int 1))))) .nil)))) .nil)))
abbrev f__law_lowest : Nat × Df := (66, ⟨2, 4, b__law_lowest⟩)
def b__law_bare : B := (.cons (.asg (.var 2) (.idx (.lst (.cons (.cst (.str "apart")) (.cons (.cst (.str "nested")) (.cons (.cst (.str "kept")) .nil)))) (.draw (.var 0) (.cst (.int 3))))) (.cons (.own 3 (.lc (.draw (.var 0) (.bin .add (.idx (.var 1) (.cst (.int 0))) (.cst (.int 1)))) (.var 4) (.seq (.idx (.var 1) (.cst (.int 1)))) none)) (.cons (.ife (.cmp .eq (.var 2) (.cst (.str "nested"))) (.cons (.frz 3) (.cons (.own 3 (.bi .sorted (.cons (.var 3) .nil))) (.cons (.sto 3 (.neg (.cst (.int 1))) (.idx (.lst (.cons (.idxO 3 (.neg (.cst (.int 1)))) (.cons (.idx (.var 1) (.cst (.int 0))) .nil))) (.draw (.var 0) (.cst (.int 2))))) .nil))) .nil) (.cons (.frz 3) (.cons (.ret (.tup (.cons (.var 2) (.cons (.bi .tuple (.cons (.var 3) .nil)) .nil)))) .nil)))))
abbrev f__law_bare : Nat × Df := (48, ⟨2, 5, b__law_bare⟩)
def b__law_lets : B := (.cons (.ife (.cmp .eq (.idx (.var 1) (.cst (.int 0))) (.cst (.str "all"))) (.cons (.ret (.and (.call 56 (.cons (.var 0) (.cons (.idx (.var 1) (.cst (.int 1))) (.cons (.var 2) (.cons (.var 3) .nil))))) (.call 56 (.cons (.var 0) (.cons (.idx (.var 1) (.cst (.int 2))) (.cons (.var 2) (.cons (.var 3) .nil))))))) .nil) .nil) (.cons (.ife (.cmp .eq (.idx (.var 1) (.cst (.int 0))) (.cst (.str "any"))) (.cons (.ret (.or (.call 56 (.cons (.var 0) (.cons (.idx (.var 1) (.cst (.int 1))) (.cons (.var 2) (.cons (.var 3) .nil))))) (.call 56 (.cons (.var 0) (.cons (.idx (.var 1) (.cst (.int 2))) (.cons (.var 2) (.cons (.var 3) .nil))))))) .nil) .nil) (.cons (.ife (.cmp .eq (.idx (.var 1) (.cst (.int 0))) (.cst (.str "oust"))) (.cons (.ret (.call 56 (.cons (.var 0) (.cons (.idx (.var 1) (.cst (.int 1))) (.cons (.var 2) (.cons (.var 3) .nil)))))) .nil) .nil) (.cons (.ife (.cmp .eq (.idx (.var 1) (.cst (.int 0))) (.cst (.str "apart"))) (.cons (.ret (.cmp .le (.bin .add (.idx (.var 2) (.var 3)) (.cst (.int 1))) (.idx (.idx (.var 1) (.cst (.int 1))) (.var 3)))) .nil) .nil) (.cons (.ife (.cmp .eq (.idx (.var 1) (.cst (.int 0))) (.cst (.str "kept"))) (.cons (.ret (.cmp .lt (.bin .add (.bi .sum (.cons (.var 2) .nil)) (.idx (.idx (.var 1) (.cst (.int 1))) (.var 3))) (.idx (.var 0) (.cst (.int 0))))) .nil) .nil) (.cons (.asg (.var 4) (.lc (.bin .add (.idx (.var 2) (.var 6)) (.bi .int (.cons (.cmp .eq (.var 6) (.var 3)) .nil))) (.var 6) (.rng1 (.bi .len (.cons (.var 2) .nil))) none)) (.cons (.asg (.var 5) (.lc (.var 6) (.var 6) (.rng2 (.var 3) (.bi .len (.cons (.var 2) .nil))) (some (.cmp .gt (.bi .sum (.cons (.sl (.var 4) none (some (.bin .add (.var 6) (.cst (.int 1))))) .nil)) (.idx (.idx (.var 1) (.cst (.int 1))) (.var 6)))))) (.cons (.ret (.cmp .eq (.var 5) (.lst .nil))) .nil))))))))
abbrev f__law_lets : Nat × Df := (56, ⟨4, 7, b__law_lets⟩)
def b_worth_of : B := (.cons (.ret (.bi .sum (.cons (.lc (.bin .mul (.var 2) (.var 3)) (.tup [(.var 2), (.var 3)]) (.zip (.idx (.var 0) (.cst (.int 1))) (.var 1)) none) .nil))) .nil)
abbrev f_worth_of : Nat × Df := (59, ⟨2, 4, b_worth_of⟩)
def b_need_hall : B := (.cons (.ife (.or (.not (.isi (.var 0) [.tuple])) (.cmp .ne (.bi .len (.cons (.var 0) .nil)) (.cst (.int 2)))) (.cons (.rais 0 (.cons (.cst (.str "form")) .nil)) .nil) .nil) (.cons (.ife (.not (.call 21 (.cons (.idx (.var 0) (.cst (.int 0))) (.cons (.cst (.int 1)) (.cons (.glb 5) .nil))))) (.cons (.rais 0 (.cons (.cst (.str "seats")) .nil)) .nil) .nil) (.cons (.ife (.or (.not (.isi (.idx (.var 0) (.cst (.int 1))) [.tuple])) (.not (.chn .le .le (.cst (.int 1)) (.bi .len (.cons (.idx (.var 0) (.cst (.int 1))) .nil)) (.glb 2)))) (.cons (.rais 0 (.cons (.cst (.str "fares")) .nil)) .nil) .nil) (.cons (.ife (.not (.bi .all (.cons (.lc (.call 21 (.cons (.var 1) (.cons (.cst (.int 1)) (.cons (.glb 3) .nil)))) (.var 1) (.seq (.idx (.var 0) (.cst (.int 1)))) none) .nil))) (.cons (.rais 0 (.cons (.cst (.str "fares")) .nil)) .nil) .nil) (.cons (.ife (.not (.bi .all (.cons (.lc (.cmp .lt (.var 2) (.var 3)) (.tup [(.var 2), (.var 3)]) (.zip (.idx (.var 0) (.cst (.int 1))) (.sl (.idx (.var 0) (.cst (.int 1))) (some (.cst (.int 1))) none)) none) .nil))) (.cons (.rais 0 (.cons (.cst (.str "fares")) .nil)) .nil) .nil) (.cons (.ret (.var 0)) .nil))))))
abbrev f_need_hall : Nat × Df := (61, ⟨1, 4, b_need_hall⟩)
def b_seen_of : B := (.cons (.asg (.var 2) (.call 67 (.cons (.var 0) .nil))) (.cons (.for_ (.var 3) (.seq (.var 1)) (.cons (.asg (.var 2) (.call 68 (.cons (.var 0) (.cons (.var 2) (.cons (.var 3) .nil))))) .nil)) (.cons (.ret (.var 2)) .nil)))
abbrev f_seen_of : Nat × Df := (62, ⟨2, 4, b_seen_of⟩)
def b_need_calls : B := (.cons (.ife (.or (.not (.isi (.var 1) [.list, .tuple])) (.cmp .gt (.bi .len (.cons (.var 1) .nil)) (.glb 6))) (.cons (.rais 2 (.cons (.cst .non) .nil)) .nil) .nil) (.cons (.for_ (.tup [(.var 2), (.var 3)]) (.enum (.var 1)) (.cons (.ife (.not (.call 21 (.cons (.var 3) (.cons (.cst (.int 0)) (.cons (.bin .sub (.bi .len (.cons (.idx (.var 0) (.cst (.int 1))) .nil)) (.cst (.int 1))) .nil))))) (.cons (.rais 2 (.cons (.var 2) .nil)) .nil) .nil) .nil)) (.cons (.ret (.bi .tuple (.cons (.var 1) .nil))) .nil)))
abbrev f_need_calls : Nat × Df := (63, ⟨2, 4, b_need_calls⟩)
def b_need_rule : B := (.cons (.expr (.call 61 (.cons (.var 0) .nil))) (.cons (.par [(2, true), (3, false)] (.cons (.lst (.cons (.tup (.cons (.var 1) (.cons (.tup .nil) .nil))) .nil)) (.cons (.cst (.int 0)) .nil))) (.cons (.whl FUEL (.emO true 2) (.cons (.pop (.tup [(.var 4), (.var 5)]) 2) (.cons (.aug 3 (.cst (.int 1))) (.cons (.ife (.or (.cmp .gt (.var 3) (.glb 8)) (.or (.cmp .gt (.bi .len (.cons (.var 5) .nil)) (.glb 7)) (.not (.call 69 (.cons (.var 0) (.cons (.var 4) (.cons (.cmp .eq (.var 5) (.tup .nil)) .nil))))))) (.cons (.rais 1 (.cons (.var 5) .nil)) .nil) .nil) (.cons (.ext 2 (.lc (.tup (.cons (.idx (.var 4) (.var 6)) (.cons (.tupS (.star (.var 5) (.cons (.var 6) .nil))) .nil))) (.var 6) (.seq (.rev (.call 70 (.cons (.var 4) .nil)))) none)) .nil))))) (.cons (.ret (.var 1)) .nil))))
abbrev f_need_rule : Nat × Df := (64, ⟨2, 7, b_need_rule⟩)
def b_went_of : B := (.cons (.par [(4, false), (5, false), (6, true)] (.cons (.call 67 (.cons (.var 0) .nil)) (.cons (.cst (.int 0)) (.cons (.lst .nil) .nil)))) (.cons (.for_ (.var 3) (.seq (.var 2)) (.cons (.asg (.tup [(.var 4), (.var 5), (.var 7)]) (.call 71 (.cons (.var 0) (.cons (.var 1) (.cons (.var 4) (.cons (.var 5) (.cons (.var 3) .nil))))))) (.cons (.app 6 (.var 7)) .nil))) (.cons (.frz 6) (.cons (.ret (.tup (.cons (.var 4) (.cons (.var 5) (.cons (.var 6) .nil))))) .nil))))
abbrev f_went_of : Nat × Df := (65, ⟨3, 8, b_went_of⟩)
def b_none_of : B := (.cons (.ret (.bin .mul (.tup (.cons (.cst (.int 0)) .nil)) (.bi .len (.cons (.idx (.var 0) (.cst (.int 1))) .nil)))) .nil)
abbrev f_none_of : Nat × Df := (67, ⟨1, 1, b_none_of⟩)
def b_seen_with : B := (.cons (.asg (.var 3) (.call 72 (.cons (.var 1) (.cons (.var 2) (.cons (.cst (.int 1)) .nil))))) (.cons (.ret (.ife (.cmp .le (.bi .sum (.cons (.var 3) .nil)) (.idx (.var 0) (.cst (.int 0)))) (.var 3) (.call 72 (.cons (.var 3) (.cons (.call 73 (.cons (.var 3) .nil)) (.cons (.neg (.cst (.int 1))) .nil)))))) .nil))
abbrev f_seen_with : Nat × Df := (68, ⟨3, 4, b_seen_with⟩)
def b_is_word : B := (.cons (.ife (.or (.not (.isi (.var 1) [.tuple])) (.or (.cmp .eq (.var 1) (.tup .nil)) (.not (.isi (.idx (.var 1) (.cst (.int 0))) [.str])))) (.cons (.ret (.cst (.bl false))) .nil) .nil) (.cons (.ife (.cmp .isin (.idx (.var 1) (.cst (.int 0))) (.tup (.cons (.glb 11) (.cons (.glb 10) (.cons (.glb 9) .nil))))) (.cons (.ret (.call 74 (.cons (.var 0) (.cons (.var 1) .nil)))) .nil) .nil) (.cons (.ife (.cmp .isin (.idx (.var 1) (.cst (.int 0))) (.tup (.cons (.glb 13) (.cons (.glb 12) .nil)))) (.cons (.ret (.cmp .eq (.bi .len (.cons (.var 1) .nil)) (.cst (.int 3)))) .nil) .nil) (.cons (.ret (.and (.cmp .eq (.idx (.var 1) (.cst (.int 0))) (.glb 15)) (.and (.var 2) (.and (.cmp .eq (.bi .len (.cons (.var 1) .nil)) (.cst (.int 3))) (.call 21 (.cons (.idx (.var 1) (.cst (.int 2))) (.cons (.cst (.int 0)) (.cons (.glb 14) .nil)))))))) .nil))))
abbrev f_is_word : Nat × Df := (69, ⟨3, 3, b_is_word⟩)
def b_parts_of : B := (.cons (.ret (.ife (.cmp .isin (.idx (.var 0) (.cst (.int 0))) (.tup (.cons (.glb 13) (.cons (.glb 12) .nil)))) (.lst (.cons (.cst (.int 1)) (.cons (.cst (.int 2)) .nil))) (.ife (.cmp .eq (.idx (.var 0) (.cst (.int 0))) (.glb 15)) (.lst (.cons (.cst (.int 1)) .nil)) (.lst .nil)))) .nil)
abbrev f_parts_of : Nat × Df := (70, ⟨1, 1, b_parts_of⟩)
def b_step_of : B := (.cons (.ife (.and (.cmp .lt (.bi .sum (.cons (.var 2) .nil)) (.idx (.var 0) (.cst (.int 0)))) (.call 75 (.cons (.var 0) (.cons (.var 1) (.cons (.var 2) (.cons (.var 4) .nil)))))) (.cons (.ret (.tup (.cons (.call 72 (.cons (.var 2) (.cons (.var 4) (.cons (.cst (.int 1)) .nil)))) (.cons (.var 3) (.cons (.glb 16) .nil))))) .nil) .nil) (.cons (.asg (.var 5) (.call 73 (.cons (.var 2) .nil))) (.cons (.ife (.and (.cmp .eq (.idx (.var 1) (.cst (.int 0))) (.glb 15)) (.and (.cmp .notN (.var 5) (.cst .non)) (.and (.cmp .lt (.var 5) (.var 4)) (.cmp .gt (.bin .sub (.idx (.idx (.var 0) (.cst (.int 1))) (.var 4)) (.idx (.idx (.var 0) (.cst (.int 1))) (.var 5))) (.idx (.var 1) (.cst (.int 2))))))) (.cons (.ret (.tup (.cons (.call 72 (.cons (.call 72 (.cons (.var 2) (.cons (.var 5) (.cons (.neg (.cst (.int 1))) .nil)))) (.cons (.var 4) (.cons (.cst (.int 1)) .nil)))) (.cons (.bin .add (.var 3) (.idx (.var 1) (.cst (.int 2)))) (.cons (.glb 17) .nil))))) .nil) .nil) (.cons (.ret (.tup (.cons (.var 2) (.cons (.var 3) (.cons (.glb 18) .nil))))) .nil))))
abbrev f_step_of : Nat × Df := (71, ⟨5, 6, b_step_of⟩)
def b_with_more : B := (.cons (.ret (.bin .add (.bin .add (.sl (.var 0) none (some (.var 1))) (.tup (.cons (.bin .add (.idx (.var 0) (.var 1)) (.var 2)) .nil))) (.sl (.var 0) (some (.bin .add (.var 1) (.cst (.int 1)))) none))) .nil)
abbrev f_with_more : Nat × Df := (72, ⟨3, 3, b_with_more⟩)
def b_cheapest_sold : B := (.cons (.asg (.var 1) (.lc (.var 2) (.tup [(.var 2), (.var 3)]) (.enum (.var 0)) (some (.cmp .gt (.var 3) (.cst (.int 0)))))) (.cons (.ret (.ife (.cmp .ne (.var 1) (.lst .nil)) (.idx (.var 1) (.cst (.int 0))) (.cst .non))) .nil))
abbrev f_cheapest_sold : Nat × Df := (73, ⟨1, 4, b_cheapest_sold⟩)
def b_is_plain : B := (.cons (.ife (.or (.cmp .ne (.bi .len (.cons (.var 1) .nil)) (.cst (.int 2))) (.not (.call 76 (.cons (.var 0) (.cons (.idx (.var 1) (.cst (.int 1))) .nil))))) (.cons (.ret (.cst (.bl false))) .nil) .nil) (.cons (.ret (.or (.cmp .ne (.idx (.var 1) (.cst (.int 0))) (.glb 10)) (.bi .all (.cons (.lc (.cmp .le (.var 2) (.var 3)) (.tup [(.var 2), (.var 3)]) (.zip (.idx (.var 1) (.cst (.int 1))) (.sl (.idx (.var 1) (.cst (.int 1))) (some (.cst (.int 1))) none)) none) .nil)))) .nil))
abbrev f_is_plain : Nat × Df := (74, ⟨2, 4, b_is_plain⟩)
def b_lets_of : B := (.cons (.ife (.cmp .eq (.idx (.var 1) (.cst (.int 0))) (.glb 13)) (.cons (.ret (.and (.call 75 (.cons (.var 0) (.cons (.idx (.var 1) (.cst (.int 1))) (.cons (.var 2) (.cons (.var 3) .nil))))) (.call 75 (.cons (.var 0) (.cons (.idx (.var 1) (.cst (.int 2))) (.cons (.var 2) (.cons (.var 3) .nil))))))) .nil) .nil) (.cons (.ife (.cmp .eq (.idx (.var 1) (.cst (.int 0))) (.glb 12)) (.cons (.ret (.or (.call 75 (.cons (.var 0) (.cons (.idx (.var 1) (.cst (.int 1))) (.cons (.var 2) (.cons (.var 3) .nil))))) (.call 75 (.cons (.var 0) (.cons (.idx (.var 1) (.cst (.int 2))) (.cons (.var 2) (.cons (.var 3) .nil))))))) .nil) .nil) (.cons (.ret (.ife (.cmp .eq (.idx (.var 1) (.cst (.int 0))) (.glb 15)) (.call 75 (.cons (.var 0) (.cons (.idx (.var 1) (.cst (.int 1))) (.cons (.var 2) (.cons (.var 3) .nil))))) (.call 77 (.cons (.var 0) (.cons (.var 1) (.cons (.var 2) (.cons (.var 3) .nil))))))) .nil)))
abbrev f_lets_of : Nat × Df := (75, ⟨4, 4, b_lets_of⟩)
def b_are_limits : B := (.cons (.ife (.or (.not (.isi (.var 1) [.tuple])) (.cmp .ne (.bi .len (.cons (.var 1) .nil)) (.bi .len (.cons (.idx (.var 0) (.cst (.int 1))) .nil)))) (.cons (.ret (.cst (.bl false))) .nil) .nil) (.cons (.ret (.bi .all (.cons (.lc (.call 21 (.cons (.var 2) (.cons (.cst (.int 0)) (.cons (.idx (.var 0) (.cst (.int 0))) .nil)))) (.var 2) (.seq (.var 1)) none) .nil))) .nil))
abbrev f_are_limits : Nat × Df := (76, ⟨2, 3, b_are_limits⟩)
def b_lets_plain : B := (.cons (.asg (.tup [(.var 4), (.var 5)]) (.var 1)) (.cons (.ife (.cmp .eq (.var 4) (.glb 11)) (.cons (.ret (.cmp .lt (.idx (.var 2) (.var 3)) (.idx (.var 5) (.var 3)))) .nil) .nil) (.cons (.ife (.cmp .eq (.var 4) (.glb 9)) (.cons (.ret (.cmp .gt (.bin .sub (.idx (.var 0) (.cst (.int 0))) (.bi .sum (.cons (.var 2) .nil))) (.idx (.var 5) (.var 3)))) .nil) .nil) (.cons (.ret (.bi .all (.cons (.lc (.cmp .lt (.bi .sum (.cons (.sl (.var 2) none (some (.bin .add (.var 6) (.cst (.int 1))))) .nil)) (.idx (.var 5) (.var 6))) (.var 6) (.rng2 (.var 3) (.bi .len (.cons (.var 2) .nil))) none) .nil))) .nil))))
abbrev f_lets_plain : Nat × Df := (77, ⟨4, 7, b_lets_plain⟩)
def b__law_is_less : B := (.cons (.ret (.cmp .lt (.bin .mul (.idx (.var 0) (.cst (.int 0))) (.idx (.var 1) (.cst (.int 1)))) (.bin .mul (.idx (.var 1) (.cst (.int 0))) (.idx (.var 0) (.cst (.int 1)))))) .nil)
abbrev f__law_is_less : Nat × Df := (83, ⟨2, 2, b__law_is_less⟩)
def b_fares_at : B := (.cons (.asg (.var 3) (.ife (.cmp .eq (.var 1) (.glb 19)) (.bi .max2 (.cons (.cst (.int 0)) (.cons (.idx (.var 2) (.cst (.int 3))) .nil))) (.cst (.int 0)))) (.cons (.ret (.lrng2 (.var 3) (.bi .len (.cons (.idx (.var 0) (.cst (.int 1))) .nil)))) .nil))
abbrev f_fares_at : Nat × Df := (92, ⟨3, 4, b_fares_at⟩)
def b__law_small : B := (.cons (.asg (.var 1) (.call 46 (.cons (.var 0) (.cons (.idx (.lst (.cons (.cst (.int 3)) (.cons (.cst (.int 3)) (.cons (.cst (.int 4)) (.cons (.cst (.int 2)) .nil))))) (.draw (.var 0) (.cst (.int 4)))) (.cons (.cst (.int 3)) .nil))))) (.cons (.ret (.tup (.cons (.var 1) (.cons (.call 47 (.cons (.var 0) (.cons (.var 1) .nil))) (.cons (.idx (.lst (.cons (.cst (.str "any")) (.cons (.cst (.str "rising")) .nil))) (.draw (.var 0) (.cst (.int 2)))) .nil))))) .nil))
abbrev f__law_small : Nat × Df := (112, ⟨1, 2, b__law_small⟩)
def b__law_net : B := (.cons (.par [(3, true), (4, true)] (.cons .dnil (.cons (.lst (.cons (.call 114 (.cons (.var 0) .nil)) .nil)) .nil))) (.cons (.whl FUEL (.emO true 4) (.cons (.pop (.var 5) 4) (.cons (.ife (.inO true (.var 5) 3) (.cons (.sto 3 (.var 5) (.call 115 (.cons (.var 0) (.cons (.var 1) (.cons (.var 2) (.cons (.var 5) .nil)))))) (.cons (.frz 4) (.cons (.own 4 (.cat (.var 4) (.lc (.idx (.var 6) (.cst (.int 1))) (.var 6) (.seq (.idxO 3 (.var 5))) none))) .nil))) .nil) .nil))) (.cons (.frz 3) (.cons (.ret (.var 3)) .nil))))
abbrev f__law_net : Nat × Df := (113, ⟨3, 7, b__law_net⟩)
def b_states : B := (.cons (.expr (.call 117 (.cons (.var 0) (.cons (.var 1) (.cons (.var 2) .nil))))) (.cons (.ret (.bi .tuple (.cons (.bi .sortd (.cons (.bi .list (.cons (.call 118 (.cons (.var 0) (.cons (.var 1) (.cons (.var 2) .nil)))) .nil)) .nil)) .nil))) .nil))
abbrev f_states : Nat × Df := (116, ⟨3, 3, b_states⟩)
def b_never_taken : B := (.cons (.expr (.call 117 (.cons (.var 0) (.cons (.var 1) (.cons (.var 2) .nil))))) (.cons (.asg (.var 3) (.call 118 (.cons (.var 0) (.cons (.var 1) (.cons (.var 2) .nil))))) (.cons (.ret (.bi .tuple (.cons (.lc (.var 4) (.var 4) (.rng1 (.bi .len (.cons (.idx (.var 0) (.cst (.int 1))) .nil))) (some (.not (.bi .any (.cons (.lc (.cmp .gt (.idx (.idx (.var 5) (.cst (.int 0))) (.var 4)) (.cst (.int 0))) (.var 5) (.seq (.var 3)) none) .nil))))) .nil))) .nil)))
abbrev f_never_taken : Nat × Df := (119, ⟨3, 6, b_never_taken⟩)
def b__law_begin : B := (.cons (.asg (.var 1) (.bin .mul (.tup (.cons (.cst (.int 0)) .nil)) (.bi .len (.cons (.idx (.var 0) (.cst (.int 1))) .nil)))) (.cons (.ret (.tup (.cons (.var 1) (.cons (.cst (.int 0)) (.cons (.var 1) (.cons (.neg (.cst (.int 1))) .nil)))))) .nil))
abbrev f__law_begin : Nat × Df := (114, ⟨1, 2, b__law_begin⟩)
def b__law_next : B := (.cons (.asg (.tup [(.var 6), (.var 7), (.var 8), (.var 9)]) (.var 3)) (.cons (.own 4 (.lst .nil)) (.cons (.for_ (.var 5) (.rng1 (.bi .len (.cons (.idx (.var 0) (.cst (.int 1))) .nil))) (.cons (.ife (.or (.cmp .eq (.var 2) (.cst (.str "any"))) (.cmp .ge (.var 5) (.var 9))) (.cons (.asg (.var 10) (.sl (.call 55 (.cons (.var 0) (.cons (.var 1) (.cons (.var 6) (.cons (.var 7) (.cons (.var 5) .nil)))))) none (some (.cst (.int 2))))) (.cons (.asg (.var 11) (.call 49 (.cons (.var 0) (.cons (.bin .add (.call 120 (.cons (.var 8) .nil)) (.lst (.cons (.var 5) .nil))) .nil)))) (.cons (.app 4 (.tup (.cons (.var 5) (.cons (.bin .add (.var 10) (.tup (.cons (.var 11) (.cons (.ife (.cmp .eq (.var 2) (.cst (.str "rising"))) (.var 5) (.neg (.cst (.int 1)))) .nil)))) .nil)))) .nil))) .nil) .nil)) (.cons (.frz 4) (.cons (.ret (.var 4)) .nil)))))
abbrev f__law_next : Nat × Df := (115, ⟨4, 12, b__law_next⟩)
def b_need_all : B := (.cons (.expr (.call 64 (.cons (.var 0) (.cons (.var 1) .nil)))) (.cons (.expr (.call 107 (.cons (.var 2) .nil))) .nil))
abbrev f_need_all : Nat × Df := (117, ⟨3, 3, b_need_all⟩)
def b_net_of : B := (.cons (.par [(3, true), (4, true)] (.cons .dnil (.cons (.lst (.cons (.call 121 (.cons (.var 0) .nil)) .nil)) .nil))) (.cons (.whl FUEL (.emO true 4) (.cons (.pop (.var 5) 4) (.cons (.ife (.inO true (.var 5) 3) (.cons (.ife (.cmp .eq (.lenO 3) (.glb 20)) (.cons (.rais 9 (.cons (.glb 20) .nil)) .nil) .nil) (.cons (.sto 3 (.var 5) (.lc (.tup (.cons (.var 6) (.cons (.call 122 (.cons (.var 0) (.cons (.var 1) (.cons (.var 2) (.cons (.var 5) (.cons (.var 6) .nil)))))) .nil))) (.var 6) (.seq (.call 92 (.cons (.var 0) (.cons (.var 2) (.cons (.var 5) .nil))))) none)) (.cons (.ext 4 (.lc (.var 7) (.tup [(.var 6), (.var 7)]) (.seq (.idxO 3 (.var 5))) none)) .nil))) .nil) .nil))) (.cons (.frz 3) (.cons (.ret (.var 3)) .nil))))
abbrev f_net_of : Nat × Df := (118, ⟨3, 8, b_net_of⟩)
def b__law_listed : B := (.cons (.asg (.var 1) (.lst .nil)) (.cons (.for_ (.var 2) (.rng1 (.bi .len (.cons (.var 0) .nil))) (.cons (.asg (.var 1) (.bin .add (.var 1) (.bin .mul (.lst (.cons (.var 2) .nil)) (.idx (.var 0) (.var 2))))) .nil)) (.cons (.ret (.var 1)) .nil)))
abbrev f__law_listed : Nat × Df := (120, ⟨1, 3, b__law_listed⟩)
def b_need_kind : B := (.cons (.ife (.or (.not (.isi (.var 0) [.str])) (.cmp .notin (.var 0) (.tup (.cons (.glb 12) (.cons (.glb 19) .nil))))) (.cons (.rais 10 (.cons (.var 0) .nil)) .nil) .nil) (.cons (.ret (.var 0)) .nil))
abbrev f_need_kind : Nat × Df := (107, ⟨1, 1, b_need_kind⟩)
def b_begin_state : B := (.cons (.ret (.tup (.cons (.call 67 (.cons (.var 0) .nil)) (.cons (.cst (.int 0)) (.cons (.call 67 (.cons (.var 0) .nil)) (.cons (.neg (.cst (.int 1))) .nil)))))) .nil)
abbrev f_begin_state : Nat × Df := (121, ⟨1, 1, b_begin_state⟩)
def b_later_state : B := (.cons (.asg (.tup [(.var 5), (.var 6), (.var 7)]) (.call 71 (.cons (.var 0) (.cons (.var 1) (.cons (.idx (.var 3) (.cst (.int 0))) (.cons (.idx (.var 3) (.cst (.int 1))) (.cons (.var 4) .nil))))))) (.cons (.ret (.tup (.cons (.var 5) (.cons (.var 6) (.cons (.call 68 (.cons (.var 0) (.cons (.idx (.var 3) (.cst (.int 2))) (.cons (.var 4) .nil)))) (.cons (.ife (.cmp .eq (.var 2) (.glb 19)) (.var 4) (.neg (.cst (.int 1)))) .nil)))))) .nil))
abbrev f_later_state : Nat × Df := (122, ⟨5, 8, b_later_state⟩)
def b_row_to : B := (.cons (.expr (.call 133 (.cons (.var 0) (.cons (.var 1) (.cons (.var 2) (.cons (.var 3) .nil)))))) (.cons (.ife (.or (.not (.isi (.var 4) [.int])) (.isi (.var 4) [.bool])) (.cons (.rais 11 (.cons (.var 4) .nil)) .nil) .nil) (.cons (.expr (.call 118 (.cons (.var 0) (.cons (.var 1) (.cons (.var 2) .nil))))) (.cons (.ret (.callL 136 (.cons (.var 0) (.cons (.var 1) (.cons (.var 2) .nil))) 5 (.cmp .ge (.call 134 (.cons (.var 0) (.cons (.var 3) (.cons (.var 5) .nil)))) (.var 4)))) .nil))))
abbrev f_row_to : Nat × Df := (123, ⟨5, 6, b_row_to⟩)
def b__law_fewest : B := (.cons (.for_ (.tup [(.var 5), (.var 6)]) (.enum (.var 2)) (.cons (.ife (.cmp .ne (.lc (.var 7) (.var 7) (.seq (.var 6)) (some (.chn .le .le (.var 3) (.call 125 (.cons (.var 0) (.cons (.var 1) (.cons (.var 7) .nil)))) (.var 4)))) (.lst .nil)) (.cons (.ret (.lst (.cons (.var 5) .nil))) .nil) .nil) .nil)) (.cons (.ret (.lst .nil)) .nil))
abbrev f__law_fewest : Nat × Df := (124, ⟨5, 8, b__law_fewest⟩)
def b__law_gone : B := (.cons (.ife (.not (.isi (.var 3) [.tuple])) (.cons (.ret (.cst .non)) .nil) .nil) (.cons (.asg (.var 4) (.call 114 (.cons (.var 0) .nil))) (.cons (.for_ (.var 5) (.seq (.var 3)) (.cons (.asg (.var 6) (.lc (.var 8) (.tup [(.var 7), (.var 8)]) (.seq (.call 115 (.cons (.var 0) (.cons (.var 1) (.cons (.var 2) (.cons (.var 4) .nil)))))) (some (.cmp .eq (.bi .repr (.cons (.var 7) .nil)) (.bi .repr (.cons (.var 5) .nil)))))) (.cons (.ife (.cmp .eq (.var 6) (.lst .nil)) (.cons (.ret (.cst .non)) .nil) .nil) (.cons (.asg (.var 4) (.idx (.var 6) (.cst (.int 0)))) .nil)))) (.cons (.ret (.var 4)) .nil))))
abbrev f__law_gone : Nat × Df := (126, ⟨4, 9, b__law_gone⟩)
def b__law_measure : B := (.cons (.asg (.var 2) (.lst (.cons (.tup (.cons (.cst (.str "regret")) .nil)) (.cons (.tup (.cons (.cst (.str "regret")) .nil)) (.cons (.tup (.cons (.cst (.str "empty")) .nil)) (.cons (.tup (.cons (.cst (.str "paid")) .nil)) .nil)))))) (.cons (.ret (.call 9 (.cons (.var 0) (.cons (.bin .add (.var 2) (.lc (.tup (.cons (.cst (.str "sold")) (.cons (.var 3) .nil))) (.var 3) (.rng1 (.bi .len (.cons (.idx (.var 1) (.cst (.int 1))) .nil))) none)) .nil)))) .nil))
abbrev f__law_measure : Nat × Df := (127, ⟨2, 4, b__law_measure⟩)
def b__law_layers : B := (.cons (.par [(3, true), (4, true)] (.cons (.lst (.cons (.lst (.cons (.call 114 (.cons (.var 0) .nil)) .nil)) .nil)) (.cons .dnil .nil))) (.cons (.sto 4 (.call 114 (.cons (.var 0) .nil)) (.cst (.bl true))) (.cons (.whl FUEL (.cmp .ne (.idxO 3 (.neg (.cst (.int 1)))) (.lst .nil)) (.cons (.own 5 (.lst .nil)) (.cons (.for_ (.var 6) (.seq (.idxO 3 (.neg (.cst (.int 1))))) (.cons (.for_ (.tup [(.var 7), (.var 8)]) (.seq (.call 115 (.cons (.var 0) (.cons (.var 1) (.cons (.var 2) (.cons (.var 6) .nil)))))) (.cons (.ife (.inO true (.var 8) 4) (.cons (.sto 4 (.var 8) (.cst (.bl true))) (.cons (.app 5 (.var 8)) .nil)) .nil) .nil)) .nil)) (.cons (.frz 5) (.cons (.app 3 (.var 5)) .nil))))) (.cons (.frz 3) (.cons (.ret (.sl (.var 3) none (some (.neg (.cst (.int 1)))))) .nil)))))
abbrev f__law_layers : Nat × Df := (128, ⟨3, 9, b__law_layers⟩)
def b__law_measured : B := (.cons (.ife (.cmp .eq (.idx (.var 1) (.cst (.int 0))) (.cst (.str "regret"))) (.cons (.ret (.bin .sub (.call 57 (.cons (.var 0) (.cons (.idx (.var 2) (.cst (.int 2))) .nil))) (.call 129 (.cons (.var 0) (.cons (.var 2) .nil))))) .nil) .nil) (.cons (.ife (.cmp .eq (.idx (.var 1) (.cst (.int 0))) (.cst (.str "empty"))) (.cons (.ret (.bin .sub (.bi .sum (.cons (.idx (.var 2) (.cst (.int 2))) .nil)) (.bi .sum (.cons (.idx (.var 2) (.cst (.int 0))) .nil)))) .nil) .nil) (.cons (.ret (.ife (.cmp .eq (.idx (.var 1) (.cst (.int 0))) (.cst (.str "paid"))) (.idx (.var 2) (.cst (.int 1))) (.idx (.idx (.var 2) (.cst (.int 0))) (.idx (.var 1) (.cst (.int 1)))))) .nil)))
abbrev f__law_measured : Nat × Df := (125, ⟨3, 3, b__law_measured⟩)
def b_bound_paper : B := (.cons (.expr (.call 133 (.cons (.var 0) (.cons (.var 1) (.cons (.var 2) (.cons (.var 3) .nil)))))) (.cons (.asg (.var 5) (.call 118 (.cons (.var 0) (.cons (.var 1) (.cons (.var 2) .nil))))) (.cons (.asg (.var 6) (.lc (.call 134 (.cons (.var 0) (.cons (.var 3) (.cons (.var 9) .nil)))) (.var 9) (.seq (.var 5)) none)) (.cons (.asg (.var 7) (.ife (.var 4) (.bi .min (.cons (.var 6) .nil)) (.bi .max (.cons (.var 6) .nil)))) (.cons (.asg (.var 8) (.callL 136 (.cons (.var 0) (.cons (.var 1) (.cons (.var 2) .nil))) 9 (.cmp .eq (.call 134 (.cons (.var 0) (.cons (.var 3) (.cons (.var 9) .nil)))) (.var 7)))) (.cons (.ret (.tup (.cons (.var 7) (.cons (.bi .tuple (.cons (.bi .sortd (.cons (.bi .list (.cons (.var 5) .nil)) .nil)) .nil)) (.cons (.var 8) .nil))))) .nil))))))
abbrev f_bound_paper : Nat × Df := (130, ⟨5, 10, b_bound_paper⟩)
def b_check_bound : B := (.cons (.expr (.call 133 (.cons (.var 0) (.cons (.var 1) (.cons (.var 2) (.cons (.var 3) .nil)))))) (.cons (.ife (.or (.not (.isi (.var 4) [.tuple])) (.or (.cmp .ne (.bi .len (.cons (.var 4) .nil)) (.cst (.int 3))) (.not (.call 140 (.cons (.idx (.var 4) (.cst (.int 0))) (.cons (.cst (.int 0)) .nil)))))) (.cons (.rais 7 (.cons (.cst (.str "form")) .nil)) .nil) .nil) (.cons (.asg (.tup [(.var 7), (.var 8), (.var 9)]) (.var 4)) (.cons (.ife (.not (.call 139 (.cons (.var 0) (.cons (.var 1) (.cons (.var 2) (.cons (.var 8) .nil)))))) (.cons (.rais 7 (.cons (.cst (.str "table")) .nil)) .nil) .nil) (.cons (.for_ (.var 6) (.seq (.var 8)) (.cons (.asg (.var 10) (.call 134 (.cons (.var 0) (.cons (.var 3) (.cons (.var 6) .nil))))) (.cons (.ife (.ife (.var 5) (.cmp .lt (.var 10) (.var 7)) (.cmp .gt (.var 10) (.var 7))) (.cons (.rais 7 (.cons (.cst (.str "table")) .nil)) .nil) .nil) .nil))) (.cons (.asg (.var 6) (.call 138 (.cons (.var 0) (.cons (.var 1) (.cons (.var 2) (.cons (.var 9) .nil)))))) (.cons (.ife (.or (.cmp .isN (.var 6) (.cst .non)) (.cmp .ne (.call 134 (.cons (.var 0) (.cons (.var 3) (.cons (.var 6) .nil)))) (.var 7))) (.cons (.rais 7 (.cons (.cst (.str "row")) .nil)) .nil) .nil) (.cons (.ret (.var 7)) .nil))))))))
abbrev f_check_bound : Nat × Df := (131, ⟨6, 11, b_check_bound⟩)
def b_bounds : B := (.cons (.expr (.call 133 (.cons (.var 0) (.cons (.var 1) (.cons (.var 2) (.cons (.var 3) .nil)))))) (.cons (.asg (.var 4) (.lc (.call 134 (.cons (.var 0) (.cons (.var 3) (.cons (.var 5) .nil)))) (.var 5) (.seq (.call 118 (.cons (.var 0) (.cons (.var 1) (.cons (.var 2) .nil))))) none)) (.cons (.ret (.tup (.cons (.bi .min (.cons (.var 4) .nil)) (.cons (.bi .max (.cons (.var 4) .nil)) .nil)))) .nil)))
abbrev f_bounds : Nat × Df := (132, ⟨4, 6, b_bounds⟩)
def b_need_asked : B := (.cons (.expr (.call 117 (.cons (.var 0) (.cons (.var 1) (.cons (.var 2) .nil))))) (.cons (.expr (.call 135 (.cons (.var 0) (.cons (.var 3) .nil)))) .nil))
abbrev f_need_asked : Nat × Df := (133, ⟨4, 4, b_need_asked⟩)
def b_shortest : B := (.cons (.par [(4, true), (5, false)] (.cons (.done (.call 121 (.cons (.var 0) .nil)) (.cst (.bl true))) (.cons (.lst (.cons (.tup (.cons (.call 121 (.cons (.var 0) .nil)) (.cons (.tup .nil) .nil))) .nil)) .nil))) (.cons (.whl FUEL (.cmp .ne (.var 5) (.lst .nil)) (.cons (.own 6 (.lst .nil)) (.cons (.for_ (.tup [(.var 7), (.var 8)]) (.seq (.var 5)) (.cons (.ife (.callv 3 (.var 7)) (.cons (.ret (.var 8)) .nil) .nil) (.cons (.for_ (.var 9) (.seq (.call 92 (.cons (.var 0) (.cons (.var 2) (.cons (.var 7) .nil))))) (.cons (.asg (.var 10) (.call 122 (.cons (.var 0) (.cons (.var 1) (.cons (.var 2) (.cons (.var 7) (.cons (.var 9) .nil))))))) (.cons (.ife (.inO true (.var 10) 4) (.cons (.sto 4 (.var 10) (.cst (.bl true))) (.cons (.app 6 (.tup (.cons (.var 10) (.cons (.tupS (.star (.var 8) (.cons (.var 9) .nil))) .nil)))) .nil)) .nil) .nil))) .nil))) (.cons (.frz 6) (.cons (.asg (.var 5) (.var 6)) .nil))))) (.cons (.ret (.cst .non)) .nil)))
abbrev f_shortest : Nat × Df := (136, ⟨4, 11, b_shortest⟩)
def b_measure_of : B := (.cons (.ife (.cmp .eq (.idx (.var 1) (.cst (.int 0))) (.glb 21)) (.cons (.ret (.bin .sub (.call 59 (.cons (.var 0) (.cons (.idx (.var 2) (.cst (.int 2))) .nil))) (.call 137 (.cons (.var 0) (.cons (.var 2) .nil))))) .nil) .nil) (.cons (.ife (.cmp .eq (.idx (.var 1) (.cst (.int 0))) (.glb 22)) (.cons (.ret (.bin .sub (.bi .sum (.cons (.idx (.var 2) (.cst (.int 2))) .nil)) (.bi .sum (.cons (.idx (.var 2) (.cst (.int 0))) .nil)))) .nil) .nil) (.cons (.ret (.ife (.cmp .eq (.idx (.var 1) (.cst (.int 0))) (.glb 23)) (.idx (.var 2) (.cst (.int 1))) (.idx (.idx (.var 2) (.cst (.int 0))) (.idx (.var 1) (.cst (.int 1)))))) .nil)))
abbrev f_measure_of : Nat × Df := (134, ⟨3, 3, b_measure_of⟩)
def b__law_gain_129 : B := (.cons (.ret (.bin .sub (.call 57 (.cons (.var 0) (.cons (.idx (.var 1) (.cst (.int 0))) .nil))) (.idx (.var 1) (.cst (.int 1))))) .nil)
abbrev f__law_gain_129 : Nat × Df := (129, ⟨2, 2, b__law_gain_129⟩)
def b_state_behind : B := (.cons (.ife (.not (.isi (.var 3) [.tuple])) (.cons (.ret (.cst .non)) .nil) .nil) (.cons (.asg (.var 4) (.call 121 (.cons (.var 0) .nil))) (.cons (.for_ (.var 5) (.seq (.var 3)) (.cons (.ife (.or (.not (.call 21 (.cons (.var 5) (.cons (.cst (.int 0)) (.cons (.bin .sub (.bi .len (.cons (.idx (.var 0) (.cst (.int 1))) .nil)) (.cst (.int 1))) .nil))))) (.cmp .notin (.var 5) (.call 92 (.cons (.var 0) (.cons (.var 2) (.cons (.var 4) .nil)))))) (.cons (.ret (.cst .non)) .nil) .nil) (.cons (.asg (.var 4) (.call 122 (.cons (.var 0) (.cons (.var 1) (.cons (.var 2) (.cons (.var 4) (.cons (.var 5) .nil))))))) .nil))) (.cons (.ret (.var 4)) .nil))))
abbrev f_state_behind : Nat × Df := (138, ⟨4, 6, b_state_behind⟩)
def b_is_table : B := (.cons (.ife (.or (.not (.isi (.var 3) [.tuple])) (.not (.bi .all (.cons (.lc (.call 141 (.cons (.var 0) (.cons (.var 2) (.cons (.var 5) .nil)))) (.var 5) (.seq (.var 3)) none) .nil)))) (.cons (.ret (.cst (.bl false))) .nil) .nil) (.cons (.ife (.not (.bi .all (.cons (.lc (.cmp .lt (.var 7) (.var 8)) (.tup [(.var 7), (.var 8)]) (.zip (.var 3) (.sl (.var 3) (some (.cst (.int 1))) none)) none) .nil))) (.cons (.ret (.cst (.bl false))) .nil) .nil) (.cons (.asg (.var 4) (.dcp (.var 5) (.cst (.bl true)) (.var 5) (.seq (.var 3)))) (.cons (.ife (.cmp .notin (.call 121 (.cons (.var 0) .nil)) (.var 4)) (.cons (.ret (.cst (.bl false))) .nil) .nil) (.cons (.for_ (.var 5) (.seq (.var 3)) (.cons (.for_ (.var 6) (.seq (.call 92 (.cons (.var 0) (.cons (.var 2) (.cons (.var 5) .nil))))) (.cons (.ife (.cmp .notin (.call 122 (.cons (.var 0) (.cons (.var 1) (.cons (.var 2) (.cons (.var 5) (.cons (.var 6) .nil)))))) (.var 4)) (.cons (.ret (.cst (.bl false))) .nil) .nil) .nil)) .nil)) (.cons (.ret (.cst (.bl true))) .nil))))))
abbrev f_is_table : Nat × Df := (139, ⟨4, 9, b_is_table⟩)
def b_is_from : B := (.cons (.ret (.and (.isi (.var 0) [.int]) (.and (.not (.isi (.var 0) [.bool])) (.cmp .ge (.var 0) (.var 1))))) .nil)
abbrev f_is_from : Nat × Df := (140, ⟨2, 2, b_is_from⟩)
def b_need_measure : B := (.cons (.ife (.or (.not (.isi (.var 1) [.tuple])) (.or (.cmp .eq (.var 1) (.tup .nil)) (.not (.isi (.idx (.var 1) (.cst (.int 0))) [.str])))) (.cons (.rais 11 (.cons (.var 1) .nil)) .nil) .nil) (.cons (.ife (.cmp .eq (.idx (.var 1) (.cst (.int 0))) (.glb 24)) (.cons (.ife (.or (.cmp .ne (.bi .len (.cons (.var 1) .nil)) (.cst (.int 2))) (.not (.call 21 (.cons (.idx (.var 1) (.cst (.int 1))) (.cons (.cst (.int 0)) (.cons (.bin .sub (.bi .len (.cons (.idx (.var 0) (.cst (.int 1))) .nil)) (.cst (.int 1))) .nil)))))) (.cons (.rais 11 (.cons (.var 1) .nil)) .nil) .nil) .nil) (.cons (.ife (.or (.cmp .ne (.bi .len (.cons (.var 1) .nil)) (.cst (.int 1))) (.cmp .notin (.idx (.var 1) (.cst (.int 0))) (.tup (.cons (.glb 21) (.cons (.glb 22) (.cons (.glb 23) .nil)))))) (.cons (.rais 11 (.cons (.var 1) .nil)) .nil) .nil) .nil)) (.cons (.ret (.var 1)) .nil)))
abbrev f_need_measure : Nat × Df := (135, ⟨2, 2, b_need_measure⟩)
def b_got_in : B := (.cons (.ret (.bin .sub (.call 59 (.cons (.var 0) (.cons (.idx (.var 1) (.cst (.int 0))) .nil))) (.idx (.var 1) (.cst (.int 1))))) .nil)
abbrev f_got_in : Nat × Df := (137, ⟨2, 2, b_got_in⟩)
def b_is_state : B := (.cons (.ife (.or (.not (.isi (.var 2) [.tuple])) (.cmp .ne (.bi .len (.cons (.var 2) .nil)) (.cst (.int 4)))) (.cons (.ret (.cst (.bl false))) .nil) .nil) (.cons (.ife (.or (.not (.call 142 (.cons (.var 0) (.cons (.idx (.var 2) (.cst (.int 0))) .nil)))) (.or (.not (.call 140 (.cons (.idx (.var 2) (.cst (.int 1))) (.cons (.cst (.int 0)) .nil)))) (.not (.call 142 (.cons (.var 0) (.cons (.idx (.var 2) (.cst (.int 2))) .nil)))))) (.cons (.ret (.cst (.bl false))) .nil) .nil) (.cons (.ret (.call 21 (.cons (.idx (.var 2) (.cst (.int 3))) (.cons (.neg (.cst (.int 1))) (.cons (.ife (.cmp .eq (.var 1) (.glb 19)) (.bin .sub (.bi .len (.cons (.idx (.var 0) (.cst (.int 1))) .nil)) (.cst (.int 1))) (.neg (.cst (.int 1)))) .nil))))) .nil)))
abbrev f_is_state : Nat × Df := (141, ⟨3, 3, b_is_state⟩)
def b_are_counts : B := (.cons (.ife (.or (.not (.isi (.var 1) [.tuple])) (.cmp .ne (.bi .len (.cons (.var 1) .nil)) (.bi .len (.cons (.idx (.var 0) (.cst (.int 1))) .nil)))) (.cons (.ret (.cst (.bl false))) .nil) .nil) (.cons (.ret (.and (.bi .all (.cons (.lc (.call 21 (.cons (.var 2) (.cons (.cst (.int 0)) (.cons (.glb 5) .nil)))) (.var 2) (.seq (.var 1)) none) .nil)) (.cmp .le (.bi .sum (.cons (.var 1) .nil)) (.idx (.var 0) (.cst (.int 0)))))) .nil))
abbrev f_are_counts : Nat × Df := (142, ⟨2, 3, b_are_counts⟩)
def b_share_paper : B := (.cons (.expr (.call 117 (.cons (.var 0) (.cons (.var 1) (.cons (.var 2) .nil))))) (.cons (.asg (.var 3) (.call 118 (.cons (.var 0) (.cons (.var 1) (.cons (.var 2) .nil))))) (.cons (.asg (.var 4) (.call 162 (.cons (.lc (.call 160 (.cons (.var 0) (.cons (.var 6) .nil))) (.var 6) (.seq (.var 3)) none) .nil))) (.cons (.asg (.var 5) (.callL 136 (.cons (.var 0) (.cons (.var 1) (.cons (.var 2) .nil))) 6 (.cmp .eq (.call 160 (.cons (.var 0) (.cons (.var 6) .nil))) (.var 4)))) (.cons (.ret (.tup (.cons (.var 4) (.cons (.bi .tuple (.cons (.bi .sortd (.cons (.bi .list (.cons (.var 3) .nil)) .nil)) .nil)) (.cons (.var 5) .nil))))) .nil)))))
abbrev f_share_paper : Nat × Df := (154, ⟨3, 7, b_share_paper⟩)
def b_check_share : B := (.cons (.expr (.call 117 (.cons (.var 0) (.cons (.var 1) (.cons (.var 2) .nil))))) (.cons (.ife (.or (.not (.isi (.var 3) [.tuple])) (.or (.cmp .ne (.bi .len (.cons (.var 3) .nil)) (.cst (.int 3))) (.not (.call 158 (.cons (.idx (.var 3) (.cst (.int 0))) .nil))))) (.cons (.rais 7 (.cons (.cst (.str "form")) .nil)) .nil) .nil) (.cons (.ife (.not (.call 139 (.cons (.var 0) (.cons (.var 1) (.cons (.var 2) (.cons (.idx (.var 3) (.cst (.int 1))) .nil)))))) (.cons (.rais 7 (.cons (.cst (.str "table")) .nil)) .nil) .nil) (.cons (.ife (.not (.bi .all (.cons (.lc (.call 159 (.cons (.var 0) (.cons (.var 4) (.cons (.idx (.var 3) (.cst (.int 0))) .nil)))) (.var 4) (.seq (.idx (.var 3) (.cst (.int 1)))) none) .nil))) (.cons (.rais 7 (.cons (.cst (.str "table")) .nil)) .nil) .nil) (.cons (.asg (.var 4) (.call 138 (.cons (.var 0) (.cons (.var 1) (.cons (.var 2) (.cons (.idx (.var 3) (.cst (.int 2))) .nil)))))) (.cons (.ife (.or (.cmp .isN (.var 4) (.cst .non)) (.cmp .ne (.call 160 (.cons (.var 0) (.cons (.var 4) .nil))) (.idx (.var 3) (.cst (.int 0))))) (.cons (.rais 7 (.cons (.cst (.str "row")) .nil)) .nil) .nil) (.cons (.ret (.idx (.var 3) (.cst (.int 0)))) .nil)))))))
abbrev f_check_share : Nat × Df := (157, ⟨4, 5, b_check_share⟩)
def b_least_share : B := (.cons (.expr (.call 117 (.cons (.var 0) (.cons (.var 1) (.cons (.var 2) .nil))))) (.cons (.ret (.call 162 (.cons (.lc (.call 160 (.cons (.var 0) (.cons (.var 3) .nil))) (.var 3) (.seq (.call 118 (.cons (.var 0) (.cons (.var 1) (.cons (.var 2) .nil))))) none) .nil))) .nil))
abbrev f_least_share : Nat × Df := (161, ⟨3, 4, b_least_share⟩)
def b_least_in : B := (.cons (.asg (.var 1) (.idx (.var 0) (.cst (.int 0)))) (.cons (.for_ (.var 2) (.seq (.var 0)) (.cons (.ife (.call 83 (.cons (.var 2) (.cons (.var 1) .nil))) (.cons (.asg (.var 1) (.var 2)) .nil) .nil) .nil)) (.cons (.ret (.var 1)) .nil)))
abbrev f_least_in : Nat × Df := (162, ⟨1, 3, b_least_in⟩)
def b_share_in : B := (.cons (.ret (.call 23 (.cons (.call 137 (.cons (.var 0) (.cons (.var 1) .nil))) (.cons (.call 59 (.cons (.var 0) (.cons (.idx (.var 1) (.cst (.int 2))) .nil))) .nil)))) .nil)
abbrev f_share_in : Nat × Df := (160, ⟨2, 2, b_share_in⟩)
def b_is_fraction : B := (.cons (.ife (.or (.not (.isi (.var 0) [.tuple])) (.or (.cmp .ne (.bi .len (.cons (.var 0) .nil)) (.cst (.int 2))) (.or (.not (.call 140 (.cons (.idx (.var 0) (.cst (.int 0))) (.cons (.cst (.int 0)) .nil)))) (.not (.call 140 (.cons (.idx (.var 0) (.cst (.int 1))) (.cons (.cst (.int 1)) .nil))))))) (.cons (.ret (.cst (.bl false))) .nil) .nil) (.cons (.ret (.cmp .eq (.call 4 (.cons (.idx (.var 0) (.cst (.int 0))) (.cons (.idx (.var 0) (.cst (.int 1))) .nil))) (.cst (.int 1)))) .nil))
abbrev f_is_fraction : Nat × Df := (158, ⟨1, 1, b_is_fraction⟩)
def b_does_keep : B := (.cons (.ret (.cmp .ge (.bin .mul (.call 137 (.cons (.var 0) (.cons (.var 1) .nil))) (.idx (.var 2) (.cst (.int 1)))) (.bin .mul (.call 59 (.cons (.var 0) (.cons (.idx (.var 1) (.cst (.int 2))) .nil))) (.idx (.var 2) (.cst (.int 0)))))) .nil)
abbrev f_does_keep : Nat × Df := (159, ⟨3, 3, b_does_keep⟩)
def b_spans_232 : B := (.cons (.expr (.call 133 (.cons (.var 0) (.cons (.var 1) (.cons (.var 2) (.cons (.var 3) .nil)))))) (.cons (.own 4 (.lc (.call 214 (.cons (.var 0) (.cons (.var 3) (.cons (.var 5) .nil)))) (.var 5) (.seq (.call 212 (.cons (.var 0) (.cons (.call 118 (.cons (.var 0) (.cons (.var 1) (.cons (.var 2) .nil)))) .nil)))) none)) (.cons (.whl FUEL (.and (.cmp .gt (.lenO 4) (.cst (.int 1))) (.cmp .eq (.idxO 4 (.neg (.cst (.int 1)))) (.idxO 4 (.neg (.cst (.int 2)))))) (.cons (.popE 4) .nil)) (.cons (.frz 4) (.cons (.ret (.bi .tuple (.cons (.var 4) .nil))) .nil)))))
abbrev f_spans_232 : Nat × Df := (232, ⟨4, 6, b_spans_232⟩)
def b_steady_from_233 : B := (.cons (.ret (.bin .sub (.bi .len (.cons (.call 232 (.cons (.var 0) (.cons (.var 1) (.cons (.var 2) (.cons (.var 3) .nil))))) .nil)) (.cst (.int 1)))) .nil)
abbrev f_steady_from_233 : Nat × Df := (233, ⟨4, 4, b_steady_from_233⟩)
def b_just_many_236 : B := (.cons (.expr (.call 133 (.cons (.var 0) (.cons (.var 1) (.cons (.var 2) (.cons (.var 3) .nil)))))) (.cons (.expr (.call 237 (.cons (.var 4) .nil))) (.cons (.asg (.var 5) (.call 212 (.cons (.var 0) (.cons (.call 118 (.cons (.var 0) (.cons (.var 1) (.cons (.var 2) .nil)))) .nil)))) (.cons (.ret (.call 214 (.cons (.var 0) (.cons (.var 3) (.cons (.idx (.var 5) (.bi .min2 (.cons (.var 4) (.cons (.bin .sub (.bi .len (.cons (.var 5) .nil)) (.cst (.int 1))) .nil)))) .nil))))) .nil))))
abbrev f_just_many_236 : Nat × Df := (236, ⟨5, 6, b_just_many_236⟩)
def b_span : B := (.cons (.asg (.var 3) (.lc (.call 134 (.cons (.var 0) (.cons (.var 1) (.cons (.var 4) .nil)))) (.var 4) (.seq (.var 2)) none)) (.cons (.ret (.tup (.cons (.bi .min (.cons (.var 3) .nil)) (.cons (.bi .max (.cons (.var 3) .nil)) .nil)))) .nil))
abbrev f_span : Nat × Df := (214, ⟨3, 5, b_span⟩)
def b_layers_of : B := (.cons (.own 2 (.lst (.cons (.lst (.cons (.call 121 (.cons (.var 0) .nil)) .nil)) .nil))) (.cons (.whl FUEL (.cst (.bl true)) (.cons (.asg (.var 3) (.call 213 (.cons (.var 1) (.cons (.idxO 2 (.neg (.cst (.int 1)))) .nil)))) (.cons (.ife (.cmp .eq (.bi .sortd (.cons (.var 3) .nil)) (.bi .sortd (.cons (.idxO 2 (.neg (.cst (.int 1)))) .nil))) (.cons (.frz 2) (.cons (.ret (.var 2)) .nil)) .nil) (.cons (.app 2 (.var 3)) .nil)))) .nil))
abbrev f_layers_of : Nat × Df := (212, ⟨2, 4, b_layers_of⟩)
def b_need_many_237 : B := (.cons (.ife (.not (.call 21 (.cons (.var 0) (.cons (.cst (.int 0)) (.cons (.glb 6) .nil))))) (.cons (.rais 11 (.cons (.var 0) .nil)) .nil) .nil) .nil)
abbrev f_need_many_237 : Nat × Df := (237, ⟨1, 1, b_need_many_237⟩)
def b_behind : B := (.cons (.ret (.bi .list (.cons (.dcp2 (.var 4) (.cst (.bl true)) (.var 2) (.seq (.var 1)) (.tup [(.var 3), (.var 4)]) (.seq (.idx (.var 0) (.var 2)))) .nil))) .nil)
abbrev f_behind : Nat × Df := (213, ⟨2, 5, b_behind⟩)
def b_within_paper_223 : B := (.cons (.expr (.call 224 (.cons (.var 0) (.cons (.var 1) (.cons (.var 2) (.cons (.var 3) .nil)))))) (.cons (.asg (.var 4) (.call 186 (.cons (.var 0) (.cons (.var 1) (.cons (.var 2) (.cons (.var 3) .nil)))))) (.cons (.asg (.tup [(.var 5), (.var 6)]) (.call 184 (.cons (.var 0) (.cons (.var 4) .nil)))) (.cons (.ret (.tup (.cons (.var 5) (.cons (.bi .tuple (.cons (.bi .sortd (.cons (.bi .list (.cons (.var 4) .nil)) .nil)) .nil)) (.cons (.var 6) .nil))))) .nil))))
abbrev f_within_paper_223 : Nat × Df := (223, ⟨4, 7, b_within_paper_223⟩)
def b_worst_within_464 : B := (.cons (.expr (.call 224 (.cons (.var 0) (.cons (.var 1) (.cons (.var 2) (.cons (.var 3) .nil)))))) (.cons (.ret (.idx (.call 184 (.cons (.var 0) (.cons (.call 186 (.cons (.var 0) (.cons (.var 1) (.cons (.var 2) (.cons (.var 3) .nil))))) .nil))) (.cst (.int 0)))) .nil))
abbrev f_worst_within_464 : Nat × Df := (464, ⟨4, 4, b_worst_within_464⟩)
def b_row_within_465 : B := (.cons (.expr (.call 224 (.cons (.var 0) (.cons (.var 1) (.cons (.var 2) (.cons (.var 3) .nil)))))) (.cons (.ret (.idx (.call 184 (.cons (.var 0) (.cons (.call 186 (.cons (.var 0) (.cons (.var 1) (.cons (.var 2) (.cons (.var 3) .nil))))) .nil))) (.cst (.int 1)))) .nil))
abbrev f_row_within_465 : Nat × Df := (465, ⟨4, 4, b_row_within_465⟩)
def b_check_within_225 : B := (.cons (.expr (.call 224 (.cons (.var 0) (.cons (.var 1) (.cons (.var 2) (.cons (.var 3) .nil)))))) (.cons (.ife (.or (.not (.isi (.var 4) [.tuple])) (.or (.cmp .ne (.bi .len (.cons (.var 4) .nil)) (.cst (.int 3))) (.not (.call 140 (.cons (.idx (.var 4) (.cst (.int 0))) (.cons (.cst (.int 0)) .nil)))))) (.cons (.rais 7 (.cons (.cst (.str "form")) .nil)) .nil) .nil) (.cons (.ife (.not (.call 210 (.cons (.var 0) (.cons (.var 1) (.cons (.var 2) (.cons (.var 3) (.cons (.idx (.var 4) (.cst (.int 0))) (.cons (.idx (.var 4) (.cst (.int 1))) .nil)))))))) (.cons (.rais 7 (.cons (.cst (.str "table")) .nil)) .nil) .nil) (.cons (.asg (.var 5) (.call 209 (.cons (.var 0) (.cons (.var 1) (.cons (.var 2) (.cons (.var 3) (.cons (.idx (.var 4) (.cst (.int 2))) .nil))))))) (.cons (.ife (.or (.cmp .isN (.var 5) (.cst .non)) (.cmp .ne (.call 185 (.cons (.var 0) (.cons (.var 5) .nil))) (.idx (.var 4) (.cst (.int 0))))) (.cons (.rais 7 (.cons (.cst (.str "row")) .nil)) .nil) .nil) (.cons (.ret (.idx (.var 4) (.cst (.int 0)))) .nil))))))
abbrev f_check_within_225 : Nat × Df := (225, ⟨5, 6, b_check_within_225⟩)
def b_need_asked_224 : B := (.cons (.expr (.call 117 (.cons (.var 0) (.cons (.var 1) (.cons (.var 2) .nil))))) (.cons (.expr (.call 230 (.cons (.var 0) (.cons (.var 3) .nil)))) .nil))
abbrev f_need_asked_224 : Nat × Df := (224, ⟨4, 4, b_need_asked_224⟩)
def b_used_ways : B := (.cons (.asg (.var 4) (.call 187 (.cons (.var 0) .nil))) (.cons (.par [(5, true), (6, false)] (.cons (.done (.var 4) (.tup .nil)) (.cons (.lst (.cons (.var 4) .nil)) .nil))) (.cons (.whl FUEL (.cmp .ne (.var 6) (.lst .nil)) (.cons (.own 7 (.lst .nil)) (.cons (.for_ (.var 8) (.seq (.var 6)) (.cons (.for_ (.var 9) (.seq (.call 188 (.cons (.var 0) (.cons (.var 2) (.cons (.var 3) (.cons (.var 8) .nil)))))) (.cons (.asg (.var 10) (.call 189 (.cons (.var 0) (.cons (.var 1) (.cons (.var 2) (.cons (.var 3) (.cons (.var 8) (.cons (.var 9) .nil)))))))) (.cons (.ife (.inO true (.var 10) 5) (.cons (.sto 5 (.var 10) (.tupS (.star (.idxO 5 (.var 8)) (.cons (.var 9) .nil)))) (.cons (.app 7 (.var 10)) .nil)) .nil) .nil))) .nil)) (.cons (.ife (.cmp .gt (.lenO 5) (.glb 20)) (.cons (.rais 9 (.cons (.glb 20) .nil)) .nil) .nil) (.cons (.frz 7) (.cons (.asg (.var 6) (.var 7)) .nil)))))) (.cons (.frz 5) (.cons (.ret (.var 5)) .nil)))))
abbrev f_used_ways : Nat × Df := (186, ⟨4, 11, b_used_ways⟩)
def b_worst_of : B := (.cons (.asg (.var 2) (.bi .max (.cons (.lc (.call 185 (.cons (.var 0) (.cons (.var 3) .nil))) (.var 3) (.seq (.var 1)) none) .nil))) (.cons (.ret (.tup (.cons (.var 2) (.cons (.idx (.lc (.var 4) (.tup [(.var 3), (.var 4)]) (.items (.var 1)) (some (.cmp .eq (.call 185 (.cons (.var 0) (.cons (.var 3) .nil))) (.var 2)))) (.cst (.int 0))) .nil)))) .nil))
abbrev f_worst_of : Nat × Df := (184, ⟨2, 5, b_worst_of⟩)
def b_state_by : B := (.cons (.ife (.not (.isi (.var 4) [.tuple])) (.cons (.ret (.cst .non)) .nil) .nil) (.cons (.asg (.var 5) (.call 187 (.cons (.var 0) .nil))) (.cons (.for_ (.var 6) (.seq (.var 4)) (.cons (.ife (.or (.not (.call 21 (.cons (.var 6) (.cons (.cst (.int 0)) (.cons (.bin .sub (.bi .len (.cons (.idx (.var 0) (.cst (.int 1))) .nil)) (.cst (.int 1))) .nil))))) (.cmp .notin (.var 6) (.call 188 (.cons (.var 0) (.cons (.var 2) (.cons (.var 3) (.cons (.var 5) .nil))))))) (.cons (.ret (.cst .non)) .nil) .nil) (.cons (.asg (.var 5) (.call 189 (.cons (.var 0) (.cons (.var 1) (.cons (.var 2) (.cons (.var 3) (.cons (.var 5) (.cons (.var 6) .nil)))))))) .nil))) (.cons (.ret (.var 5)) .nil))))
abbrev f_state_by : Nat × Df := (209, ⟨5, 7, b_state_by⟩)
def b_does_close : B := (.cons (.ife (.or (.not (.isi (.var 5) [.tuple])) (.not (.bi .all (.cons (.lc (.call 215 (.cons (.var 0) (.cons (.var 2) (.cons (.var 3) (.cons (.var 7) .nil))))) (.var 7) (.seq (.var 5)) none) .nil)))) (.cons (.ret (.cst (.bl false))) .nil) .nil) (.cons (.asg (.var 6) (.dcp (.var 7) (.cst (.bl true)) (.var 7) (.seq (.var 5)))) (.cons (.ife (.or (.cmp .notin (.call 187 (.cons (.var 0) .nil)) (.var 6)) (.not (.bi .all (.cons (.lc (.cmp .lt (.var 10) (.var 11)) (.tup [(.var 10), (.var 11)]) (.zip (.var 5) (.sl (.var 5) (some (.cst (.int 1))) none)) none) .nil)))) (.cons (.ret (.cst (.bl false))) .nil) .nil) (.cons (.for_ (.var 7) (.seq (.var 5)) (.cons (.ife (.cmp .gt (.call 185 (.cons (.var 0) (.cons (.var 7) .nil))) (.var 4)) (.cons (.ret (.cst (.bl false))) .nil) .nil) (.cons (.asg (.var 8) (.call 188 (.cons (.var 0) (.cons (.var 2) (.cons (.var 3) (.cons (.var 7) .nil)))))) (.cons (.ife (.not (.bi .all (.cons (.lc (.cmp .isin (.call 189 (.cons (.var 0) (.cons (.var 1) (.cons (.var 2) (.cons (.var 3) (.cons (.var 7) (.cons (.var 9) .nil))))))) (.var 6)) (.var 9) (.seq (.var 8)) none) .nil))) (.cons (.ret (.cst (.bl false))) .nil) .nil) .nil)))) (.cons (.ret (.cst (.bl true))) .nil)))))
abbrev f_does_close : Nat × Df := (210, ⟨6, 12, b_does_close⟩)
def b_regret_in : B := (.cons (.ret (.call 134 (.cons (.var 0) (.cons (.tup (.cons (.glb 21) .nil)) (.cons (.sl (.var 1) none (some (.cst (.int 4)))) .nil))))) .nil)
abbrev f_regret_in : Nat × Df := (185, ⟨2, 2, b_regret_in⟩)
def b_need_most : B := (.cons (.ife (.or (.not (.isi (.var 1) [.tuple])) (.cmp .ne (.bi .len (.cons (.var 1) .nil)) (.bi .len (.cons (.idx (.var 0) (.cst (.int 1))) .nil)))) (.cons (.rais 12 (.cons (.var 1) .nil)) .nil) .nil) (.cons (.ife (.not (.bi .all (.cons (.lc (.or (.cmp .isN (.var 2) (.cst .non)) (.call 21 (.cons (.var 2) (.cons (.cst (.int 0)) (.cons (.glb 27) .nil))))) (.var 2) (.seq (.var 1)) none) .nil))) (.cons (.rais 12 (.cons (.var 1) .nil)) .nil) .nil) (.cons (.ret (.var 1)) .nil)))
abbrev f_need_most : Nat × Df := (230, ⟨2, 3, b_need_most⟩)
def b_begin_used : B := (.cons (.ret (.tupS (.star (.call 121 (.cons (.var 0) .nil)) (.cons (.call 67 (.cons (.var 0) .nil)) .nil)))) .nil)
abbrev f_begin_used : Nat × Df := (187, ⟨1, 1, b_begin_used⟩)
def b_fares_left : B := (.cons (.asg (.var 4) (.call 92 (.cons (.var 0) (.cons (.var 1) (.cons (.sl (.var 3) none (some (.cst (.int 4)))) .nil))))) (.cons (.ret (.lc (.var 5) (.var 5) (.seq (.var 4)) (some (.or (.cmp .isN (.idx (.var 2) (.var 5)) (.cst .non)) (.cmp .lt (.idx (.idx (.var 3) (.cst (.int 4))) (.var 5)) (.idx (.var 2) (.var 5))))))) .nil))
abbrev f_fares_left : Nat × Df := (188, ⟨4, 6, b_fares_left⟩)
def b_later_used : B := (.cons (.asg (.var 6) (.ife (.cmp .isN (.idx (.var 3) (.var 5)) (.cst .non)) (.idx (.var 4) (.cst (.int 4))) (.call 72 (.cons (.idx (.var 4) (.cst (.int 4))) (.cons (.var 5) (.cons (.cst (.int 1)) .nil)))))) (.cons (.ret (.tupS (.star (.call 122 (.cons (.var 0) (.cons (.var 1) (.cons (.var 2) (.cons (.sl (.var 4) none (some (.cst (.int 4)))) (.cons (.var 5) .nil)))))) (.cons (.var 6) .nil)))) .nil))
abbrev f_later_used : Nat × Df := (189, ⟨6, 7, b_later_used⟩)
def b_is_used : B := (.cons (.ife (.or (.not (.isi (.var 3) [.tuple])) (.or (.cmp .ne (.bi .len (.cons (.var 3) .nil)) (.cst (.int 5))) (.not (.call 141 (.cons (.var 0) (.cons (.var 1) (.cons (.sl (.var 3) none (some (.cst (.int 4)))) .nil))))))) (.cons (.ret (.cst (.bl false))) .nil) .nil) (.cons (.ife (.or (.not (.isi (.idx (.var 3) (.cst (.int 4))) [.tuple])) (.cmp .ne (.bi .len (.cons (.idx (.var 3) (.cst (.int 4))) .nil)) (.bi .len (.cons (.var 2) .nil)))) (.cons (.ret (.cst (.bl false))) .nil) .nil) (.cons (.ret (.bi .all (.cons (.lc (.call 21 (.cons (.var 4) (.cons (.cst (.int 0)) (.cons (.ife (.cmp .isN (.var 5) (.cst .non)) (.cst (.int 0)) (.var 5)) .nil)))) (.tup [(.var 4), (.var 5)]) (.zip (.idx (.var 3) (.cst (.int 4))) (.var 2)) none) .nil))) .nil)))
abbrev f_is_used : Nat × Df := (215, ⟨4, 6, b_is_used⟩)
def b__law_classes : B := (.cons (.asg (.var 1) (.lst (.cons (.tup (.cons (.cst (.str "hall")) (.cons (.isX (.var 0) [0] [1, 2, 3, 4, 5, 6, 7, 8, 9, 10, 11, 12, 13]) .nil))) (.cons (.tup (.cons (.cst (.str "rule")) (.cons (.isX (.var 0) [1] [0, 2, 3, 4, 5, 6, 7, 8, 9, 10, 11, 12, 13]) .nil))) .nil)))) (.cons (.asg (.var 1) (.bin .add (.var 1) (.lst (.cons (.tup (.cons (.cst (.str "kind")) (.cons (.isX (.var 0) [10] [0, 1, 2, 3, 4, 5, 6, 7, 8, 9, 11, 12, 13]) .nil))) (.cons (.tup (.cons (.cst (.str "call")) (.cons (.isX (.var 0) [2] [0, 1, 3, 4, 5, 6, 7, 8, 9, 10, 11, 12, 13]) .nil))) .nil))))) (.cons (.asg (.var 1) (.bin .add (.var 1) (.lst (.cons (.tup (.cons (.cst (.str "measure")) (.cons (.isX (.var 0) [11] [0, 1, 2, 3, 4, 5, 6, 7, 8, 9, 10, 12, 13]) .nil))) (.cons (.tup (.cons (.cst (.str "paper")) (.cons (.isX (.var 0) [7] [0, 1, 2, 3, 4, 5, 6, 8, 9, 10, 11, 12, 13]) .nil))) .nil))))) (.cons (.asg (.var 1) (.bin .add (.var 1) (.lst (.cons (.tup (.cons (.cst (.str "number")) (.cons (.isX (.var 0) [3] [0, 1, 2, 4, 5, 6, 7, 8, 9, 10, 11, 12, 13]) .nil))) (.cons (.tup (.cons (.cst (.str "plan")) (.cons (.isX (.var 0) [4] [0, 1, 2, 3, 5, 6, 7, 8, 9, 10, 11, 12, 13]) .nil))) .nil))))) (.cons (.asg (.var 1) (.bin .add (.var 1) (.lst (.cons (.tup (.cons (.cst (.str "share")) (.cons (.isX (.var 0) [5] [0, 1, 2, 3, 4, 6, 7, 8, 9, 10, 11, 12, 13]) .nil))) (.cons (.tup (.cons (.cst (.str "log")) (.cons (.isX (.var 0) [6] [0, 1, 2, 3, 4, 5, 7, 8, 9, 10, 11, 12, 13]) .nil))) .nil))))) (.cons (.asg (.var 1) (.bin .add (.var 1) (.lst (.cons (.tup (.cons (.cst (.str "most")) (.cons (.isX (.var 0) [12] [0, 1, 2, 3, 4, 5, 6, 7, 8, 9, 10, 11, 13]) .nil))) (.cons (.tup (.cons (.cst (.str "state")) (.cons (.isX (.var 0) [13] [0, 1, 2, 3, 4, 5, 6, 7, 8, 9, 10, 11, 12]) .nil))) .nil))))) (.cons (.asg (.var 1) (.bin .add (.var 1) (.lst (.cons (.tup (.cons (.cst (.str "text")) (.cons (.isX (.var 0) [8] [0, 1, 2, 3, 4, 5, 6, 7, 9, 10, 11, 12, 13]) .nil))) (.cons (.tup (.cons (.cst (.str "own")) (.cons (.isX (.var 0) [0, 1, 2, 3, 4, 5, 6, 7, 8, 10, 11, 12, 13] [9]) .nil))) .nil))))) (.cons (.asg (.var 1) (.bin .add (.var 1) (.lst (.cons (.tup (.cons (.cst (.str "sort")) (.cons (.isX (.var 0) [0, 1, 2, 3, 4, 5, 6, 7, 8, 10, 11, 12, 13] [9]) .nil))) (.cons (.tup (.cons (.cst (.str "great")) (.cons (.isX (.var 0) [9] [0, 1, 2, 3, 4, 5, 6, 7, 8, 10, 11, 12, 13]) .nil))) .nil))))) (.cons (.ret (.lc (.var 2) (.tup [(.var 2), (.var 3)]) (.seq (.var 1)) (some (.var 3)))) .nil)))))))))
abbrev f__law_classes : Nat × Df := (388, ⟨1, 4, b__law_classes⟩)
end Bk
set_option Elab.async false
set_option linter.all false
namespace Pk
open PySem Bk
class HP (p : Bk.Pr) : Prop where
  c_MOST_OF : p.cs.lookup 0 = some (.int 1000000000)
  c_MOST_ROOM : p.cs.lookup 1 = some (.int 1000000000000000000000000000000)
  c_MOST_FARES : p.cs.lookup 2 = some (.int 4)
  c_MOST_FARE : p.cs.lookup 3 = some (.int 99)
  h_limits_of : p.ds.lookup 14 = some Bk.f_limits_of.2
  h_need_plan : p.ds.lookup 6 = some Bk.f_need_plan.2
  h_need_room : p.ds.lookup 7 = some Bk.f_need_room.2
  h_limits_in : p.ds.lookup 12 = some Bk.f_limits_in.2
  h_need_fares : p.ds.lookup 20 = some Bk.f_need_fares.2
  h_is_whole : p.ds.lookup 21 = some Bk.f_is_whole.2
  h_are_rising : p.ds.lookup 22 = some Bk.f_are_rising.2
  h_are_fares : p.ds.lookup 24 = some Bk.f_are_fares.2
  h_regret_of : p.ds.lookup 5 = some Bk.f_regret_of.2
  h_regrets_at : p.ds.lookup 8 = some Bk.f_regrets_at.2
  h_gains_by : p.ds.lookup 11 = some Bk.f_gains_by.2
  h_share_of : p.ds.lookup 10 = some Bk.f_share_of.2
  h_lesser_share : p.ds.lookup 13 = some Bk.f_lesser_share.2
  h_fraction : p.ds.lookup 23 = some Bk.f_fraction.2
  h_common : p.ds.lookup 4 = some Bk.f_common.2
  h_long_share : p.ds.lookup 15 = some Bk.f_long_share.2
  h_long_in : p.ds.lookup 16 = some Bk.f_long_in.2
  h__law_plan : p.ds.lookup 0 = some Bk.f__law_plan.2
  h__law_fares : p.ds.lookup 1 = some Bk.f__law_fares.2
  h__law_of : p.ds.lookup 9 = some Bk.f__law_of.2
end Pk
set_option Elab.async false
set_option linter.all false
set_option maxRecDepth 100000
namespace Pk
open PySem Bk
@[simp] theorem r_ok {α β : Type} (a : α) (g : G) (k : α → G → R β) : (R.ok a g).bind k = k a g := rfl
@[simp] theorem r_st {α β : Type} (k : α → G → R β) : (R.st : R α).bind k = .st := rfl
@[simp] theorem r_ex {α β : Type} (c : Nat) (ds : List D) (g : G) (k : α → G → R β) : (R.ex c ds g : R α).bind k = .ex c ds g := rfl
@[simp] theorem l_some {α : Type} (a : α) (g : G) : lift (some a) g = .ok a g := rfl
@[simp] theorem l_none {α : Type} (g : G) : lift (none : Option α) g = .st := rfl
@[simp] theorem b_ok (b : Bool) (g : G) : blR (.ok (.bl b) g) = .ok b g := rfl
@[simp] theorem e_ex (c : Nat) (ds : List D) (g : G) : endR (.ex c ds g) = .ex c ds g := rfl
@[simp] theorem k_ok (tb : List (Nat × Str)) (d : D) (g : G) : caughtR tb (.ok d g) = .ok (.lst [d]) g := rfl
@[simp] theorem e_nx (Γ : Gm) (g : G) : endR (.ok (.nx Γ) g) = .ok .non g := rfl
@[simp] theorem e_rt (d : D) (g : G) : endR (.ok (.rt d) g) = .ok d g := rfl
section
variable (cs : List (Nat × D)) (call : Calls) (Γ : Gm) (g : G)
@[simp] theorem x_cst (d : D) : evE cs call (.cst d) Γ g = .ok d g := by simp only [evE]
@[simp] theorem x_var (i : Nat) : evE cs call (.var i) Γ g = match Γ[i]? with | some (.val d) => .ok d g | _ => .st := by simp only [evE] <;> rfl
@[simp] theorem x_glb (i : Nat) : evE cs call (.glb i) Γ g = lift (cs.lookup i) g := by simp only [evE]
@[simp] theorem x_bin (o : Op) (a b : E) : evE cs call (.bin o a b) Γ g = (evE cs call a Γ g).bind fun x g => (evE cs call b Γ g).bind fun y g => lift (opD o x y) g := by simp only [evE]
@[simp] theorem x_neg (a : E) : evE cs call (.neg a) Γ g = (evE cs call a Γ g).bind fun x g => match x with | .int i => .ok (.int (-i)) g | _ => .st := by simp only [evE] <;> rfl
@[simp] theorem x_cmp (o : Cm) (a b : E) : evE cs call (.cmp o a b) Γ g = (evE cs call a Γ g).bind fun x g => (evE cs call b Γ g).bind fun y g => lift ((cmpD o x y).map .bl) g := by simp only [evE]
@[simp] theorem x_chn (o q : Cm) (a b c : E) : evE cs call (.chn o q a b c) Γ g = (evE cs call a Γ g).bind fun x g => (evE cs call b Γ g).bind fun y g => (lift (cmpD o x y) g).bind fun k g =>
      if k then (evE cs call c Γ g).bind fun z g => lift ((cmpD q y z).map .bl) g else .ok (.bl false) g := by simp only [evE]
@[simp] theorem x_and (a b : E) : evE cs call (.and a b) Γ g = (blR (evE cs call a Γ g)).bind fun k g => if k then (blR (evE cs call b Γ g)).bind fun j g => .ok (.bl j) g else .ok (.bl false) g := by simp only [evE]
@[simp] theorem x_or (a b : E) : evE cs call (.or a b) Γ g = (blR (evE cs call a Γ g)).bind fun k g => if k then .ok (.bl true) g else (blR (evE cs call b Γ g)).bind fun j g => .ok (.bl j) g := by simp only [evE]
@[simp] theorem x_not (a : E) : evE cs call (.not a) Γ g = (blR (evE cs call a Γ g)).bind fun k g => .ok (.bl (!k)) g := by simp only [evE]
@[simp] theorem x_ife (c a b : E) : evE cs call (.ife c a b) Γ g = (blR (evE cs call c Γ g)).bind fun k g => if k then evE cs call a Γ g else evE cs call b Γ g := by simp only [evE]
@[simp] theorem x_tup (as : A) : evE cs call (.tup as) Γ g = (evA cs call as Γ g).bind fun xs g => .ok (.tup xs) g := by simp only [evE]
@[simp] theorem x_lst (as : A) : evE cs call (.lst as) Γ g = (evA cs call as Γ g).bind fun xs g => .ok (.lst xs) g := by simp only [evE]
@[simp] theorem x_idx (a b : E) : evE cs call (.idx a b) Γ g = (evE cs call a Γ g).bind fun x g => (evE cs call b Γ g).bind fun y g => lift (idxD x y) g := by simp only [evE]
@[simp] theorem x_sl (a : E) (lo hi : Option E) : evE cs call (.sl a lo hi) Γ g = (evE cs call a Γ g).bind fun x g => (evO cs call lo Γ g).bind fun l g => (evO cs call hi Γ g).bind fun h g => lift (slD x l h) g := by simp only [evE]
@[simp] theorem x_call (f : Nat) (as : A) : evE cs call (.call f as) Γ g = (evA cs call as Γ g).bind fun xs g => call f xs g := by simp only [evE]
@[simp] theorem x_callv (i : Nat) (a : E) : evE cs call (.callv i a) Γ g = match Γ[i]? with
      | some (.val .fn) => (evE cs call a Γ g).bind fun d g => call LAM [d] g
      | _ => .st := by simp only [evE] <;> rfl
@[simp] theorem x_bi (b : Bi) (as : A) : evE cs call (.bi b as) Γ g = (evA cs call as Γ g).bind fun xs g => lift (biD b xs) g := by simp only [evE]
@[simp] theorem x_isi (a : E) (ts : List Ty) : evE cs call (.isi a ts) Γ g = (evE cs call a Γ g).bind fun x g => lift ((isiD ts x).map .bl) g := by simp only [evE]
@[simp] theorem x_draw (a b : E) : evE cs call (.draw a b) Γ g = (evE cs call a Γ g).bind fun x g => (evE cs call b Γ g).bind fun y g => match x, y with
      | .m, .int lim => if 0 < lim ∧ lim < 2 ^ 4000 ∧ g.spot < 2 ^ 60 then .ok (.int (g.draw lim).1) (g.draw lim).2 else .st
      | _, _ => .st := by simp only [evE] <;> rfl
@[simp] theorem x_cat (a b : E) : evE cs call (.cat a b) Γ g = (evE cs call a Γ g).bind fun x g => (evE cs call b Γ g).bind fun y g => match x, y with
      | .lst xs, .lst ys => if xs.length + ys.length ≤ 1000000 then .ok (.lst (xs ++ ys)) g else .st
      | _, _ => .st := by simp only [evE] <;> rfl
@[simp] theorem x_rev (a : E) : evE cs call (.rev a) Γ g = (evE cs call a Γ g).bind fun x g => match x with
      | .lst xs => .ok (.lst xs.reverse) g
      | _ => .st := by simp only [evE] <;> rfl
@[simp] theorem x_idxO (i : Nat) (b : E) : evE cs call (.idxO i b) Γ g = match Γ[i]? with
      | some (.own d) => (evE cs call b Γ g).bind fun y g => lift (idxD d y) g
      | _ => .st := by simp only [evE] <;> rfl
@[simp] theorem x_dnil : evE cs call .dnil Γ g = .ok (.dct [] []) g := by simp only [evE]
@[simp] theorem x_done (a b : E) : evE cs call (.done a b) Γ g = (evE cs call a Γ g).bind fun k g => (evE cs call b Γ g).bind fun v g => if okK k then .ok (.dct [k] [v]) g else .st := by simp only [evE]
@[simp] theorem x_inO (neg : Bool) (a : E) (i : Nat) : evE cs call (.inO neg a i) Γ g = (evE cs call a Γ g).bind fun k g => match Γ[i]? with
      | some (.own (.dct ks vs)) => if okK k then .ok (.bl (if neg then !(getK (keyD k) ks vs).isSome else (getK (keyD k) ks vs).isSome)) g else .st
      | _ => .st := by simp only [evE] <;> rfl
@[simp] theorem x_lenO (i : Nat) : evE cs call (.lenO i) Γ g = match Γ[i]? with
      | some (.own (.dct ks vs)) => if ks.length ≤ 1000000 then .ok (.int ks.length) g else .st
      | some (.own (.lst xs)) => if xs.length ≤ 1000000 then .ok (.int xs.length) g else .st
      | _ => .st := by simp only [evE] <;> rfl
@[simp] theorem x_lrng1 (a : E) : evE cs call (.lrng1 a) Γ g = (evE cs call a Γ g).bind fun x g => match x with | .int i => if -1000000 ≤ i ∧ i ≤ 1000000 then .ok (.lst (rngD 0 i.toNat)) g else .st | _ => .st := by simp only [evE] <;> rfl
@[simp] theorem x_lrng2 (a b : E) : evE cs call (.lrng2 a b) Γ g = (evE cs call a Γ g).bind fun x g => (evE cs call b Γ g).bind fun y g => match x, y with
      | .int i, .int j => if (-1000000 ≤ i ∧ i ≤ 1000000) ∧ -1000000 ≤ j ∧ j ≤ 1000000 then .ok (.lst (rngD i (j - i).toNat)) g else .st
      | _, _ => .st := by simp only [evE] <;> rfl
@[simp] theorem x_emO (neg : Bool) (i : Nat) : evE cs call (.emO neg i) Γ g = match Γ[i]? with
      | some (.own (.lst xs)) => .ok (.bl (if neg then !xs.isEmpty else xs.isEmpty)) g
      | _ => .st := by simp only [evE] <;> rfl
@[simp] theorem x_tupS (as : A) : evE cs call (.tupS as) Γ g = (evA cs call as Γ g).bind fun xs g => if xs.length ≤ 1000000 then .ok (.tup xs) g else .st := by simp only [evE]
@[simp] theorem x_lstS (as : A) : evE cs call (.lstS as) Γ g = (evA cs call as Γ g).bind fun xs g => if xs.length ≤ 1000000 then .ok (.lst xs) g else .st := by simp only [evE]
@[simp] theorem a_star (e : E) (as : A) : evA cs call (.star e as) Γ g = (evE cs call e Γ g).bind fun x g => match itemsD x with
      | some ys => (evA cs call as Γ g).bind fun xs g => .ok (ys ++ xs) g
      | none => .st := by simp only [evA] <;> rfl
@[simp] theorem s_sto' (i : Nat) (a b : E) : evS cs call (.sto i a b) Γ g = (evE cs call b Γ g).bind fun y g => match Γ[i]? with
      | some (.own (.lst xs)) => (evE cs call a Γ g).bind fun k g => (match k with
        | .int k => (match ixD xs.length k with
          | some j => .ok (.nx (Γ.set i (.own (.lst (xs.set j y))))) g
          | none => .st)
        | _ => .st)
      | some (.own (.dct ks vs)) => (evE cs call a Γ g).bind fun k g => if okK k && decide (ks.length < 1000000) then .ok (.nx (Γ.set i (.own (putD ks vs k y)))) g else .st
      | _ => .st := by simp only [evS] <;> rfl
@[simp] theorem s_pop' (t : T) (i : Nat) : evS cs call (.pop t i) Γ g = match Γ[i]? with
      | some (.own (.lst xs)) => (match xs[xs.length - 1]? with
        | some x => (lift (setT t x (Γ.set i (.own (.lst xs.dropLast)))) g).bind fun Γ' g => .ok (.nx Γ') g
        | none => .st)
      | _ => .st := by simp only [evS] <;> rfl
@[simp] theorem s_popE' (i : Nat) : evS cs call (.popE i) Γ g = match Γ[i]? with
      | some (.own (.lst xs)) => (match xs[xs.length - 1]? with
        | some _ => .ok (.nx (Γ.set i (.own (.lst xs.dropLast)))) g
        | none => .st)
      | _ => .st := by simp only [evS] <;> rfl
@[simp] theorem s_ext' (i : Nat) (e : E) : evS cs call (.ext i e) Γ g = match Γ[i]? with
      | some (.own (.lst xs)) => (evE cs call e Γ g).bind fun y g => (match y with
        | .lst ys => if xs.length + ys.length ≤ 1000000 then .ok (.nx (Γ.set i (.own (.lst (xs ++ ys))))) g else .st
        | _ => .st)
      | _ => .st := by simp only [evS] <;> rfl
@[simp] theorem i_rng2 (a b : E) : evI cs call (.rng2 a b) Γ g = (evE cs call a Γ g).bind fun x g => (evE cs call b Γ g).bind fun y g => match x, y with
      | .int i, .int j => if (-1000000 ≤ i ∧ i ≤ 1000000) ∧ -1000000 ≤ j ∧ j ≤ 1000000 then .ok (rngD i (j - i).toNat) g else .st
      | _, _ => .st := by simp only [evI] <;> rfl
@[simp] theorem o_none : evO cs call none Γ g = .ok none g := by simp only [evO]
@[simp] theorem o_some (e : E) : evO cs call (some e) Γ g = (evE cs call e Γ g).bind fun x g => match x with | .int i => .ok (some i) g | _ => .st := by simp only [evO] <;> rfl
@[simp] theorem a_nil : evA cs call .nil Γ g = .ok [] g := by simp only [evA]
@[simp] theorem a_cons (e : E) (as : A) : evA cs call (.cons e as) Γ g = (evE cs call e Γ g).bind fun x g => (evA cs call as Γ g).bind fun xs g => .ok (x :: xs) g := by simp only [evA]
@[simp] theorem i_seq (e : E) : evI cs call (.seq e) Γ g = (evE cs call e Γ g).bind fun x g => lift (seqD x) g := by simp only [evI]
@[simp] theorem i_zip (a b : E) : evI cs call (.zip a b) Γ g = (evE cs call a Γ g).bind fun x g => (evE cs call b Γ g).bind fun y g => match itemsD x, itemsD y with
      | some xs, some ys => .ok (zipD xs ys) g
      | _, _ => .st := by simp only [evI] <;> rfl
@[simp] theorem i_enum (a : E) : evI cs call (.enum a) Γ g = (evE cs call a Γ g).bind fun x g => match itemsD x with
      | some xs => .ok (enumD 0 xs) g
      | _ => .st := by simp only [evI] <;> rfl
@[simp] theorem i_items (a : E) : evI cs call (.items a) Γ g = (evE cs call a Γ g).bind fun x g => match x with
      | .dct ks vs => if ks.length ≤ 1000000 then .ok (zipD ks vs) g else .st
      | _ => .st := by simp only [evI] <;> rfl
@[simp] theorem i_rng1 (a : E) : evI cs call (.rng1 a) Γ g = (evE cs call a Γ g).bind fun x g => match x with | .int i => if -1000000 ≤ i ∧ i ≤ 1000000 then .ok (rngD 0 i.toNat) g else .st | _ => .st := by simp only [evI] <;> rfl
@[simp] theorem s_expr' (e : E) : evS cs call (.expr e) Γ g = (evE cs call e Γ g).bind fun _ g => .ok (.nx Γ) g := by simp only [evS]
@[simp] theorem s_asg' (t : T) (e : E) : evS cs call (.asg t e) Γ g = (evE cs call e Γ g).bind fun x g => (lift (setT t x Γ) g).bind fun Γ' g => .ok (.nx Γ') g := by simp only [evS]
@[simp] theorem s_own' (i : Nat) (e : E) : evS cs call (.own i e) Γ g = (evE cs call e Γ g).bind fun x g => match x with
      | .lst xs => if i < Γ.length then .ok (.nx (Γ.set i (.own (.lst xs)))) g else .st
      | .dct ks vs => if i < Γ.length then .ok (.nx (Γ.set i (.own (.dct ks vs)))) g else .st
      | _ => .st := by simp only [evS] <;> rfl
@[simp] theorem s_par' (ts : List (Nat × Bool)) (as : A) : evS cs call (.par ts as) Γ g = (evA cs call as Γ g).bind fun xs g => (lift (parG ts xs Γ) g).bind fun Γ' g => .ok (.nx Γ') g := by simp only [evS]
@[simp] theorem s_aug' (i : Nat) (e : E) : evS cs call (.aug i e) Γ g = match Γ[i]? with
      | some (.val x) => (evE cs call e Γ g).bind fun y g => (match x, y with
        | .int a, .int b => .ok (.nx (Γ.set i (.val (.int (a + b))))) g
        | _, _ => .st)
      | _ => .st := by simp only [evS] <;> rfl
@[simp] theorem s_ret' (e : E) : evS cs call (.ret e) Γ g = (evE cs call e Γ g).bind fun x g => .ok (.rt x) g := by simp only [evS]
@[simp] theorem s_ife' (c : E) (a b : B) : evS cs call (.ife c a b) Γ g = (blR (evE cs call c Γ g)).bind fun k g => if k then evB cs call a Γ g else evB cs call b Γ g := by simp only [evS]
@[simp] theorem s_app' (i : Nat) (e : E) : evS cs call (.app i e) Γ g = match Γ[i]? with
      | some (.own (.lst xs)) => (evE cs call e Γ g).bind fun y g => if xs.length < 1000000 then .ok (.nx (Γ.set i (.own (.lst (xs ++ [y]))))) g else .st
      | _ => .st := by simp only [evS] <;> rfl
@[simp] theorem s_frz' (i : Nat) : evS cs call (.frz i) Γ g = match Γ[i]? with
      | some (.own d) => .ok (.nx (Γ.set i (.val d))) g
      | _ => .ok (.nx Γ) g := by simp only [evS] <;> rfl
@[simp] theorem x_callP (f v : Nat) (ix : List Pik) (as : A) : evE cs call (.callP f v ix as) Γ g = (evA cs call as Γ g).bind fun xs g => match pickD ix xs with | some ys => call f ys g | none => .st := by simp only [evE] <;> rfl
@[simp] theorem x_isX (a : E) (yes no : List Nat) : evE cs call (.isX a yes no) Γ g = (evE cs call a Γ g).bind fun x g => lift ((isXD yes no x).map .bl) g := by simp only [evE]
@[simp] theorem x_fld (a : E) (n : Str) (fs : List (Nat × Nat)) : evE cs call (.fld a n fs) Γ g = (evE cs call a Γ g).bind fun x g => lift (fldD fs x) g := by simp only [evE]
@[simp] theorem x_mkXk (c : Nat) (ix : List Pik) (as : A) : evE cs call (.mkXk c ix as) Γ g = (evA cs call as Γ g).bind fun xs g => match pickD ix xs with | some ds => .ok (.exc c ds) g | none => .st := by simp only [evE] <;> rfl
@[simp] theorem x_dkd (ks : List Str) (as : A) : evE cs call (.dkd ks as) Γ g = (evA cs call as Γ g).bind fun vs g => if vs.length = ks.length ∧ ks.length ≤ 15 ∧ ks.Nodup then .ok (.dks ks vs) g else .st := by simp only [evE]
@[simp] theorem x_mkX (c : Nat) (as : A) : evE cs call (.mkX c as) Γ g = (evA cs call as Γ g).bind fun ds g => .ok (.exc c ds) g := by simp only [evE]
@[simp] theorem x_callv0 (i : Nat) : evE cs call (.callv0 i) Γ g = match Γ[i]? with | some (.val .fn) => call LAM [.non] g | _ => .st := by simp only [evE] <;> rfl
@[simp] theorem s_tryK' (j : Nat) (e : E) (yes : List Nat) (i : Nat) : evS cs call (.tryK j e yes i) Γ g = match evE cs call e Γ g with
      | .ok d g => if j < Γ.length then .ok (.nx (Γ.set j (.val d))) g else .st
      | .ex c ds g => if yes.contains c && decide (i < Γ.length) then .ok (.nx ((List.replicate Γ.length Slot.no).set i (.val (.exc c ds)))) g else .st
      | .st => .st := by simp only [evS] <;> rfl
@[simp] theorem x_said (v : Nat) (tb : List (Nat × Str)) (e : E) : evE cs call (.said v tb e) Γ g = caughtR tb (evE cs call e Γ g) := by simp only [evE]
@[simp] theorem s_rais' (c : Nat) (as : A) : evS cs call (.rais c as) Γ g = (evA cs call as Γ g).bind fun ds g => .ex c ds g := by simp only [evS]
@[simp] theorem s_stop' : evS cs call .stop Γ g = .st := by simp only [evS]
@[simp] theorem s_pass' : evS cs call .pass Γ g = .ok (.nx Γ) g := by simp only [evS]
theorem s_for' (t : T) (it : I) (b : B) : evS cs call (.for_ t it b) Γ g = (evI cs call it Γ g).bind fun xs g => forR (fun x Γ g => (lift (setT t x Γ) g).bind fun Γ' g => evB cs call b Γ' g) xs Γ g := by simp only [evS]
@[simp] theorem b_nil : evB cs call .nil Γ g = .ok (.nx Γ) g := by simp only [evB]
@[simp] theorem b_cons (s : S) (b : B) : evB cs call (.cons s b) Γ g = (evS cs call s Γ g).bind fun fl g => match fl with
    | .nx Γ' => evB cs call b Γ' g
    | .rt d => .ok (.rt d) g := by simp only [evB] <;> rfl
end
@[simp] theorem t_var (i : Nat) (d : D) (Γ : Gm) : setT (.var i) d Γ = if i < Γ.length then some (Γ.set i (.val d)) else none := by simp only [setT]
@[simp] theorem t_tup (ts : List T) (ds : List D) (Γ : Gm) : setT (.tup ts) (.tup ds) Γ = setTs ts ds Γ := by simp only [setT]
@[simp] theorem ts_nil (Γ : Gm) : setTs [] [] Γ = some Γ := by simp only [setTs]
@[simp] theorem ts_cons (t : T) (ts : List T) (d : D) (ds : List D) (Γ : Gm) : setTs (t :: ts) (d :: ds) Γ = (setT t d Γ).bind (setTs ts ds) := by simp only [setTs]
@[simp] theorem v_var (i : Nat) : (T.var i).vars = [i] := by simp only [T.vars]
@[simp] theorem v_tup (ts : List T) : (T.tup ts).vars = varsT ts := by simp only [T.vars]
@[simp] theorem vs_nil : varsT [] = [] := by simp only [varsT]
@[simp] theorem vs_cons (t : T) (ts : List T) : varsT (t :: ts) = t.vars ++ varsT ts := by simp only [varsT]
@[simp] theorem w_nil (Γ : Gm) : wipeG Γ [] = Γ := rfl
@[simp] theorem w_cons (Γ : Gm) (v : Nat) (vs : List Nat) : wipeG Γ (v :: vs) = (wipeG Γ vs).set v .no := rfl
@[simp] theorem c_lt (i j : Int) : cmpD .lt (.int i) (.int j) = some (decide (i < j)) := rfl
@[simp] theorem c_le (i j : Int) : cmpD .le (.int i) (.int j) = some (decide (i ≤ j)) := rfl
@[simp] theorem c_gt (i j : Int) : cmpD .gt (.int i) (.int j) = some (decide (j < i)) := rfl
@[simp] theorem c_ge (i j : Int) : cmpD .ge (.int i) (.int j) = some (decide (j ≤ i)) := rfl
@[simp] theorem c_eq (i j : Int) : cmpD .eq (.int i) (.int j) = some (decide (i = j)) := rfl
@[simp] theorem c_ne (i j : Int) : cmpD .ne (.int i) (.int j) = some (!decide (i = j)) := rfl
@[simp] theorem c_eqs (i j : Str) : cmpD .eq (.str i) (.str j) = some (decide (i = j)) := rfl
@[simp] theorem o_add (i j : Int) : opD .add (.int i) (.int j) = some (.int (i + j)) := rfl
@[simp] theorem o_sub (i j : Int) : opD .sub (.int i) (.int j) = some (.int (i - j)) := rfl
@[simp] theorem sq_tup (xs : List D) : seqD (.tup xs) = some xs := rfl
@[simp] theorem sq_lst (xs : List D) : seqD (.lst xs) = some xs := rfl
@[simp] theorem it_tup (xs : List D) : itemsD (.tup xs) = some xs := rfl
@[simp] theorem it_lst (xs : List D) : itemsD (.lst xs) = some xs := rfl
@[simp] theorem sl_tup (xs : List D) (lo hi : Option Int) : slD (.tup xs) lo hi = some (.tup (cutD xs lo hi)) := rfl
@[simp] theorem sl_lst (xs : List D) (lo hi : Option Int) : slD (.lst xs) lo hi = some (.lst (cutD xs lo hi)) := rfl
@[simp] theorem ix_tup (xs : List D) (i : Int) : idxD (.tup xs) (.int i) = atD xs i := rfl
@[simp] theorem ix_lst (xs : List D) (i : Int) : idxD (.lst xs) (.int i) = atD xs i := rfl
@[simp] theorem at_0 (x : D) (xs : List D) : atD (x :: xs) 0 = some x := rfl
@[simp] theorem at_1 (x y : D) (xs : List D) : atD (x :: y :: xs) 1 = some y := rfl
@[simp] theorem at_2 (x y z : D) (xs : List D) : atD (x :: y :: z :: xs) 2 = some z := rfl
@[simp] theorem bi_lent (xs : List D) : biD .len [.tup xs] = some (.int xs.length) := rfl
@[simp] theorem bi_lenl (xs : List D) : biD .len [.lst xs] = some (.int xs.length) := rfl
@[simp] theorem bi_lens (xs : List Int) : biD .len [.scr xs] = some (.int xs.length) := rfl
@[simp] theorem bi_tupl (xs : List D) : biD .tuple [.lst xs] = some (.tup xs) := rfl
@[simp] theorem bi_all (xs : List D) : biD .all [.lst xs] = (blsD xs).map fun bs => .bl (bs.all id) := rfl
@[simp] theorem bi_sum (xs : List D) : biD .sum [.lst xs] = (intsD xs).map fun ns => .int ns.sum := rfl
@[simp] theorem bi_int (i : Int) : biD .int [.int i] = some (.int i) := rfl
@[simp] theorem bi_sorted (xs : List D) : biD .sorted [.lst xs] = (intsD xs).map fun ns => .lst ((sortI ns).map .int) := rfl
@[simp] theorem is_int (i : Int) (ts : List Ty) : isiD ts (.int i) = some (ts.any (isI · (.int i))) := rfl
@[simp] theorem is_tup (i : List D) (ts : List Ty) : isiD ts (.tup i) = some (ts.any (isI · (.tup i))) := rfl
@[simp] theorem is_ii (i : Int) : isI .int (.int i) = true := rfl
@[simp] theorem is_bi (i : Int) : isI .bool (.int i) = false := rfl
@[simp] theorem is_tt (i : List D) : isI .tuple (.tup i) = true := rfl
theorem den_f {p : Pr} {f : Nat} {df : Df} {k : Nat} {ds : List D} {g : G} (h : p.ds.lookup f = some df) (hl : ds.length = df.np) (hn : df.np ≤ df.nn) : den p (k + 1) f ds g = endR (evB p.cs (den p k) df.body (startG df.nn ds) g) := by
  show (match p.ds.lookup f with
    | none => R.st
    | some df => if ds.length = df.np ∧ df.np ≤ df.nn then endR (evB p.cs (den p k) df.body (startG df.nn ds) g) else .st) = _
  rw [h]
  simp only
  rw [if_pos ⟨hl, hn⟩]
def likeB : B := (.cons (.ret (.cmp .eq (.bi .repr (.cons (.var 0) .nil)) (.bi .repr (.cons (.var 1) .nil)))) .nil)
end Pk
set_option Elab.async false
set_option linter.all false
set_option maxRecDepth 100000
set_option maxHeartbeats 4000000
namespace Pk
open PySem Bk
variable {p : Pr} [HP p]
def Sm (x : Int) : Prop := x.natAbs < 10 ^ 100
theorem Sm.log {x : Int} (h : Sm x) : x.natAbs.log2 < 400 := by
  by_cases h0 : x.natAbs = 0
  · rw [h0]; decide
  · rw [Nat.log2_lt h0]
    exact Nat.lt_trans h (by decide)
theorem tail_ints (l : List Int) : cutD (l.map D.int) (some 1) none = l.tail.map D.int := by
  cases l with
  | nil => rfl
  | cons a l =>
    simp [cutD, sIxD, List.take_of_length_le]
end Pk
set_option Elab.async false
set_option linter.all false
set_option maxRecDepth 100000
set_option maxHeartbeats 4000000
namespace Pk
open PySem Bk
variable {p : Pr} [HP p]
def ti (l : List Int) : D := .tup (l.map .int)
def li (l : List Int) : D := .lst (l.map .int)
def plD (fs : List Int) (w : Int) (ps : List Int) : D := .tup [ti fs, .int w, ti ps]
@[simp] theorem g_0 : p.cs.lookup 0 = some (.int 1000000000) := HP.c_MOST_OF
@[simp] theorem g_1 : p.cs.lookup 1 = some (.int 1000000000000000000000000000000) := HP.c_MOST_ROOM
@[simp] theorem g_2 : p.cs.lookup 2 = some (.int 4) := HP.c_MOST_FARES
@[simp] theorem g_3 : p.cs.lookup 3 = some (.int 99) := HP.c_MOST_FARE
@[simp] theorem ti_it (l : List Int) : itemsD (ti l) = some (l.map .int) := rfl
@[simp] theorem li_it (l : List Int) : itemsD (li l) = some (l.map .int) := rfl
@[simp] theorem ti_sq (l : List Int) : seqD (ti l) = some (l.map .int) := rfl
@[simp] theorem li_sq (l : List Int) : seqD (li l) = some (l.map .int) := rfl
@[simp] theorem ti_len (l : List Int) : biD .len [ti l] = some (.int l.length) := by simp [ti]
@[simp] theorem li_len (l : List Int) : biD .len [li l] = some (.int l.length) := by simp [li]
@[simp] theorem ti_sl (l : List Int) : slD (ti l) (some 1) none = some (ti l.tail) := by simp [ti, tail_ints]
@[simp] theorem li_sl (l : List Int) : slD (li l) (some 1) none = some (li l.tail) := by simp [li, tail_ints]
@[simp] theorem ti_is (l : List Int) (ts : List Ty) : isiD ts (ti l) = some (ts.any (isI · (ti l))) := rfl
@[simp] theorem ti_ist (l : List Int) : isI .tuple (ti l) = true := rfl
@[simp] theorem pl_is (fs : List Int) (w : Int) (ps : List Int) (ts : List Ty) : isiD ts (plD fs w ps) = some (ts.any (isI · (plD fs w ps))) := rfl
@[simp] theorem pl_ist (fs : List Int) (w : Int) (ps : List Int) : isI .tuple (plD fs w ps) = true := rfl
@[simp] theorem pl_len (fs : List Int) (w : Int) (ps : List Int) : biD .len [plD fs w ps] = some (.int 3) := rfl
@[simp] theorem pl_0 (fs : List Int) (w : Int) (ps : List Int) : idxD (plD fs w ps) (.int 0) = some (ti fs) := rfl
@[simp] theorem pl_1 (fs : List Int) (w : Int) (ps : List Int) : idxD (plD fs w ps) (.int 1) = some (.int w) := rfl
@[simp] theorem pl_2 (fs : List Int) (w : Int) (ps : List Int) : idxD (plD fs w ps) (.int 2) = some (ti ps) := rfl
def ups (l : List Int) : Bool := (l.zip l.tail).all fun q => decide (q.1 ≤ q.2)
def upS (l : List Int) : Bool := (l.zip l.tail).all fun q => decide (q.1 < q.2)
def fsOk (fs : List Int) : Bool := decide (1 ≤ fs.length) && decide (fs.length ≤ 4) && fs.all (fun f => decide (1 ≤ f) && decide (f ≤ 99)) && upS fs
def plOk (fs : List Int) (w : Int) (ps : List Int) : Bool := fsOk fs && decide (1 ≤ w) && decide (w ≤ 1000000000) && decide (ps.length = fs.length) && ps.all (fun q => decide (0 ≤ q) && decide (q ≤ w)) && ups ps
structure PO (fs : List Int) (w : Int) (ps : List Int) : Prop where
  f1 : 1 ≤ fs.length
  f4 : fs.length ≤ 4
  f : ∀ f ∈ fs, 1 ≤ f ∧ f ≤ 99
  w0 : 1 ≤ w
  w1 : w ≤ 1000000000
  len : ps.length = fs.length
  q : ∀ q ∈ ps, 0 ≤ q ∧ q ≤ w
  up : ups ps = true
  upf : upS fs = true
theorem PO.of {fs : List Int} {w : Int} {ps : List Int} (h : plOk fs w ps = true) : PO fs w ps := by
  unfold plOk fsOk at h
  simp only [Bool.and_eq_true, decide_eq_true_eq, List.all_eq_true] at h
  obtain ⟨⟨⟨⟨⟨⟨⟨⟨a1, a2⟩, a3⟩, a4⟩, h2⟩, h3⟩, h4⟩, h5⟩, h6⟩ := h
  exact ⟨a1, a2, a3, h2, h3, h4, h5, h6, a4⟩
end Pk
set_option Elab.async false
set_option linter.all false
set_option maxRecDepth 100000
set_option maxHeartbeats 4000000
set_option Elab.async false
set_option linter.all false
set_option maxRecDepth 100000
set_option maxHeartbeats 4000000
namespace Pk
open PySem Bk
def sc (m : Int) (q : Int × Int) : Int × Int := (m * q.1, m * q.2)
end Pk
set_option Elab.async false
set_option linter.all false
set_option maxRecDepth 100000
set_option maxHeartbeats 4000000
namespace Pk
open PySem Bk
/-- strictly rising from a on -/
def Us : Int → List Int → Prop
  | _, [] => True
  | a, b :: r => a < b ∧ Us b r
theorem Us.of : ∀ {l : List Int} {a : Int}, upS (a :: l) = true → Us a l
  | [], a, _ => trivial
  | b :: l, a, h => by
    simp only [upS, List.tail_cons, List.zip_cons_cons, List.all_cons, Bool.and_eq_true, decide_eq_true_eq] at h
    exact ⟨h.1, Us.of (by simpa [upS] using h.2)⟩
end Pk
set_option Elab.async false
set_option linter.all false
set_option maxRecDepth 100000
set_option maxHeartbeats 4000000
namespace Pk
open PySem Bk
variable {p : Pr} [HP p]
structure Sz (n h : Nat) (d : D) : Prop where
  pl : d.pl = true
  sh : d.py.showable = true
  dp : d.py.depth ≤ h
  ln : d.py.shown.length ≤ n
theorem Sz.mono {n h n' h' : Nat} {d : D} (s : Sz n h d) (hn : n ≤ n') (hh : h ≤ h') : Sz n' h' d := ⟨s.pl, s.sh, Nat.le_trans s.dp hh, Nat.le_trans s.ln hn⟩
theorem Sz.int {i : Int} (h : Sm i) : Sz 1921 0 (.int i) := by
  have hl := h.log
  refine ⟨by simp [D.pl], by simp only [D.py, PyData.showable]; exact decide_eq_true (by omega), by simp [D.py, PyData.depth], ?_⟩
  simp only [D.py, PyData.shown]
  exact PyProof.Rows.int_text_len_1921 (by omega)
theorem Sz.all {n h : Nat} : ∀ {ds : List D}, (∀ d ∈ ds, Sz n h d) → pls ds = true ∧ PyData.showableAll (pys ds) = true ∧ PyData.depthAll (pys ds) ≤ h ∧ ((PyData.shownAll (pys ds)).map (·.length)).sum ≤ n * ds.length ∧ (PyData.shownAll (pys ds)).length = ds.length
  | [], _ => by simp [pls, pys, PyData.showableAll, PyData.depthAll, PyData.shownAll]
  | d :: ds, H => by
    have h1 := H d (by simp)
    obtain ⟨i1, i2, i3, i4, i5⟩ := Sz.all (ds := ds) fun x hx => H x (by simp [hx])
    refine ⟨by simp [pls, h1.pl, i1], by simp [pys, PyData.showableAll, h1.sh, i2], ?_, ?_, ?_⟩
    · simp only [pys, PyData.depthAll]; exact Nat.max_le.mpr ⟨h1.dp, i3⟩
    · simp only [pys, PyData.shownAll, List.map_cons, List.sum_cons, List.length_cons, Nat.mul_add, Nat.mul_one]
      have := h1.ln
      omega
    · simp [pys, PyData.shownAll, i5]
theorem Sz.tup {n h : Nat} {ds : List D} (H : ∀ d ∈ ds, Sz n h d) : Sz ((n + 2) * ds.length + 3) (h + 1) (.tup ds) := by
  obtain ⟨i1, i2, i3, i4, i5⟩ := Sz.all H
  refine ⟨by simp [D.pl, i1], by simp [D.py, PyData.showable, i2], by simp [D.py, PyData.depth]; exact i3, ?_⟩
  simp only [D.py, PyData.shown]
  have := tupleText_len_le (PyData.shownAll (pys ds))
  rw [i5] at this
  rw [Nat.add_mul]
  omega
theorem Sz.lst {n h : Nat} {ds : List D} (H : ∀ d ∈ ds, Sz n h d) : Sz ((n + 2) * ds.length + 3) (h + 1) (.lst ds) := by
  obtain ⟨i1, i2, i3, i4, i5⟩ := Sz.all H
  refine ⟨by simp [D.pl, i1], by simp [D.py, PyData.showable, i2], by simp [D.py, PyData.depth]; exact i3, ?_⟩
  simp only [D.py, PyData.shown]
  have := listText_len_le (PyData.shownAll (pys ds))
  rw [i5] at this
  rw [Nat.add_mul]
  omega
theorem draw_bd (g : G) {lim : Int} (h : 0 < lim) : 0 ≤ (g.draw lim).1 ∧ (g.draw lim).1 < lim ∧ (g.draw lim).2.spot = g.spot + 1 := by
  have hm : 0 ≤ g.mix lim ∧ g.mix lim < lim := by unfold G.mix; exact ⟨Int.emod_nonneg _ (by omega), Int.emod_lt_of_pos _ h⟩
  unfold G.draw
  split
  · exact ⟨hm.1, hm.2, rfl⟩
  · split
    · exact ⟨Int.emod_nonneg _ (by omega), Int.emod_lt_of_pos _ h, rfl⟩
    · exact ⟨hm.1, hm.2, rfl⟩
theorem rngD_len : ∀ (n : Nat) (a : Int), (rngD a n).length = n
  | 0, _ => rfl
  | n + 1, a => by simp [rngD, rngD_len n]
end Pk
set_option Elab.async false
set_option linter.all false
set_option maxRecDepth 100000
set_option maxHeartbeats 4000000
namespace Pk
open PySem Bk
variable {p : Pr} [HP p]
def drw (x y : D) (g : G) : R D := match x, y with
  | .m, .int lim => if 0 < lim ∧ lim < 2 ^ 4000 ∧ g.spot < 2 ^ 60 then .ok (.int (g.draw lim).1) (g.draw lim).2 else .st
  | _, _ => .st
theorem x_drw {cs : List (Nat × D)} {call : Calls} {Γ : Gm} {g : G} (a b : E) : evE cs call (.draw a b) Γ g = (evE cs call a Γ g).bind fun x g => (evE cs call b Γ g).bind fun y g => drw x y g := by rw [x_draw]; rfl
theorem drw_ok {lim : Int} {g : G} (h0 : 0 < lim) (h1 : lim ≤ 10 ^ 100) (hs : g.spot < 2 ^ 60) : ∃ v g', drw .m (.int lim) g = .ok (.int v) g' ∧ 0 ≤ v ∧ v < lim ∧ g'.spot = g.spot + 1 := by
  have hb2 := draw_bd g h0
  refine ⟨(g.draw lim).1, (g.draw lim).2, ?_, hb2⟩
  have : lim < 2 ^ 4000 := Int.lt_of_le_of_lt h1 (by decide +kernel)
  simp only [drw, h0, this, hs, and_self, if_true]
end Pk
set_option Elab.async false
set_option linter.all false
set_option maxRecDepth 100000
set_option maxHeartbeats 1000000
namespace Bk
open PySem L2
open Evl (Ex ex_l ex_t)
structure Wd where
  am : Addr
  ac : Addr
  ag : Addr
  w : World
  /-- the written part -/
  k : PySem.W.Frag
  /-- the tables of code objects: where, and the name of what is made -/
  tb : List (Addr × Str)
  /-- the classes of exceptions: where, and their fields -/
  xc : List (Nat × Addr × List Str)
  /-- the function that a def got -/
  lf : Addr
  /-- what is surely known, what surely stands -/
  hc : Hp
  hh : Hp
/-- an object that is known to the sign -/
def ObX (d : Addr) (o : Obj) : HO := .ext fun h => h.get? d = some o
theorem obX_ok {P : Program} {w : World} {H : Hp} {h : Heap} {d : Addr} {o : Obj} (e : h.get? d = some o) : ObjOk P w H h d (ObX d o) := ⟨e, ⟨o, e⟩, fun _ _ z k => k _ z⟩
theorem obX_at {P : Program} {w : World} {H : Hp} {h : Heap} {d : Addr} {o : Obj} (hok : HOk P w H h) (e : H d = some (ObX d o)) : h.get? d = some o := by
  have x : ObjOk P w H h d (.ext fun h => h.get? d = some o) := hok d _ e
  exact x.1
/-- the object is a dict with these keys, the places of these, these values -/
def DcIs (w : World) (o : Obj) (xs : List (NestedKey × Addr × V)) : Prop := ∃ ys : List (NestedKey × Addr × Value), Paired (fun (p : NestedKey × Addr × V) (q : NestedKey × Addr × Value) => p.1 = q.1 ∧ p.2.1 = q.2.1 ∧ RelV p.2.2 q.2.2) xs ys ∧
  o.ExactDict ∧ (ys.map (·.1)).Nodup ∧ ∃ es ep, o.data = .dict es ep ∧ es.toList = ys.map fun x => (⟨x.1.hash w, .ref x.2.1, x.2.2⟩ : DictEntry)
theorem some_heap (o : Obj) (ho : o.isFreed = false) (p : Addr) : ∃ h : Heap, h.get? p = some o := by
  have sz : ∀ n : Nat, ∃ h : Heap, h.objs.size = n := by
    intro n
    induction n with
    | zero => exact ⟨{ objs := #[] }, rfl⟩
    | succ n ih =>
      obtain ⟨h, e⟩ := ih
      exact ⟨h.push o, by rw [Heap.size_push, e]⟩
  obtain ⟨h, e⟩ := sz p
  refine ⟨h.push o, ?_⟩
  rw [← e]
  exact Heap.get?_push_size h ho
/-- no code object stands there -/
def NC (H : Hp) (p : Addr) : Prop := ∀ q : Str, H p ≠ some (LamX.CodeO p q)
theorem nc_none {H : Hp} {p : Addr} (h : H p = none) : NC H p := fun q z => by rw [h] at z; cases z
theorem nc_lst {H : Hp} {p : Addr} {xs : List V} (h : H p = some (.lst xs)) : NC H p := fun q z => by
  rw [h] at z
  have z' := Option.some.inj z
  unfold LamX.CodeO at z'
  cases z'
theorem nc_dK {H : Hp} {p : Addr} {xs : List (Key × V)} (h : H p = some (.dK xs)) : NC H p := fun q z => by
  rw [h] at z
  have z' := Option.some.inj z
  unfold LamX.CodeO at z'
  cases z'
theorem nc_obX {H : Hp} {p : Addr} {o : Obj} {es : Array DictEntry} {ep : Nat} (h : H p = some (ObX p o)) (d : o.data = .dict es ep) : NC H p := fun q z => by
  rw [h] at z
  have z' := Option.some.inj z
  unfold LamX.CodeO ObX at z'
  have e1 := HO.ext.inj z'
  obtain ⟨hp, eh⟩ := some_heap o (by obtain ⟨c, dd, dt, sl⟩ := o; simp only at d; subst d; rfl) p
  have e2 : (∃ (oc : Obj) (vs : Array Value) (t : Tok), hp.get? p = some oc ∧ oc.data = .fields vs ∧ vs[1]? = some (.str q t)) := by
    have e9 : (hp.get? p = some o) = _ := congrFun e1 hp
    exact e9.mp eh
  obtain ⟨oc, vs, t, e3, e4, _⟩ := e2
  rw [eh] at e3
  cases e3
  rw [d] at e4
  cases e4
/-- the fields' values, one by one -/
def Lk (fs : List (Str × V)) : List Str → List V → Prop
  | [], [] => True
  | n :: ns, v :: vs => fs.lookup n = some v ∧ Lk fs ns vs
  | _, _ => False
section
variable (K : PySem.W.Frag) (W : Wd)
mutual
def Rp (H : Hp) : D → V → Prop
  | .non, v => v = .non
  | .bl b, v => v = .bl b
  | .int i, v => v = .int i
  | .str x, v => v = .str x
  | .tup ds, v => ∃ a xs, v = .ref a ∧ SqT K H a xs ∧ RpL H ds xs
  | .lst ds, v => ∃ a xs, v = .ref a ∧ H a = some (.lst xs) ∧ RpL H ds xs
  | .m, v => v = .ref W.am
  | .scr ns, v => ∃ a, v = .ref a ∧ SqL K H a (ns.map V.int)
  | .fn, v => v = .ref W.lf
  | .exc c ds, v => ∃ (a : Addr) (o : Obj) (C d : Addr) (ns : List Str) (fs : List (Str × V)) (vs : List V), v = .ref a ∧ H a = some (ObX a o) ∧ W.xc.lookup c = some (C, ns) ∧ Zc (.ref C) (some d) o ∧ (∃ us, o.data = .fields us) ∧ H d = some (.xd fs) ∧ Lk fs ns vs ∧ RpL H ds vs
  | .dks ks vs, v => ∃ (a : Addr) (xs : List V), v = .ref a ∧ H a = some (.dK ((ks.zip xs).map fun q => (.inr q.1, q.2))) ∧ ks.length = vs.length ∧ RpL H vs xs
  | .dct ks vs, v => ∃ (a : Addr) (o : Obj) (xs : List (NestedKey × Addr × V)), v = .ref a ∧ H a = some (ObX a o) ∧ (a == sysModules) = false ∧ DcIs W.w o xs ∧ xs.map (·.1) = keysD ks ∧ ks.all okK = true ∧ RpL H ks (xs.map fun x => V.ref x.2.1) ∧ RpL H vs (xs.map fun x => x.2.2)
def RpL (H : Hp) : List D → List V → Prop
  | [], xs => xs = []
  | d :: ds, xs => ∃ y ys, xs = y :: ys ∧ Rp H d y ∧ RpL H ds ys
end
end
section
variable {K : PySem.W.Frag} {W : Wd} {Hk Hk' Hk1 Hk2 H H' H1 H2 : Hp}
mutual
theorem Rp.mono (e : Ex H H') : ∀ {d : D} {v : V}, Rp K W H d v → Rp K W H' d v
  | .non, _, h => h
  | .bl _, _, h => h
  | .int _, _, h => h
  | .str _, _, h => h
  | .tup ds, v, h => by
    obtain ⟨a, xs, e1, h1, h2⟩ := h
    exact ⟨a, xs, e1, ex_t e h1, RpL.mono e h2⟩
  | .lst ds, v, h => by
    obtain ⟨a, xs, e1, h1, h2⟩ := h
    exact ⟨a, xs, e1, e _ _ h1, RpL.mono e h2⟩
  | .m, _, h => h
  | .fn, _, h => h
  | .exc c ds, _, h => by
    obtain ⟨a, o, C, d, ns, fs, vs, e1, h1, h2, h3, h4, h5, h6, h7⟩ := h
    exact ⟨a, o, C, d, ns, fs, vs, e1, e _ _ h1, h2, h3, h4, e _ _ h5, h6, RpL.mono e h7⟩
  | .dks ks vs, _, h => by
    obtain ⟨a, xs, e1, h1, h2, h3⟩ := h
    exact ⟨a, xs, e1, e _ _ h1, h2, RpL.mono e h3⟩
  | .scr ns, _, h => by
    obtain ⟨a, e1, h1⟩ := h
    exact ⟨a, e1, ex_l e h1⟩
  | .dct ks vs, _, h => by
    obtain ⟨a, o, xs, e1, h1, h2, h3, h4, h5, h6, h7⟩ := h
    exact ⟨a, o, xs, e1, e _ _ h1, h2, h3, h4, h5, RpL.mono e h6, RpL.mono e h7⟩
theorem RpL.mono (e : Ex H H') : ∀ {ds : List D} {vs : List V}, RpL K W H ds vs → RpL K W H' ds vs
  | [], _, h => h
  | d :: ds, vs, h => by
    obtain ⟨y, ys, e1, h1, h2⟩ := h
    exact ⟨y, ys, e1, Rp.mono e h1, RpL.mono e h2⟩
end
theorem RpL.len : ∀ {ds : List D} {vs : List V}, RpL K W H ds vs → vs.length = ds.length
  | [], _, h => by rw [show _ = [] from h]; rfl
  | d :: ds, vs, h => by
    obtain ⟨y, ys, rfl, _, h2⟩ := h
    rw [List.length_cons, List.length_cons, RpL.len h2]
theorem RpL.get : ∀ {ds : List D} {vs : List V} {i : Nat} {d : D}, RpL K W H ds vs → ds[i]? = some d → ∃ v, vs[i]? = some v ∧ Rp K W H d v
  | [], _, _, _, _, e => by simp at e
  | d :: ds, vs, 0, x, h, e => by
    obtain ⟨y, ys, rfl, h1, _⟩ := h
    simp at e
    subst e
    exact ⟨y, rfl, h1⟩
  | d :: ds, vs, i + 1, x, h, e => by
    obtain ⟨y, ys, rfl, _, h2⟩ := h
    obtain ⟨v, e1, e2⟩ := RpL.get (i := i) h2 (by simpa using e)
    exact ⟨v, by simpa using e1, e2⟩
theorem RpL.at : ∀ {ds : List D} {vs : List V} {i : Nat} {v : V}, RpL K W H ds vs → vs[i]? = some v → ∃ d, ds[i]? = some d ∧ Rp K W H d v
  | [], _, _, _, h, e => by rw [show _ = [] from h] at e; simp at e
  | d :: ds, vs, 0, x, h, e => by
    obtain ⟨y, ys, rfl, h1, _⟩ := h
    simp at e
    subst e
    exact ⟨d, rfl, h1⟩
  | d :: ds, vs, i + 1, x, h, e => by
    obtain ⟨y, ys, rfl, _, h2⟩ := h
    obtain ⟨v, e1, e2⟩ := RpL.at (i := i) h2 (by simpa using e)
    exact ⟨v, by simpa using e1, e2⟩
theorem RpL.nil : RpL K W H [] [] := rfl
theorem RpL.cons {d : D} {ds : List D} {v : V} {vs : List V} (h : Rp K W H d v) (hs : RpL K W H ds vs) : RpL K W H (d :: ds) (v :: vs) := ⟨v, vs, rfl, h, hs⟩
theorem RpL.append : ∀ {ds es : List D} {vs us : List V}, RpL K W H ds vs → RpL K W H es us → RpL K W H (ds ++ es) (vs ++ us)
  | [], _, _, _, h, h' => by rw [show _ = [] from h]; exact h'
  | d :: ds, es, vs, us, h, h' => by
    obtain ⟨y, ys, rfl, h1, h2⟩ := h
    exact ⟨y, ys ++ us, rfl, h1, RpL.append h2 h'⟩
theorem RpL.drop : ∀ (n : Nat) {ds : List D} {vs : List V}, RpL K W H ds vs → RpL K W H (ds.drop n) (vs.drop n)
  | 0, _, _, h => h
  | n + 1, [], _, h => by rw [show _ = [] from h]; exact rfl
  | n + 1, d :: ds, vs, h => by
    obtain ⟨y, ys, rfl, h1, h2⟩ := h
    exact RpL.drop n h2
theorem RpL.take : ∀ (n : Nat) {ds : List D} {vs : List V}, RpL K W H ds vs → RpL K W H (ds.take n) (vs.take n)
  | 0, _, _, h => rfl
  | n + 1, [], _, h => by rw [show _ = [] from h]; exact rfl
  | n + 1, d :: ds, vs, h => by
    obtain ⟨y, ys, rfl, h1, h2⟩ := h
    exact ⟨y, ys.take n, rfl, h1, RpL.take n h2⟩
theorem RpL.rep {ds : List D} {vs : List V} (h : RpL K W H ds vs) : ∀ n : Nat, RpL K W H (List.replicate n ds).flatten (List.replicate n vs).flatten
  | 0 => rfl
  | n + 1 => by
    rw [List.replicate_succ, List.replicate_succ, List.flatten_cons, List.flatten_cons]
    exact h.append (RpL.rep h n)
theorem RpL.ints : ∀ {ds : List D} {vs : List V} {ns : List Int}, RpL K W H ds vs → intsD ds = some ns → vs = ns.map V.int
  | [], vs, ns, h, e => by
    rw [show vs = [] from h]
    simp only [intsD, Option.some.injEq] at e
    subst e; rfl
  | d :: ds, vs, ns, h, e => by
    obtain ⟨y, ys, rfl, h1, h2⟩ := h
    cases d with
    | int i =>
      simp only [intsD, Option.map_eq_some_iff] at e
      obtain ⟨l, e1, rfl⟩ := e
      rw [show y = V.int i from h1, RpL.ints h2 e1]; rfl
    | _ => simp only [intsD] at e; cases e
theorem RpL.bls : ∀ {ds : List D} {vs : List V} {ns : List Bool}, RpL K W H ds vs → blsD ds = some ns → vs = ns.map V.bl
  | [], vs, ns, h, e => by
    rw [show vs = [] from h]
    simp only [blsD, Option.some.injEq] at e
    subst e; rfl
  | d :: ds, vs, ns, h, e => by
    obtain ⟨y, ys, rfl, h1, h2⟩ := h
    cases d with
    | bl i =>
      simp only [blsD, Option.map_eq_some_iff] at e
      obtain ⟨l, e1, rfl⟩ := e
      rw [show y = V.bl i from h1, RpL.bls h2 e1]; rfl
    | _ => simp only [blsD] at e; cases e
theorem RpL.ofInts : ∀ (ns : List Int), RpL K W H (ns.map D.int) (ns.map V.int)
  | [] => rfl
  | n :: ns => ⟨_, _, rfl, rfl, RpL.ofInts ns⟩
mutual
theorem Rp.dp : ∀ {d : D} {v : V}, Rp K W H d v → d.pl = true → Dp K H v d.py
  | .non, v, h, _ => by rw [show v = _ from h]; exact .non
  | .bl b, v, h, _ => by rw [show v = _ from h]; exact .bl b
  | .int i, v, h, _ => by rw [show v = _ from h]; exact .int i
  | .str x, v, h, _ => by rw [show v = _ from h]; exact .str x
  | .tup ds, v, h, p => by
    obtain ⟨a, xs, rfl, h1, h2⟩ := h
    exact .tup h1 (RpL.dps h2 p)
  | .lst ds, v, h, p => by
    obtain ⟨a, xs, rfl, h1, h2⟩ := h
    exact .lst (SqL.of h1) (RpL.dps h2 p)
  | .m, _, _, p => by cases p
  | .scr _, _, _, p => by cases p
  | .dct _ _, _, _, p => by cases p
  | .fn, _, _, p => by cases p
  | .exc _ _, _, _, p => by cases p
  | .dks _ _, _, _, p => by cases p
theorem RpL.dps : ∀ {ds : List D} {vs : List V}, RpL K W H ds vs → pls ds = true → DpAll K H vs (pys ds)
  | [], vs, h, _ => by rw [show vs = [] from h]; exact .nil
  | d :: ds, vs, h, p => by
    obtain ⟨y, ys, rfl, h1, h2⟩ := h
    simp only [pls, Bool.and_eq_true] at p
    exact .cons (Rp.dp h1 p.1) (RpL.dps h2 p.2)
end
/-- the same but for the function that a def got -/
structure WSim (W W' : Wd) : Prop where
  am : W'.am = W.am
  ac : W'.ac = W.ac
  ag : W'.ag = W.ag
  w : W'.w = W.w
  k : W'.k = W.k
  tb : W'.tb = W.tb
  xc : W'.xc = W.xc
mutual
theorem Rp.sim {W' : Wd} (e : WSim W W') : ∀ {d : D} {v : V}, noFn d = true → (Rp K W' H d v ↔ Rp K W H d v)
  | .non, _, _ => Iff.rfl
  | .bl _, _, _ => Iff.rfl
  | .int _, _, _ => Iff.rfl
  | .str _, _, _ => Iff.rfl
  | .tup ds, v, n => by
    have h := fun xs => RpL.sim (W' := W') e (ds := ds) (vs := xs) n
    exact ⟨fun ⟨a, xs, q1, q2, q3⟩ => ⟨a, xs, q1, q2, (h xs).mp q3⟩, fun ⟨a, xs, q1, q2, q3⟩ => ⟨a, xs, q1, q2, (h xs).mpr q3⟩⟩
  | .lst ds, v, n => by
    have h := fun xs => RpL.sim (W' := W') e (ds := ds) (vs := xs) n
    exact ⟨fun ⟨a, xs, q1, q2, q3⟩ => ⟨a, xs, q1, q2, (h xs).mp q3⟩, fun ⟨a, xs, q1, q2, q3⟩ => ⟨a, xs, q1, q2, (h xs).mpr q3⟩⟩
  | .m, v, _ => by
    show v = _ ↔ v = _
    rw [e.am]
  | .scr _, _, _ => Iff.rfl
  | .fn, _, n => by cases n
  | .exc c ds, v, n => by
    have h7 := fun xs => RpL.sim (W' := W') e (ds := ds) (vs := xs) n
    exact ⟨fun ⟨a, o, C, d, ns, fs, vs, e1, h1, h2, h3, h4, h5, h6, q⟩ => ⟨a, o, C, d, ns, fs, vs, e1, h1, by rw [← e.xc]; exact h2, h3, h4, h5, h6, (h7 _).mp q⟩, fun ⟨a, o, C, d, ns, fs, vs, e1, h1, h2, h3, h4, h5, h6, q⟩ => ⟨a, o, C, d, ns, fs, vs, e1, h1, by rw [e.xc]; exact h2, h3, h4, h5, h6, (h7 _).mpr q⟩⟩
  | .dks ks vs, v, n => by
    have h := fun xs => RpL.sim (W' := W') e (ds := vs) (vs := xs) n
    exact ⟨fun ⟨a, xs, q1, q2, q3, q4⟩ => ⟨a, xs, q1, q2, q3, (h xs).mp q4⟩, fun ⟨a, xs, q1, q2, q3, q4⟩ => ⟨a, xs, q1, q2, q3, (h xs).mpr q4⟩⟩
  | .dct ks vs, v, n => by
    simp only [noFn, Bool.and_eq_true] at n
    have h1 := fun xs => RpL.sim (W' := W') e (ds := ks) (vs := xs) n.1
    have h2 := fun xs => RpL.sim (W' := W') e (ds := vs) (vs := xs) n.2
    exact ⟨fun ⟨a, o, xs, q1, q2, q3, q4, q5, q6, q7, q8⟩ => ⟨a, o, xs, q1, q2, q3, by rw [← e.w]; exact q4, q5, q6, (h1 _).mp q7, (h2 _).mp q8⟩, fun ⟨a, o, xs, q1, q2, q3, q4, q5, q6, q7, q8⟩ => ⟨a, o, xs, q1, q2, q3, by rw [e.w]; exact q4, q5, q6, (h1 _).mpr q7, (h2 _).mpr q8⟩⟩
theorem RpL.sim {W' : Wd} (e : WSim W W') : ∀ {ds : List D} {vs : List V}, noFns ds = true → (RpL K W' H ds vs ↔ RpL K W H ds vs)
  | [], _, _ => Iff.rfl
  | d :: ds, vs, n => by
    simp only [noFns, Bool.and_eq_true] at n
    have h1 := fun y => Rp.sim (W' := W') e (d := d) (v := y) n.1
    have h2 := fun ys => RpL.sim (W' := W') e (ds := ds) (vs := ys) n.2
    exact ⟨fun ⟨y, ys, q1, q2, q3⟩ => ⟨y, ys, q1, (h1 y).mp q2, (h2 ys).mp q3⟩, fun ⟨y, ys, q1, q2, q3⟩ => ⟨y, ys, q1, (h1 y).mpr q2, (h2 ys).mpr q3⟩⟩
end
/-- d stands at p as the object o -/
def Ob (K : PySem.W.Frag) (W : Wd) (H : Hp) : D → Addr → HO → Prop
  | .lst ds, _, u => ∃ xs, u = .lst xs ∧ RpL K W H ds xs
  | .dct ks vs, p, u => ∃ (o : Obj) (xs : List (NestedKey × Addr × V)), u = ObX p o ∧ (p == sysModules) = false ∧ DcIs W.w o xs ∧ xs.map (·.1) = keysD ks ∧ ks.all okK = true ∧ RpL K W H ks (xs.map fun x => V.ref x.2.1) ∧ RpL K W H vs (xs.map fun x => x.2.2)
  | _, _, _ => False
theorem Ob.mono (e : Ex H H') {d : D} {p : Addr} {u : HO} (h : Ob K W H d p u) : Ob K W H' d p u := by
  cases d <;> (try exact h.elim)
  · obtain ⟨xs, e1, h1⟩ := h
    exact ⟨xs, e1, h1.mono e⟩
  · obtain ⟨o, xs, e1, h2, h3, h4, h5, h6, h7⟩ := h
    exact ⟨o, xs, e1, h2, h3, h4, h5, h6.mono e, h7.mono e⟩
theorem Ob.is {d : D} {p : Addr} {u : HO} (h : Ob K W H d p u) : isOb d = true := by
  cases d <;> first | rfl | exact h.elim
theorem Ob.rp {d : D} {p : Addr} {u : HO} (h : Ob K W H d p u) (e : H p = some u) : Rp K W H d (.ref p) := by
  cases d <;> (try exact h.elim)
  · obtain ⟨xs, e1, h1⟩ := h
    subst e1
    exact ⟨p, xs, rfl, e, h1⟩
  · obtain ⟨o, xs, e1, h2⟩ := h
    subst e1
    exact ⟨p, o, xs, rfl, e, h2⟩
theorem Ob.nc {d : D} {p : Addr} {u : HO} (h : Ob K W H1 d p u) (e : H p = some u) : NC H p := by
  cases d <;> (try exact h.elim)
  · obtain ⟨xs, e1, _⟩ := h
    subst e1
    exact nc_lst e
  · obtain ⟨o, xs, e1, _, ⟨ys, _, _, _, es, ep, dd, _⟩, _⟩ := h
    subst e1
    exact nc_obX e dd
theorem Ob.ntb {d : D} {p : Addr} {u : HO} (h : Ob K W H1 d p u) : ∀ ps, u ≠ .tbl ps := by
  cases d <;> (try exact h.elim)
  · obtain ⟨xs, e1, _⟩ := h
    subst e1
    intro ps z; cases z
  · obtain ⟨o, xs, e1, _⟩ := h
    subst e1
    intro ps z
    unfold ObX at z
    cases z
/-- the drawing state stands -/
structure GOk (g : G) : Prop where
  len : g.cells.length = 64
  cel : ∀ c ∈ g.cells, 0 ≤ c ∧ c < 2 ^ 31
  spot : 0 ≤ g.spot
  gl : g.great.length ≤ 63
def mDict (W : Wd) (g : G) : HO := .dK [(.inr "cells", .ref W.ac), (.inr "great", .ref W.ag), (.inr "spot", .int g.spot)]
structure DrawAt (W : Wd) (g : G) (H : Hp) : Prop where
  m : H W.am = some (mDict W g)
  c : H W.ac = some (.lst (g.cells.map V.int))
  gr : H W.ag = some (.lst (g.great.map V.int))
  ne : W.ac ≠ W.ag
  ok : GOk g
  tab : LamX.Tabs W.tb H
  tin : ∀ b ps, H b = some (.tbl ps) → ∃ q ∈ W.tb, b = q.1
theorem DrawAt.mc {g : G} (h : DrawAt W g H) : W.am ≠ W.ac := ne_of h.m h.c (by intro q; cases q)
theorem DrawAt.mg {g : G} (h : DrawAt W g H) : W.am ≠ W.ag := ne_of h.m h.gr (by intro q; cases q)
def Wd.out (W : Wd) (b : Addr) : Prop := b ≠ W.am ∧ b ≠ W.ac ∧ b ≠ W.ag ∧ ∀ q ∈ W.tb, b ≠ q.1
structure Step (W : Wd) (Hk H Hk' H' : Hp) : Prop where
  k : Ex Hk Hk'
  kh : Ex Hk' H'
  h : ∀ b o, H b = some o → W.out b → H' b = some o
  t : ∀ b o, H b = some o → ∃ o', H' b = some o'
  n : ∀ b o, Hk' b = some o → Hk b = none → H b = none
theorem Step.refl (e : Ex Hk H) : Step W Hk H Hk H := ⟨Ex.refl _, e, fun _ _ h _ => h, fun _ o h => ⟨o, h⟩, fun b o h h' => by rw [h] at h'; cases h'⟩
theorem Step.trans (a : Step W Hk H Hk1 H1) (b : Step W Hk1 H1 Hk2 H2) : Step W Hk H Hk2 H2 where
  k := a.k.trans b.k
  kh := b.kh
  h := fun x o h hx => b.h x o (a.h x o h hx) hx
  t := fun x o h => by
    obtain ⟨o', h'⟩ := a.t x o h
    exact b.t x o' h'
  n := fun x o h h' => by
    cases q : Hk1 x with
    | some o' => exact a.n x o' q h'
    | none =>
      have q1 := b.n x o h q
      cases q2 : H x with
      | none => rfl
      | some o' =>
        obtain ⟨o2, h2⟩ := a.t x o' q2
        rw [q1] at h2; cases h2
/-- a new object, known -/
theorem Step.new {p : Addr} {o : HO} (e : Ex Hk H) (hp : H p = none) : Step W Hk H (upd Hk p o) (upd H p o) where
  k := Ex.new (by
    cases q : Hk p with
    | none => rfl
    | some u => rw [e p u q] at hp; cases hp)
  kh := fun b u hb => by
    by_cases hbp : b = p
    · subst hbp; rw [upd_same] at hb ⊢; exact hb
    · rw [upd_ne hbp] at hb ⊢; exact e b u hb
  h := fun b u hb _ => by rw [upd_ne (ne_of_none hb hp)]; exact hb
  t := fun b u hb => ⟨u, by rw [upd_ne (ne_of_none hb hp)]; exact hb⟩
  n := fun b u hb hn => by
    by_cases hbp : b = p
    · subst hbp; exact hp
    · rw [upd_ne hbp, hn] at hb; cases hb
/-- a new object, not (yet) known -/
theorem Step.hid {p : Addr} {o : HO} (e : Ex Hk H) (hp : H p = none) : Step W Hk H Hk (upd H p o) where
  k := Ex.refl _
  kh := fun b u hb => by
    have h := e b u hb
    rw [upd_ne (ne_of_none h hp)]; exact h
  h := fun b u hb _ => by rw [upd_ne (ne_of_none hb hp)]; exact hb
  t := fun b u hb => ⟨u, by rw [upd_ne (ne_of_none hb hp)]; exact hb⟩
  n := fun b u hb hn => by rw [hb] at hn; cases hn
/-- it becomes known -/
theorem Step.tell {p : Addr} {o : HO} (s : Step W Hk H Hk' H') (hp : H p = none) (h' : H' p = some o) : Step W Hk H (upd Hk' p o) H' where
  k := fun b u hb => by
    by_cases hbp : b = p
    · subst hbp
      have q := s.kh _ _ (s.k _ _ hb)
      rw [h'] at q; cases q
      exact upd_same
    · rw [upd_ne hbp]; exact s.k b u hb
  kh := fun b u hb => by
    by_cases hbp : b = p
    · subst hbp; rw [upd_same] at hb; cases hb; exact h'
    · rw [upd_ne hbp] at hb; exact s.kh b u hb
  h := s.h
  t := s.t
  n := fun b u hb hn => by
    by_cases hbp : b = p
    · subst hbp; exact hp
    · rw [upd_ne hbp] at hb; exact s.n b u hb hn
/-- an unknown object that was not there ahead is changed -/
theorem Step.mut {p : Addr} {o : HO} (s : Step W Hk H Hk' H') (hp : H p = none) (hk : Hk' p = none) : Step W Hk H Hk' (upd H' p o) where
  k := s.k
  kh := fun b u hb => by rw [upd_ne (ne_of_none hb hk)]; exact s.kh b u hb
  h := fun b u hb hx => by rw [upd_ne (ne_of_none hb hp)]; exact s.h b u hb hx
  t := fun b u hb => by rw [upd_ne (ne_of_none hb hp)]; exact s.t b u hb
  n := s.n
/-- the known part at what stays -/
theorem Step.unk {p : Addr} {o : HO} (s : Step W Hk H Hk' H') (hk : Hk p = none) (hp : H p = some o) : Hk' p = none := by
  cases q : Hk' p with
  | none => rfl
  | some u => have := s.n p u q hk; rw [hp] at this; cases this
theorem ex_upd_out {p : Addr} {g : G} (h : DrawAt W g H) (hp : H p = none) : W.out p :=
  ⟨fun e => (by rw [e, h.m] at hp; cases hp), fun e => (by rw [e, h.c] at hp; cases hp), fun e => (by rw [e, h.gr] at hp; cases hp), fun q hq e => by
    obtain ⟨ps, e1, _⟩ := h.tab q hq
    rw [e, e1] at hp
    cases hp⟩
theorem tabs_upd {T : List (Addr × Str)} {p : Addr} {o : HO} (t : LamX.Tabs T H) (hp : ∀ q ∈ T, p ≠ q.1) (hc : NC H p) : LamX.Tabs T (upd H p o) := fun q hq => by
  obtain ⟨ps, e1, e2, e3⟩ := t q hq
  refine ⟨ps, by rw [upd_ne (Ne.symm (hp q hq))]; exact e1, e2, fun pos cv z => ?_⟩
  obtain ⟨c, q1, q2⟩ := e3 pos cv z
  refine ⟨c, q1, ?_⟩
  by_cases hcp : c = p
  · subst hcp
    exact absurd q2 (hc _)
  · rw [upd_ne hcp]
    exact q2
theorem DrawAt.tne {g : G} (h : DrawAt W g H) : (∀ q ∈ W.tb, W.am ≠ q.1) ∧ (∀ q ∈ W.tb, W.ac ≠ q.1) ∧ ∀ q ∈ W.tb, W.ag ≠ q.1 := by
  refine ⟨fun q hq e => ?_, fun q hq e => ?_, fun q hq e => ?_⟩
  · obtain ⟨ps, e1, _⟩ := h.tab q hq
    have := h.m
    rw [e, e1] at this
    cases this
  · obtain ⟨ps, e1, _⟩ := h.tab q hq
    have := h.c
    rw [e, e1] at this
    cases this
  · obtain ⟨ps, e1, _⟩ := h.tab q hq
    have := h.gr
    rw [e, e1] at this
    cases this
theorem tin_upd {T : List (Addr × Str)} {p : Addr} {o : HO} (t : ∀ b ps, H b = some (.tbl ps) → ∃ q ∈ T, b = q.1) (ho : ∀ ps, o ≠ .tbl ps) : ∀ b ps, L2.upd H p o b = some (.tbl ps) → ∃ q ∈ T, b = q.1 := fun b ps e => by
  by_cases hb : b = p
  · subst hb
    rw [upd_same] at e
    exact absurd (Option.some.inj e) (ho ps)
  · rw [upd_ne hb] at e
    exact t b ps e
theorem DrawAt.upd {p : Addr} {o : HO} {g : G} (h : DrawAt W g H) (hp : W.out p) (hc : NC H p) (ho : ∀ ps, o ≠ .tbl ps := by intro _ z; first | cases z | (unfold Bk.ObX at z; cases z)) : DrawAt W g (upd H p o) :=
  ⟨by rw [upd_ne (Ne.symm hp.1)]; exact h.m, by rw [upd_ne (Ne.symm hp.2.1)]; exact h.c, by rw [upd_ne (Ne.symm hp.2.2.1)]; exact h.gr, h.ne, h.ok, tabs_upd h.tab hp.2.2.2 hc, fun b ps e => by
    by_cases hb : b = p
    · subst hb
      rw [upd_same] at e
      exact absurd (Option.some.inj e) (ho ps)
    · rw [upd_ne hb] at e
      exact h.tin b ps e⟩
theorem DrawAt.new {p : Addr} {o : HO} {g : G} (h : DrawAt W g H) (hp : H p = none) (ho : ∀ ps, o ≠ .tbl ps := by intro _ z; first | cases z | (unfold Bk.ObX at z; cases z)) : DrawAt W g (L2.upd H p o) := h.upd (ex_upd_out h hp) (nc_none hp) ho
/-- a lambda is made: its table, its code object -/
theorem Step.lam {g : G} (e : Ex Hk H) (h : DrawAt W g H) (hk : ∀ q ∈ W.tb, Hk q.1 = none) (x : LamX.ExtN H H') (t : LamX.Tabs W.tb H') : Step W Hk H Hk H' where
  k := Ex.refl _
  kh := fun b u hb => by
    have e1 := e b u hb
    refine x b u e1 fun ps z => ?_
    subst z
    obtain ⟨q, hq, rfl⟩ := h.tin b ps e1
    rw [hk q hq] at hb
    cases hb
  h := fun b u hb ho => x b u hb fun ps z => by
    subst z
    obtain ⟨q, hq, e1⟩ := h.tin b ps hb
    exact ho.2.2.2 q hq e1
  t := fun b u hb => by
    by_cases z : ∃ ps, u = .tbl ps
    · obtain ⟨ps, rfl⟩ := z
      obtain ⟨q, hq, rfl⟩ := h.tin b ps hb
      obtain ⟨ps', e1, _⟩ := t q hq
      exact ⟨_, e1⟩
    · exact ⟨u, x b u hb fun ps w => z ⟨ps, w⟩⟩
  n := fun b u hb hn => by rw [hb] at hn; cases hn
/-- the world at a call -/
structure Wk (W : Wd) (g : G) (Hk H : Hp) : Prop where
  ex : Ex Hk H
  m : Hk W.am = none
  c : Hk W.ac = none
  gr : Hk W.ag = none
  tk : ∀ q ∈ W.tb, Hk q.1 = none
  dr : DrawAt W g H
  hc : Ex W.hc Hk
  hh : ∀ b o, W.hh b = some o → W.out b → H b = some o
theorem Wk.step {g g' : G} (w : Wk W g Hk H) (s : Step W Hk H Hk' H') (d : DrawAt W g' H') : Wk W g' Hk' H' :=
  ⟨s.kh, s.unk w.m w.dr.m, s.unk w.c w.dr.c, s.unk w.gr w.dr.gr, fun q hq => by
    obtain ⟨ps, e1, _⟩ := w.dr.tab q hq
    exact s.unk (w.tk q hq) e1, d, w.hc.trans s.k, fun b o e ho => s.h b o (w.hh b o e ho) ho⟩
theorem WSim.out {W W' : Wd} (e : WSim W W') {b : Addr} : W'.out b ↔ W.out b := by
  unfold Wd.out
  rw [e.am, e.ac, e.ag, e.tb]
theorem WSim.step {W W' : Wd} (e : WSim W W') : Step W' Hk H Hk' H' ↔ Step W Hk H Hk' H' :=
  ⟨fun s => ⟨s.k, s.kh, fun b o h ho => s.h b o h (e.out.mpr ho), s.t, s.n⟩, fun s => ⟨s.k, s.kh, fun b o h ho => s.h b o h (e.out.mp ho), s.t, s.n⟩⟩
theorem WSim.draw {W W' : Wd} (e : WSim W W') {g : G} : DrawAt W' g H ↔ DrawAt W g H := by
  obtain ⟨e1, e2, e3, _, _, e6, _⟩ := e
  constructor
  · rintro ⟨h1, h2, h3, h4, h5, h6, h7⟩
    unfold mDict at h1
    rw [e1, e2, e3] at h1
    rw [e2] at h2
    rw [e3] at h3
    rw [e2, e3] at h4
    rw [e6] at h6 h7
    exact ⟨h1, h2, h3, h4, h5, h6, h7⟩
  · rintro ⟨h1, h2, h3, h4, h5, h6, h7⟩
    refine ⟨?_, ?_, ?_, ?_, h5, ?_, ?_⟩
    · unfold mDict; rw [e1, e2, e3]; exact h1
    · rw [e2]; exact h2
    · rw [e3]; exact h3
    · rw [e2, e3]; exact h4
    · rw [e6]; exact h6
    · rw [e6]; exact h7
theorem WSim.wk {W W' : Wd} (e : WSim W W') {g : G} (w : Wk W g Hk H) (h : Ex W'.hc Hk) (h2 : ∀ b o, W'.hh b = some o → W'.out b → H b = some o) : Wk W' g Hk H :=
  ⟨w.ex, by rw [e.am]; exact w.m, by rw [e.ac]; exact w.c, by rw [e.ag]; exact w.gr, by rw [e.tb]; exact w.tk, e.draw.mpr w.dr, h, h2⟩
/-- what is wanted of a result -/
def Flds (K : PySem.W.Frag) (W : Wd) (Hk : Hp) : List Str → List D → List (Str × V) → Prop
  | [], [], _ => True
  | n :: ns, d :: ds, fs => (∃ v, fs.lookup n = some v ∧ Rp K W Hk d v) ∧ Flds K W Hk ns ds fs
  | _, _, _ => False
def ExcAt (W : Wd) (c : Nat) (ds : List D) (cls : Value) (dx : Option Addr) (Hk H : Hp) : Prop :=
  ∃ (C : Addr) (ns : List Str) (d : Addr) (fs : List (Str × V)), W.xc.lookup c = some (C, ns) ∧ cls = .ref C ∧ dx = some d ∧ H d = some (.xd fs) ∧ Flds W.k W Hk ns ds fs ∧ Hk d = some (.xd fs)
def Fin {α : Type} (W : Wd) (Ew : XK) (Hk H : Hp) (r : R α) (k : α → G → Hp → Hp → Prop) : Prop := match r with
  | .ok a g => ∀ Hk' H', Step W Hk H Hk' H' → DrawAt W g H' → k a g Hk' H'
  | .ex c ds g => ∀ Hk' H' cls dx, Step W Hk H Hk' H' → DrawAt W g H' → ExcAt W c ds cls dx Hk' H' → Ew cls dx H'
  | .st => False
theorem Fin.mono {α : Type} {Ew : XK} {r : R α} {k k' : α → G → Hp → Hp → Prop} (h : Fin W Ew Hk H r k) (hk : ∀ a g Hk' H', Step W Hk H Hk' H' → DrawAt W g H' → k a g Hk' H' → k' a g Hk' H') : Fin W Ew Hk H r k' := by
  cases r with
  | ok a g => exact fun Hk' H' s d => hk a g Hk' H' s d (h Hk' H' s d)
  | ex c ds g => exact h
  | st => exact h
theorem Fin.step {α : Type} {Ew : XK} {r : R α} {k : α → G → Hp → Hp → Prop} (s : Step W Hk H Hk' H') (h : Fin W Ew Hk H r k) : Fin W Ew Hk' H' r k := by
  cases r with
  | ok a g => exact fun Hk2 H2 s2 d => h Hk2 H2 (s.trans s2) d
  | ex c ds g => exact fun Hk2 H2 cls dx s2 d x => h Hk2 H2 cls dx (s.trans s2) d x
  | st => exact h
theorem Fin.bind {α β : Type} {Ew : XK} {r : R α} {f : α → G → R β} {k : β → G → Hp → Hp → Prop} (h : Fin W Ew Hk H (r.bind f) k) :
    Fin W Ew Hk H r fun a g Hk' H' => Fin W Ew Hk' H' (f a g) k := by
  cases r with
  | ok a g => exact fun Hk' H' s d => Fin.step s h
  | ex c ds g => exact h
  | st => exact h
theorem Fin.lift {α : Type} {Ew : XK} {o : Option α} {g : G} {k : α → G → Hp → Hp → Prop} (h : Fin W Ew Hk H (lift o g) k) :
    ∃ a, o = some a ∧ ∀ Hk' H', Step W Hk H Hk' H' → DrawAt W g H' → k a g Hk' H' := by
  cases o with
  | none => exact h.elim
  | some a => exact ⟨a, rfl, h⟩
inductive GmR (K : PySem.W.Frag) (W : Wd) (Hk H : Hp) : Gm → St → List Addr → Prop where
  | nil : GmR K W Hk H [] [] []
  | no {Γ σ os} (o : Option V) : GmR K W Hk H Γ σ os → GmR K W Hk H (.no :: Γ) (o :: σ) os
  | val {Γ σ os d v} : Rp K W Hk d v → GmR K W Hk H Γ σ os → GmR K W Hk H (.val d :: Γ) (some v :: σ) os
  | own {Γ σ os d p u} : H p = some u → Ob K W Hk d p u → GmR K W Hk H Γ σ os → GmR K W Hk H (.own d :: Γ) (some (.ref p) :: σ) (p :: os)
/-- Hk0, H0: the heaps at the def's entry -/
structure Fr (K : PySem.W.Frag) (W : Wd) (Hk0 H0 : Hp) (Γ : Gm) (g : G) (σ : St) (Hk H : Hp) : Prop where
  wk : Wk W g Hk H
  en : Step W Hk0 H0 Hk H
  sl : ∃ os, GmR K W Hk H Γ σ os ∧ os.Nodup ∧ ∀ p ∈ os, Hk p = none ∧ H0 p = none ∧ W.out p
  hb0 : ∀ b o, W.hh b = some o → W.out b → H0 b = some o
section
variable {Γ : Gm} {σ : St} {os : List Addr} {Hk0 H0 : Hp} {g g' : G}
theorem GmR.len (h : GmR K W Hk H Γ σ os) : σ.length = Γ.length := by
  induction h with
  | nil => rfl
  | no o _ ih => simp [ih]
  | val _ _ ih => simp [ih]
  | own _ _ _ ih => simp [ih]
theorem GmR.val_at (h : GmR K W Hk H Γ σ os) : ∀ {i : Nat} {d : D}, Γ[i]? = some (.val d) → ∃ v, σ[i]? = some (some v) ∧ Rp K W Hk d v := by
  induction h with
  | nil => intro i d e; simp at e
  | no o _ ih =>
    intro i d e
    cases i with
    | zero => simp at e
    | succ i => simpa using ih (i := i) (d := d) (by simpa using e)
  | val r _ ih =>
    intro i d e
    cases i with
    | zero => simp at e; subst e; exact ⟨_, rfl, r⟩
    | succ i => simpa using ih (i := i) (d := d) (by simpa using e)
  | own _ _ _ ih =>
    intro i d e
    cases i with
    | zero => simp at e
    | succ i => simpa using ih (i := i) (d := d) (by simpa using e)
theorem GmR.mono (h : GmR K W Hk H Γ σ os) (e : Ex Hk Hk') (ho : ∀ p ∈ os, ∀ u, H p = some u → H' p = some u) : GmR K W Hk' H' Γ σ os := by
  induction h with
  | nil => exact .nil
  | no o _ ih => exact .no o (ih ho)
  | val r _ ih => exact .val (r.mono e) (ih ho)
  | own h1 h2 _ ih => exact .own (ho _ List.mem_cons_self _ h1) (h2.mono e) (ih fun p hp => ho p (List.mem_cons_of_mem _ hp))
theorem GmR.owned (h : GmR K W Hk H Γ σ os) : ∀ p ∈ os, ∃ u, H p = some u := by
  induction h with
  | nil => intro p hp; cases hp
  | no o _ ih => exact ih
  | val _ _ ih => exact ih
  | own h1 _ _ ih =>
    intro p hp
    rcases List.mem_cons.mp hp with rfl | hp
    · exact ⟨_, h1⟩
    · exact ih p hp
theorem GmR.obj_at (h : GmR K W Hk H Γ σ os) : ∀ {i : Nat} {d : D}, Γ[i]? = some (.own d) → ∃ p u, σ[i]? = some (some (.ref p)) ∧ p ∈ os ∧ H p = some u ∧ Ob K W Hk d p u := by
  induction h with
  | nil => intro i d e; simp at e
  | no o _ ih =>
    intro i d e
    cases i with
    | zero => simp at e
    | succ i => simpa using ih (i := i) (d := d) (by simpa using e)
  | val r _ ih =>
    intro i d e
    cases i with
    | zero => simp at e
    | succ i => simpa using ih (i := i) (d := d) (by simpa using e)
  | own h1 h2 _ ih =>
    intro i d e
    cases i with
    | zero => simp at e; subst e; exact ⟨_, _, rfl, List.mem_cons_self, h1, h2⟩
    | succ i =>
      obtain ⟨p, u, e2, e3, e4, e5⟩ := ih (i := i) (d := d) (by simpa using e)
      exact ⟨p, u, by simpa using e2, List.mem_cons_of_mem _ e3, e4, e5⟩
theorem GmR.own_at (h : GmR K W Hk H Γ σ os) {i : Nat} {ds : List D} (e : Γ[i]? = some (.own (.lst ds))) : ∃ p xs, σ[i]? = some (some (.ref p)) ∧ p ∈ os ∧ H p = some (.lst xs) ∧ RpL K W Hk ds xs := by
  obtain ⟨p, u, e2, e3, e4, xs, rfl, e5⟩ := h.obj_at e
  exact ⟨p, xs, e2, e3, e4, e5⟩
/-- a name gets a value: what it owned is owned no more -/
theorem GmR.set (h : GmR K W Hk H Γ σ os) : ∀ (i : Nat) {d : D} {v : V}, Rp K W Hk d v → ∃ os', GmR K W Hk H (Γ.set i (.val d)) (σ.set i (some v)) os' ∧ os'.Sublist os := by
  induction h with
  | nil => intro i d v r; exact ⟨[], .nil, List.Sublist.refl _⟩
  | no o t ih =>
    intro i d v r
    cases i with
    | zero => exact ⟨_, .val r t, List.Sublist.refl _⟩
    | succ i => obtain ⟨os', t', s⟩ := ih i r; exact ⟨os', .no o t', s⟩
  | val q t ih =>
    intro i d v r
    cases i with
    | zero => exact ⟨_, .val r t, List.Sublist.refl _⟩
    | succ i => obtain ⟨os', t', s⟩ := ih i r; exact ⟨os', .val q t', s⟩
  | own h1 h2 t ih =>
    intro i d v r
    cases i with
    | zero => exact ⟨_, .val r t, List.sublist_cons_self _ _⟩
    | succ i => obtain ⟨os', t', s⟩ := ih i r; exact ⟨_, .own h1 h2 t', s.cons₂ _⟩
/-- a name gets a new list -/
theorem GmR.setOwn (h : GmR K W Hk H Γ σ os) : ∀ (i : Nat) {ds : D} {p : Addr} {xs : HO}, i < Γ.length → H p = some xs → Ob K W Hk ds p xs → p ∉ os → os.Nodup →
    ∃ os', GmR K W Hk H (Γ.set i (.own ds)) (σ.set i (some (.ref p))) os' ∧ os'.Nodup ∧ ∀ q ∈ os', q = p ∨ q ∈ os := by
  induction h with
  | nil => intro i ds p xs hi; simp at hi
  | no o t ih =>
    intro i ds p xs hi hp hr hn nd
    cases i with
    | zero => exact ⟨_, .own hp hr t, List.nodup_cons.mpr ⟨hn, nd⟩, fun q hq => by simpa using hq⟩
    | succ i => obtain ⟨os', t', s⟩ := ih i (by simpa using hi) hp hr hn nd; exact ⟨os', .no o t', s⟩
  | val q t ih =>
    intro i ds p xs hi hp hr hn nd
    cases i with
    | zero => exact ⟨_, .own hp hr t, List.nodup_cons.mpr ⟨hn, nd⟩, fun q hq => by simpa using hq⟩
    | succ i => obtain ⟨os', t', s⟩ := ih i (by simpa using hi) hp hr hn nd; exact ⟨os', .val q t', s⟩
  | own h1 h2 t ih =>
    intro i ds p xs hi hp hr hn nd
    cases i with
    | zero =>
      exact ⟨_, .own hp hr t, List.nodup_cons.mpr ⟨fun z => hn (List.mem_cons_of_mem _ z), (List.nodup_cons.mp nd).2⟩, fun q hq => by
        rcases List.mem_cons.mp hq with z | z
        · exact .inl z
        · exact .inr (List.mem_cons_of_mem _ z)⟩
    | succ i =>
      obtain ⟨os', t', nd', s⟩ := ih i (by simpa using hi) hp hr (fun z => hn (List.mem_cons_of_mem _ z)) (List.nodup_cons.mp nd).2
      refine ⟨_, .own h1 h2 t', List.nodup_cons.mpr ⟨fun z => ?_, nd'⟩, fun q hq => ?_⟩
      · rcases s _ z with z | z
        · exact hn (by rw [← z]; exact List.mem_cons_self)
        · exact (List.nodup_cons.mp nd).1 z
      · rcases List.mem_cons.mp hq with z | z
        · exact .inr (by rw [z]; exact List.mem_cons_self)
        · rcases s q z with z | z
          · exact .inl z
          · exact .inr (List.mem_cons_of_mem _ z)
/-- an owned list is changed -/
theorem GmR.chg (h : GmR K W Hk H Γ σ os) : ∀ {i : Nat} {d : D} {p : Addr} {es : D} {ys : HO}, os.Nodup → Γ[i]? = some (.own d) → σ[i]? = some (some (.ref p)) → Ob K W Hk es p ys →
    GmR K W Hk (upd H p ys) (Γ.set i (.own es)) σ os := by
  induction h with
  | nil => intro i d p es ys nd e; simp at e
  | no o t ih =>
    intro i d p es ys nd e e2 r
    cases i with
    | zero => simp at e
    | succ i => exact .no o (ih nd (by simpa using e) (by simpa using e2) r)
  | val q t ih =>
    intro i d p es ys nd e e2 r
    cases i with
    | zero => simp at e
    | succ i => exact .val q (ih nd (by simpa using e) (by simpa using e2) r)
  | @own Γ σ os ds p0 xs h1 h2 t ih =>
    intro i d p es ys nd e e2 r
    have nd' := List.nodup_cons.mp nd
    cases i with
    | zero =>
      simp at e2
      subst e2
      exact .own upd_same r (t.mono (Ex.refl _) fun q hq xs h => by rw [upd_ne (show q ≠ p0 from fun z => nd'.1 (z ▸ hq))]; exact h)
    | succ i =>
      have hp : p ∈ os := by
        obtain ⟨p', _, q1, q2, _⟩ := t.obj_at (i := i) (d := d) (by simpa using e)
        rw [show σ[i]? = some (some (.ref p)) by simpa using e2] at q1
        cases q1
        exact q2
      exact .own (by rw [upd_ne (show p0 ≠ p from fun z => nd'.1 (z ▸ hp))]; exact h1) h2 (ih nd'.2 (by simpa using e) (by simpa using e2) r)
theorem GmR.wipe (h : GmR K W Hk H Γ σ os) : ∀ (i : Nat), ∃ os', GmR K W Hk H (Γ.set i .no) (σ.set i none) os' ∧ os'.Sublist os := by
  induction h with
  | nil => intro i; exact ⟨[], .nil, List.Sublist.refl _⟩
  | no o t ih =>
    intro i
    cases i with
    | zero => exact ⟨_, .no none t, List.Sublist.refl _⟩
    | succ i => obtain ⟨os', t', s⟩ := ih i; exact ⟨os', .no o t', s⟩
  | val q t ih =>
    intro i
    cases i with
    | zero => exact ⟨_, .no none t, List.Sublist.refl _⟩
    | succ i => obtain ⟨os', t', s⟩ := ih i; exact ⟨os', .val q t', s⟩
  | own h1 h2 t ih =>
    intro i
    cases i with
    | zero => exact ⟨_, .no none t, List.sublist_cons_self _ _⟩
    | succ i => obtain ⟨os', t', s⟩ := ih i; exact ⟨_, .own h1 h2 t', s.cons₂ _⟩
theorem Fr.step (f : Fr K W Hk0 H0 Γ g σ Hk H) (s : Step W Hk H Hk' H') (d : DrawAt W g' H') : Fr K W Hk0 H0 Γ g' σ Hk' H' := by
  obtain ⟨os, h, nd, ho⟩ := f.sl
  refine ⟨f.wk.step s d, f.en.trans s, ⟨os, h.mono s.k fun p hp xs e => s.h p _ e (ho p hp).2.2, nd, fun p hp => ?_⟩, f.hb0⟩
  obtain ⟨xs, e⟩ := h.owned p hp
  exact ⟨s.unk (ho p hp).1 e, (ho p hp).2⟩
theorem Fr.set (f : Fr K W Hk0 H0 Γ g σ Hk H) {i : Nat} {d : D} {v : V} (r : Rp K W Hk d v) : Fr K W Hk0 H0 (Γ.set i (.val d)) g (σ.set i (some v)) Hk H := by
  obtain ⟨os, h, nd, ho⟩ := f.sl
  obtain ⟨os', h', s⟩ := h.set i r
  exact ⟨f.wk, f.en, ⟨os', h', nd.sublist s, fun p hp => ho p (s.subset hp)⟩, f.hb0⟩
theorem Fr.wipe (f : Fr K W Hk0 H0 Γ g σ Hk H) : ∀ (vs : List Nat), Fr K W Hk0 H0 (wipeG Γ vs) g (L2.wipe σ vs) Hk H
  | [] => f
  | v :: vs => by
    obtain ⟨os, h, nd, ho⟩ := (Fr.wipe f vs).sl
    obtain ⟨os', h', s⟩ := h.wipe v
    exact ⟨f.wk, f.en, ⟨os', h', nd.sublist s, fun p hp => ho p (s.subset hp)⟩, f.hb0⟩
/-- a new list, owned -/
theorem Fr.setOwn (f : Fr K W Hk0 H0 Γ g σ Hk H) {i : Nat} {ds : D} {p : Addr} {xs : HO} (hi : i < Γ.length) (hp : H p = some xs) (hk : Hk p = none) (h0 : H0 p = none) (ho : W.out p)
    (r : Ob K W Hk ds p xs) (hn : ∀ (j : Nat) (q : D), Γ[j]? = some (Slot.own q) → σ[j]? ≠ some (some (V.ref p))) : Fr K W Hk0 H0 (Γ.set i (.own ds)) g (σ.set i (some (.ref p))) Hk H := by
  obtain ⟨os, h, nd, hos⟩ := f.sl
  have hpo : p ∉ os := by
    intro hm
    have : ∀ {Γ : Gm} {σ : St} {os : List Addr}, GmR K W Hk H Γ σ os → p ∈ os → ∃ (j : Nat) (q : D), Γ[j]? = some (Slot.own q) ∧ σ[j]? = some (some (V.ref p)) := by
      intro Γ σ os t
      induction t with
      | nil => intro z; cases z
      | no o _ ih => intro z; obtain ⟨j, q, a, b⟩ := ih z; exact ⟨j + 1, q, by simpa using a, by simpa using b⟩
      | val _ _ ih => intro z; obtain ⟨j, q, a, b⟩ := ih z; exact ⟨j + 1, q, by simpa using a, by simpa using b⟩
      | own _ _ _ ih =>
        intro z
        rcases List.mem_cons.mp z with rfl | z
        · exact ⟨0, _, rfl, rfl⟩
        · obtain ⟨j, q, a, b⟩ := ih z; exact ⟨j + 1, q, by simpa using a, by simpa using b⟩
    obtain ⟨j, q, a, b⟩ := this h hm
    exact hn j q a b
  obtain ⟨os', h', nd', s⟩ := h.setOwn i hi hp r hpo nd
  refine ⟨f.wk, f.en, ⟨os', h', nd', fun q hq => ?_⟩, f.hb0⟩
  rcases s q hq with rfl | z
  · exact ⟨hk, h0, ho⟩
  · exact hos q z
theorem Fr.len (f : Fr K W Hk0 H0 Γ g σ Hk H) : σ.length = Γ.length := let ⟨_, h, _⟩ := f.sl; h.len
end
end
end Bk
set_option Elab.async false
set_option linter.all false
set_option maxRecDepth 100000
set_option maxHeartbeats 4000000
namespace L2
open PySem PySem.Spec PyProof.Rows
theorem tuple_mul1 (l : Addr) (items : Array Value) (n : Nat) (dd : Option Addr) (sl : Array (Option Value)) (u : Tok) (hne : (items.isEmpty || (1 : Int) == 1) = true) :
    Meets (Builtin.«tuple.__mul__» ⟨[.ref l, .int 1 u], []⟩) (fun _ R s => s.heap.get? l = some { cls := .type "tuple", dict := dd, data := .seq items n, slots := sl } ∧
      R (.ok (.ret (Value.ref l))) s) :=
  .of_wp fun prog w A R s h => by
    obtain ⟨hp, g, d, tk, os⟩ := s
    obtain ⟨hl, h⟩ := h
    have f1 := AutoSeq1.idx_int
    wp_walk using wpAny_loadPart' hl
    repeat (first
      | (refine wpAny_ite_false (decide_eq_false (by decide)) ?_; wp_walk using wpAny_loadPart' hl)
      | (refine wpAny_ite_true (decide_eq_true (by rw [hne])) ?_; wp_walk using wpAny_loadPart' hl))
    exact ⟨_, rfl, h⟩
def rRepT1 (K : PySem.W.Frag) : R2 := fun x y H Q => ∃ l xs, x = .ref l ∧ y = .int 1 ∧ SqT K H l xs ∧ Q (.ref l) H
section
variable {X : Cx}
theorem op_repT1 : OpR X (binaryOp .Mult) (rRepT1 X.K) := by
  intro pins s σ H x y v u Q I rx ry h
  obtain ⟨l, xs, rfl, rfl, hT, q⟩ := h
  cases rx
  obtain ⟨t, rfl⟩ := ry
  obtain ⟨its, r, ⟨⟨cls, dd, data, sl⟩, ho, hc, n, hd⟩, hs⟩ := I.tuple hT
  simp only at hc hd
  subst hc hd
  have c1 : (its.toArray.isEmpty || (1 : Int) == 1) = true := by simp
  refine wpAny_binaryOp_repeat_ref (T := "tuple") (U := "int") (by decide) ⟨_, ho, rfl⟩ (fun s' => typeIs_int s' 1 t) noFill_tuple_mul F.fills_int_mul F.slot_int_rmul repeat_tuple F.slot_int_index.lookup
    (call_meets F.slot_int_rmul (typeIs_int s 1 t) F.entry_int_rmul (F.args_int_rmul_2 _ _) (int_rmul_tuple 1 t l its.toArray n dd sl)
      ⟨ho, rfl, ⟨_, ho, rfl⟩, call_meets F.slot_tuple_mul ⟨_, ho, rfl⟩ F.entry_tuple_mul (F.args_tuple_mul_2 _ _) (tuple_mul1 l its.toArray n dd sl t c1) ⟨ho, ?_⟩⟩)
  exact ⟨.ref l, H, I, rfl, q⟩
theorem sumt_raw {prog : Program} {w : World} {A : Around} {E : Value → Shared → Prop} {s : Shared} {l : Addr} {its : List Value} {ns : List Int} {Q : Value → Shared → Prop} (hh : A.handled = none) (hl : s.heap.IsTuple l its.toArray) (hi : IntsAre its ns)
    (h : ∀ h' tk t', (∀ b o, s.heap.get? b = some o → h'.get? b = some o) → Q (.int ns.sum t') { s with heap := h', toks := tk }) : wpAny (model prog w) A (call (.builtin "sum") [.ref l]) Q E s := by
  obtain ⟨xs, e⟩ := hi.allInts.items
  have hn : numsOf (intItems xs).toList = ns := by rw [← e]; exact hi.numsOf
  rw [nums_intItems] at hn
  rw [e] at hl
  refine PySem.W.ktm_sumG hh hl fun h' tk t' hk => ?_
  have := h h' tk t' hk
  rw [preSum_eq, List.take_of_length_le (by simp), hn]; exact this
def rSumT (K : PySem.W.Frag) : List V → Hp → VK → Prop := fun vs H Q => ∃ (a : Addr) (ns : List Int), vs = [V.ref a] ∧ SqT K H a (ns.map V.int) ∧ Q (.int ns.sum) H
theorem cr_sumT (hc : X.calm = true) : CallR X (.builtin "sum") (rSumT X.K) := by
  intro pins s σ H vs us Q I r h
  obtain ⟨a, ns, rfl, hs, q⟩ := h
  obtain ⟨its, rv, hl, _⟩ := I.tuple hs
  rw [Vals.ref1 r]
  exact sumt_raw (I.ok.hd hc) hl rv.ints fun h' tk t' hk => ⟨.int _, H, I.kept hk, ⟨_, rfl⟩, q⟩
end
end L2
namespace Bk
open PySem L2
open Evl (Ex ex_l ex_t)
mutual
theorem py_inj : ∀ (a b : D), a.pl = true → b.pl = true → a.py = b.py → a = b
  | .non, b, _, q, e => by cases b <;> simp_all [D.py, D.pl]
  | .bl x, b, _, q, e => by cases b <;> simp_all [D.py, D.pl]
  | .int x, b, _, q, e => by cases b <;> simp_all [D.py, D.pl]
  | .str x, b, _, q, e => by cases b <;> simp_all [D.py, D.pl]
  | .tup xs, b, p, q, e => by
    cases b with
    | tup ys =>
      simp only [D.py, PyData.tuple.injEq] at e
      rw [pys_inj xs ys p q e]
    | _ => simp [D.py] at e
  | .lst xs, b, p, q, e => by
    cases b with
    | lst ys =>
      simp only [D.py, PyData.list.injEq] at e
      rw [pys_inj xs ys p q e]
    | _ => simp [D.py] at e
  | .m, _, p, _, _ => by simp [D.pl] at p
  | .scr _, _, p, _, _ => by simp [D.pl] at p
theorem pys_inj : ∀ (a b : List D), pls a = true → pls b = true → pys a = pys b → a = b
  | [], [], _, _, _ => rfl
  | [], _ :: _, _, _, e => by simp [pys] at e
  | _ :: _, [], _, _, e => by simp [pys] at e
  | x :: xs, y :: ys, p, q, e => by
    simp only [pls, Bool.and_eq_true] at p q
    simp only [pys, List.cons.injEq] at e
    rw [py_inj x y p.1 q.1 e.1, pys_inj xs ys p.2 q.2 e.2]
end
theorem pys_map : ∀ (l : List D), pys l = l.map D.py
  | [] => rfl
  | x :: xs => by rw [pys, pys_map xs]; rfl
theorem pls_mem : ∀ {l : List D}, pls l = true → ∀ x ∈ l, x.pl = true
  | [], _, x, h => by cases h
  | y :: ys, p, x, h => by
    simp only [pls, Bool.and_eq_true] at p
    rcases List.mem_cons.mp h with rfl | h
    · exact p.1
    · exact pls_mem p.2 x h
theorem maxDD_py : ∀ (l : List D) (a : D), (maxDD a l).py = W.maxD a.py (pys l)
  | [], a => rfl
  | b :: l, a => by
    show (maxDD (if W.dataLt a.py b.py then b else a) l).py = W.maxD (if W.dataLt a.py b.py then b.py else a.py) (pys l)
    rw [maxDD_py l]
    split <;> rfl
theorem minDD_py : ∀ (l : List D) (a : D), (minDD a l).py = W.minD a.py (pys l)
  | [], a => rfl
  | b :: l, a => by
    show (minDD (if W.dataLt b.py a.py then b else a) l).py = W.minD (if W.dataLt b.py a.py then b.py else a.py) (pys l)
    rw [minDD_py l]
    split <;> rfl
theorem maxDD_mem : ∀ (l : List D) (a : D), maxDD a l ∈ a :: l
  | [], a => List.mem_cons_self
  | b :: l, a => by
    have ih := maxDD_mem l (if W.dataLt a.py b.py then b else a)
    rw [show maxDD a (b :: l) = maxDD (if W.dataLt a.py b.py then b else a) l from rfl]
    rcases List.mem_cons.mp ih with h | h
    · rw [h]; split <;> simp
    · exact List.mem_cons_of_mem _ (List.mem_cons_of_mem _ h)
theorem minDD_mem : ∀ (l : List D) (a : D), minDD a l ∈ a :: l
  | [], a => List.mem_cons_self
  | b :: l, a => by
    have ih := minDD_mem l (if W.dataLt b.py a.py then b else a)
    rw [show minDD a (b :: l) = minDD (if W.dataLt b.py a.py then b else a) l from rfl]
    rcases List.mem_cons.mp ih with h | h
    · rw [h]; split <;> simp
    · exact List.mem_cons_of_mem _ (List.mem_cons_of_mem _ h)
mutual
theorem plain_py : ∀ (d : D), d.pl = true → d.py.plain = true
  | .non, _ => rfl
  | .bl _, _ => rfl
  | .int _, _ => rfl
  | .str _, _ => rfl
  | .tup xs, p => by simp only [D.py, PyData.plain]; exact plains_py xs p
  | .lst xs, p => by simp only [D.py, PyData.plain]; exact plains_py xs p
  | .m, p => by simp [D.pl] at p
  | .scr _, p => by simp [D.pl] at p
theorem plains_py : ∀ (d : List D), pls d = true → PyData.plainAll (pys d) = true
  | [], _ => rfl
  | x :: xs, p => by
    simp only [pls, Bool.and_eq_true] at p
    simp only [pys, PyData.plainAll, Bool.and_eq_true]
    exact ⟨plain_py x p.1, plains_py xs p.2⟩
end
theorem alkD_ok {xs : List D} (h : alkD xs = true) : pls xs = true ∧ W.AlikeAll (pys xs) ∧ PyData.depthAll (pys xs) ≤ 60 := by
  simp only [alkD, Bool.and_eq_true, decide_eq_true_eq, List.all_eq_true] at h
  obtain ⟨⟨⟨h1, h2⟩, h3⟩, h4⟩ := h
  refine ⟨h1, ⟨fun x hx y hy => ?_, fun x hx => ?_⟩, h4⟩
  · rw [pys_map] at hx hy
    obtain ⟨a, ha, rfl⟩ := List.mem_map.mp hx
    obtain ⟨b, hb, rfl⟩ := List.mem_map.mp hy
    exact h2 a ha b hb
  · rw [pys_map] at hx
    obtain ⟨a, ha, rfl⟩ := List.mem_map.mp hx
    have h5 := h3 a ha
    have h6 := pls_mem h1 a ha
    cases a <;> simp_all [D.py, D.pl]
section
variable {X : Cx} {W : Wd}
/-- an item of a list that reads as the one that is due, is it -/
theorem item_is {pins : List (Addr × Obj)} {s' : Shared} {σ : St} {Hk H : Hp} {xs : List D} {ys : List V} {its : List Value} {i : Nat} {v : Value} {m : D} {bs : List Addr} (I : L2.Inv X pins σ H s') (ex : Ex Hk H) (h : RpL X.K W Hk xs ys) (hp : pls xs = true) (rv : Vals ys its)
    (hi : its.toArray[i]? = some v) (hm : m ∈ xs) (r : Reads s'.heap v m.py bs) : ∃ y, Rp X.K W Hk m y ∧ RelV y v := by
  have hv : its[i]? = some v := by simpa using hi
  have hlt : i < ys.length := by
    rw [rv.length]
    exact (List.getElem?_eq_some_iff.mp hv).1
  obtain ⟨y, hy⟩ : ∃ y, ys[i]? = some y := ⟨ys[i], List.getElem?_eq_getElem hlt⟩
  obtain ⟨v', hv', ry⟩ := rv.get hy
  rw [hv] at hv'
  cases hv'
  obtain ⟨d, hd, rd⟩ := h.at hy
  have hd' : d ∈ xs := List.mem_of_getElem? hd
  obtain ⟨as, r'⟩ := Dp.reads I d.py y v ((rd.mono ex).dp (pls_mem hp d hd')) ry
  have e : d.py = m.py := by
    exact PySem.SeqAt.plain_unique d.py m.py v as bs (plain_py d (pls_mem hp d hd')) r' r
  rw [py_inj d m (pls_mem hp d hd') (pls_mem hp m hm) e] at rd
  exact ⟨y, rd, ry⟩
theorem call_maxd (hc : X.calm = true) (hu : X.A.units + 66 < cLine) {pins : List (Addr × Obj)} {s : Shared} {σ : St} {Hk H : Hp} {x : D} {xs : List D} {ys : List V} {a : Addr} {Q : VK} (I : L2.Inv X pins σ H s) (ex : Ex Hk H) (hs : SqL X.K H a ys) (h : RpL X.K W Hk (x :: xs) ys)
    (hk : alkD (x :: xs) = true) (q : ∀ v, Rp X.K W Hk (maxDD x xs) v → Q v H) : wpAny (model X.prog X.w) X.A (call (.builtin "max") [.ref a]) (EP X pins σ Q) X.xe s := by
  obtain ⟨hp, ha, hd⟩ := alkD_ok hk
  obtain ⟨its, rv, hl, _⟩ := I.list hs
  obtain ⟨as, ra⟩ := Dp.readsAll I _ _ _ ((h.mono ex).dps hp) rv
  refine PySem.W.max_list_data (I.ok.hd hc) hl.isList (show ReadsAll s.heap its (pys (x :: xs)) as from ra) ha (show X.A.units + 1 + PyData.depthAll (pys (x :: xs)) < cLine by omega) fun i v h' tk bs hi r hk' => ?_
  have I' := I.kept (t' := tk) hk'
  obtain ⟨y, r1, r2⟩ := item_is (s' := { s with heap := h', toks := tk }) I' ex h hp rv hi (maxDD_mem xs x) (by rw [maxDD_py]; exact r)
  exact ⟨y, H, I', r2, q y r1⟩
theorem call_mind (hc : X.calm = true) (hu : X.A.units + 66 < cLine) {pins : List (Addr × Obj)} {s : Shared} {σ : St} {Hk H : Hp} {x : D} {xs : List D} {ys : List V} {a : Addr} {Q : VK} (I : L2.Inv X pins σ H s) (ex : Ex Hk H) (hs : SqL X.K H a ys) (h : RpL X.K W Hk (x :: xs) ys)
    (hk : alkD (x :: xs) = true) (q : ∀ v, Rp X.K W Hk (minDD x xs) v → Q v H) : wpAny (model X.prog X.w) X.A (call (.builtin "min") [.ref a]) (EP X pins σ Q) X.xe s := by
  obtain ⟨hp, ha, hd⟩ := alkD_ok hk
  obtain ⟨its, rv, hl, _⟩ := I.list hs
  obtain ⟨as, ra⟩ := Dp.readsAll I _ _ _ ((h.mono ex).dps hp) rv
  refine PySem.W.min_list_data (I.ok.hd hc) hl.isList (show ReadsAll s.heap its (pys (x :: xs)) as from ra) ha (show X.A.units + 1 + PyData.depthAll (pys (x :: xs)) < cLine by omega) fun i v h' tk bs hi r hk' => ?_
  have I' := I.kept (t' := tk) hk'
  obtain ⟨y, r1, r2⟩ := item_is (s' := { s with heap := h', toks := tk }) I' ex h hp rv hi (minDD_mem xs x) (by rw [minDD_py]; exact r)
  exact ⟨y, H, I', r2, q y r1⟩
end
end Bk
set_option Elab.async false
set_option linter.all false
set_option maxRecDepth 100000
set_option maxHeartbeats 4000000
namespace Pk
open PySem Bk
/-- data that == can be asked of -/
structure Shp (h : Nat) (d : D) : Prop where
  pl : d.pl = true
  lay : d.py.canLay0 = true
  dp : d.py.depth ≤ h
theorem Shp.int (i : Int) (h : Nat) : Shp h (.int i) := ⟨rfl, rfl, Nat.zero_le _⟩
theorem Shp.all {h : Nat} : ∀ {ds : List D}, (∀ d ∈ ds, Shp h d) → pls ds = true ∧ PyData.canLayAll0 (pys ds) = true ∧ PyData.depthAll (pys ds) ≤ h
  | [], _ => ⟨rfl, rfl, Nat.zero_le _⟩
  | d :: ds, H => by
    obtain ⟨a, b, c⟩ := Shp.all (fun x hx => H x (List.mem_cons_of_mem _ hx))
    have hd := H d List.mem_cons_self
    refine ⟨by simp [pls, a, hd.pl], by simp [pys, PyData.canLayAll0, b, hd.lay], ?_⟩
    rw [pys, PyData.depthAll]
    exact Nat.max_le.mpr ⟨hd.dp, c⟩
theorem Shp.tup {h : Nat} {ds : List D} (H : ∀ d ∈ ds, Shp h d) : Shp (h + 1) (.tup ds) := by
  obtain ⟨a, b, c⟩ := Shp.all H
  refine ⟨a, by simpa [D.py, PyData.canLay0] using b, ?_⟩
  rw [D.py, PyData.depth]
  omega
theorem Shp.sh {h : Nat} {d : D} (s : Shp h d) (hh : h ≤ 64) : SeqAt.shaped d.py = true := by
  have := s.dp
  simp only [SeqAt.shaped, s.lay, Bool.true_and, decide_eq_true_eq]
  omega
theorem Shp.eq {h h' : Nat} {xs ys : List D} (s : Shp h (.tup xs)) (s' : Shp h' (.tup ys)) (hh : h ≤ 64) (hh' : h' ≤ 64) : cmpD .eq (.tup xs) (.tup ys) = some (PyData.eqv (D.tup xs).py (D.tup ys).py) := by
  simp only [cmpD, s.pl, s'.pl, s.sh hh, s'.sh hh', Bool.and_self, if_true]
theorem Shp.ne {h h' : Nat} {xs ys : List D} (s : Shp h (.tup xs)) (s' : Shp h' (.tup ys)) (hh : h ≤ 64) (hh' : h' ≤ 64) : cmpD .ne (.tup xs) (.tup ys) = some (!PyData.eqv (D.tup xs).py (D.tup ys).py) := by
  simp only [cmpD, s.pl, s'.pl, s.sh hh, s'.sh hh', Bool.and_self, if_true]
theorem Shp.nil : Shp 1 (.tup []) := Shp.tup (fun d hd => by cases hd)
theorem Shp.str {x : Str} (h : PyData.strOk x = true) (n : Nat) : Shp n (.str x) := ⟨rfl, by simpa [D.py, PyData.canLay0] using h, Nat.zero_le _⟩
theorem Shp.lst {h : Nat} {ds : List D} (H : ∀ d ∈ ds, Shp h d) : Shp (h + 1) (.lst ds) := by
  obtain ⟨a, b, c⟩ := Shp.all H
  refine ⟨a, by simpa [D.py, PyData.canLay0] using b, ?_⟩
  rw [D.py, PyData.depth]
  omega
theorem Shp.mono {h h' : Nat} {d : D} (s : Shp h d) (hh : h ≤ h') : Shp h' d := ⟨s.pl, s.lay, Nat.le_trans s.dp hh⟩
theorem Shp.self {h : Nat} {xs : List D} (s : Shp h (.tup xs)) (hh : h ≤ 64) : cmpD .ne (.tup xs) (.tup xs) = some false := by
  rw [s.ne s hh hh, SeqAt.eqv_refl_plain _ (Bk.plain_py _ s.pl)]
  rfl
end Pk
set_option Elab.async false
set_option linter.all false
set_option maxRecDepth 100000
set_option maxHeartbeats 4000000
namespace Pk
open PySem Bk
def flQ (N : Gm → G → Prop) (V : D → G → Prop) : R Fl → Prop
  | .ok (.nx Γ) g => N Γ g
  | .ok (.rt d) g => V d g
  | _ => False
@[simp] theorem flQ_nx (N : Gm → G → Prop) (V : D → G → Prop) (Γ : Gm) (g : G) : flQ N V (.ok (.nx Γ) g) = N Γ g := rfl
@[simp] theorem flQ_rt (N : Gm → G → Prop) (V : D → G → Prop) (d : D) (g : G) : flQ N V (.ok (.rt d) g) = V d g := rfl
theorem flQ_mono {N N' : Gm → G → Prop} {V V' : D → G → Prop} {r : R Fl} (h : flQ N V r) (hN : ∀ Γ g, N Γ g → N' Γ g) (hV : ∀ d g, V d g → V' d g) : flQ N' V' r := by
  cases r with
  | ok a g => cases a with
    | nx Γ => exact hN _ _ h
    | rt d => exact hV _ _ h
  | ex _ _ _ => exact h
  | st => exact h
section
variable (cs : List (Nat × D)) (call : Calls)
def wpB (b : B) (Γ : Gm) (g : G) (N : Gm → G → Prop) (V : D → G → Prop) : Prop := flQ N V (evB cs call b Γ g)
def wpS (s : S) (Γ : Gm) (g : G) (N : Gm → G → Prop) (V : D → G → Prop) : Prop := flQ N V (evS cs call s Γ g)
end
/-- what more may be known does no harm -/
def UpN (N : Gm → G → Prop) : Prop := ∀ Γ Δ g, Les Γ Δ → N Γ g → N Δ g
theorem UpN.sub (C : Gm) (P : G → Prop) : UpN fun Δ g => Les C Δ ∧ P g := fun _ _ _ s h => ⟨h.1.trans s, h.2⟩
section
variable {cs : List (Nat × D)} {call : Calls} [CM call] {s : S} {b : B} {Γ Δ : Gm} {g : G} {N N' : Gm → G → Prop} {V V' : D → G → Prop}
theorem flQ_sub {r r' : R Fl} (hr : Rel FlR r r') (hN : UpN N) (w : flQ N V r) : flQ N V r' := by
  cases r with
  | st => exact w.elim
  | ex _ _ _ => exact w.elim
  | ok a g =>
    cases r' with
    | st => exact hr.elim
    | ex _ _ _ => exact hr.elim
    | ok a' g' =>
      obtain ⟨h, rfl⟩ := hr
      cases a with
      | nx Γ => cases a' with
        | nx Γ' => exact hN _ _ _ h w
        | rt _ => exact h.elim
      | rt d => cases a' with
        | nx _ => exact h.elim
        | rt d' =>
          have h : d = d' := h
          subst h
          exact w
theorem wpB_weak (hN : UpN N) (h : Les Γ Δ) (w : wpB cs call b Γ g N V) : wpB cs call b Δ g N V := flQ_sub (evB_sub cs CM.c b g h) hN w
theorem wpB_cons (h : wpS cs call s Γ g (fun Γ' g' => wpB cs call b Γ' g' N V) V) : wpB cs call (.cons s b) Γ g N V := by
  unfold wpB
  rw [b_cons]
  unfold wpS at h
  cases e : evS cs call s Γ g with
  | st => rw [e] at h; exact h.elim
  | ex _ _ _ => rw [e] at h; exact h.elim
  | ok a g1 =>
    rw [e] at h
    cases a with
    | nx Γ1 => exact h
    | rt d => exact h
theorem wpB_to {r : R Fl} (e : evS cs call s Γ g = r) (h : flQ (fun Γ' g' => wpB cs call b Γ' g' N V) V r) : wpB cs call (.cons s b) Γ g N V := wpB_cons (by unfold wpS; rw [e]; exact h)
theorem flQ_nxI {Γ1 : Gm} {g1 : G} (h : N Γ1 g1) : flQ N V (.ok (.nx Γ1) g1) := h
theorem flQ_rtI {d : D} {g1 : G} (h : V d g1) : flQ N V (.ok (.rt d) g1) := h
theorem wpB_nil (h : N Γ g) : wpB cs call .nil Γ g N V := by unfold wpB; rw [b_nil]; exact h
theorem wpB_mono (w : wpB cs call b Γ g N V) (hN : ∀ Γ g, N Γ g → N' Γ g) (hV : ∀ d g, V d g → V' d g) : wpB cs call b Γ g N' V' := flQ_mono w hN hV
theorem forR_wp {f : D → Gm → G → R Fl} (C : Nat → Gm) (P : Nat → G → Prop) (hf : ∀ x Γ Δ g, Les Γ Δ → Rel FlR (f x Γ g) (f x Δ g)) : ∀ (xs : List D) (k : Nat) (Γ : Gm) (g : G), Les (C k) Γ → P k g →
    (∀ i x g, xs[i]? = some x → P (k + i) g → flQ (fun Δ g' => Les (C (k + i + 1)) Δ ∧ P (k + i + 1) g') V (f x (C (k + i)) g)) → (∀ Δ g, Les (C (k + xs.length)) Δ → P (k + xs.length) g → N Δ g) → flQ N V (forR f xs Γ g)
  | [], k, Γ, g, h, p, _, hN => hN Γ g h p
  | x :: xs, k, Γ, g, h, p, H, hN => by
    have w := flQ_sub (hf x _ _ g h) (UpN.sub _ _) (H 0 x g rfl p)
    simp only [forR]
    cases e : f x Γ g with
    | st => rw [e] at w; exact w.elim
    | ex _ _ _ => rw [e] at w; exact w.elim
    | ok a g1 =>
      rw [e] at w
      cases a with
      | rt d => exact w
      | nx Γ1 =>
        obtain ⟨w1, w2⟩ := w
        refine forR_wp C P hf xs (k + 1) Γ1 g1 w1 w2 (fun i y g hy hp => ?_) (fun Δ g hs hp => hN Δ g ?_ ?_)
        · have := H (i + 1) y g (by simpa using hy) (by rwa [show k + (i + 1) = k + 1 + i by omega])
          rwa [show k + (i + 1) + 1 = k + 1 + i + 1 by omega, show k + (i + 1) = k + 1 + i by omega] at this
        · rwa [show k + (x :: xs).length = k + 1 + xs.length by simp; omega]
        · rwa [show k + (x :: xs).length = k + 1 + xs.length by simp; omega]
/-- a loop: C i is what is known ahead of turn i -/
theorem wpS_for {t : T} {it : I} {bd : B} {xs : List D} (C : Nat → Gm) (P : Nat → G → Prop) (hi : evI cs call it Γ g = .ok xs g) (h0 : Les (C 0) Γ) (p0 : P 0 g)
    (H : ∀ i x g, xs[i]? = some x → P i g → ∃ Γ', setT t x (C i) = some Γ' ∧ wpB cs call bd Γ' g (fun Δ g' => Les (C (i + 1)) Δ ∧ P (i + 1) g') V) (hU : UpN N) (hN : ∀ g, P xs.length g → N (C xs.length) g) : wpS cs call (.for_ t it bd) Γ g N V := by
  unfold wpS
  rw [s_for', hi, r_ok]
  refine forR_wp C P (fun x Γ Δ g h => Rel.bind ((setT_sub t x h).lift g) fun Γ' Δ' g h' => evB_sub cs CM.c bd g h') xs 0 Γ g h0 p0 (fun i x g hx hp => ?_) fun Δ g hs hp => hU _ _ _ hs ?_
  · rw [Nat.zero_add] at hp ⊢
    obtain ⟨Γ', e, w⟩ := H i x g hx hp
    rw [e, l_some, r_ok]
    exact w
  · rw [Nat.zero_add] at hp ⊢
    exact hN g hp
theorem UpN.wpB (hU : UpN N) : UpN fun Γ g => wpB cs call b Γ g N V := fun _ _ _ s w => wpB_weak hU s w
def wpR (r : R D) (Q : D → G → Prop) : Prop := ∃ d g', r = .ok d g' ∧ Q d g'
theorem wpR.mono {r : R D} {Q Q' : D → G → Prop} (h : wpR r Q) (k : ∀ d g, Q d g → Q' d g) : wpR r Q' := let ⟨d, g', e, q⟩ := h; ⟨d, g', e, k _ _ q⟩
theorem wpB_inv (w : wpB cs call b Γ g N V) : (∃ Γ' g', evB cs call b Γ g = .ok (.nx Γ') g' ∧ N Γ' g') ∨ ∃ d g', evB cs call b Γ g = .ok (.rt d) g' ∧ V d g' := by
  unfold wpB at w
  cases e : evB cs call b Γ g with
  | st => rw [e] at w; exact w.elim
  | ex _ _ _ => rw [e] at w; exact w.elim
  | ok a g1 =>
    rw [e] at w
    cases a with
    | nx Γ => exact .inl ⟨_, _, rfl, w⟩
    | rt d => exact .inr ⟨_, _, rfl, w⟩
theorem wpB_false (w : wpB cs call b Γ g (fun _ _ => False) V) : ∃ d g', evB cs call b Γ g = .ok (.rt d) g' ∧ V d g' := by
  rcases wpB_inv w with ⟨_, _, _, h⟩ | h
  · exact h.elim
  · exact h
end
end Pk
set_option Elab.async false
set_option linter.all false
set_option maxRecDepth 100000
set_option maxHeartbeats 4000000
namespace Pk
open PySem Bk
structure Sh (n h : Nat) (d : D) : Prop where
  sw : d.shw = true
  sh : d.pyd.showable = true
  dp : d.pyd.depth ≤ h
  ln : d.pyd.shown.length ≤ n
theorem Sh.mono {n h n' h' : Nat} {d : D} (s : Sh n h d) (hn : n ≤ n') (hh : h ≤ h') : Sh n' h' d := ⟨s.sw, s.sh, Nat.le_trans s.dp hh, Nat.le_trans s.ln hn⟩
mutual
theorem pl_shw : ∀ d : D, d.pl = true → d.shw = true ∧ d.pyd = d.py
  | .non, _ => ⟨rfl, by simp [D.pyd, D.py]⟩
  | .bl _, _ => ⟨rfl, by simp [D.pyd, D.py]⟩
  | .int _, _ => ⟨rfl, by simp [D.pyd, D.py]⟩
  | .str _, _ => ⟨rfl, by simp [D.pyd, D.py]⟩
  | .tup xs, h => by
    obtain ⟨a, b⟩ := pls_shw xs (by simpa [D.pl] using h)
    exact ⟨by simpa [D.shw] using a, by simp [D.pyd, D.py, b]⟩
  | .lst xs, h => by
    obtain ⟨a, b⟩ := pls_shw xs (by simpa [D.pl] using h)
    exact ⟨by simpa [D.shw] using a, by simp [D.pyd, D.py, b]⟩
  | .m, h => by cases h
  | .scr _, h => by cases h
  | .dct _ _, h => by cases h
  | .fn, h => by cases h
  | .exc _ _, h => by cases h
  | .dks _ _, h => by cases h
theorem pls_shw : ∀ ds : List D, pls ds = true → shws ds = true ∧ pyds ds = pys ds
  | [], _ => ⟨rfl, by simp [pyds, pys]⟩
  | d :: ds, h => by
    simp only [pls, Bool.and_eq_true] at h
    obtain ⟨a, b⟩ := pl_shw d h.1
    obtain ⟨a', b'⟩ := pls_shw ds h.2
    exact ⟨by simp [shws, a, a'], by simp [pyds, pys, b, b']⟩
end
theorem Sz.s {n h : Nat} {d : D} (s : Sz n h d) : Sh n h d := by
  obtain ⟨a, b⟩ := pl_shw d s.pl
  exact ⟨a, by rw [b]; exact s.sh, by rw [b]; exact s.dp, by rw [b]; exact s.ln⟩
theorem Sh.all {n h : Nat} : ∀ {ds : List D}, (∀ d ∈ ds, Sh n h d) → shws ds = true ∧ PyData.showableAll (pyds ds) = true ∧ PyData.depthAll (pyds ds) ≤ h ∧ ((PyData.shownAll (pyds ds)).map (·.length)).sum ≤ n * ds.length ∧ (PyData.shownAll (pyds ds)).length = ds.length
  | [], _ => by simp [shws, pyds, PyData.showableAll, PyData.depthAll, PyData.shownAll]
  | d :: ds, H => by
    have h1 := H d (by simp)
    obtain ⟨i1, i2, i3, i4, i5⟩ := Sh.all (ds := ds) fun x hx => H x (by simp [hx])
    refine ⟨by simp [shws, h1.sw, i1], by simp [pyds, PyData.showableAll, h1.sh, i2], ?_, ?_, ?_⟩
    · simp only [pyds, PyData.depthAll]; exact Nat.max_le.mpr ⟨h1.dp, i3⟩
    · simp only [pyds, PyData.shownAll, List.map_cons, List.sum_cons, List.length_cons, Nat.mul_add, Nat.mul_one]
      have := h1.ln
      omega
    · simp [pyds, PyData.shownAll, i5]
theorem Sh.tup {n h : Nat} {ds : List D} (H : ∀ d ∈ ds, Sh n h d) : Sh ((n + 2) * ds.length + 3) (h + 1) (.tup ds) := by
  obtain ⟨i1, i2, i3, i4, i5⟩ := Sh.all H
  refine ⟨by simp [D.shw, i1], by simp [D.pyd, PyData.showable, i2], by simp [D.pyd, PyData.depth]; exact i3, ?_⟩
  simp only [D.pyd, PyData.shown]
  have := tupleText_len_le (PyData.shownAll (pyds ds))
  rw [i5] at this
  rw [Nat.add_mul]
  omega
theorem Sh.lst {n h : Nat} {ds : List D} (H : ∀ d ∈ ds, Sh n h d) : Sh ((n + 2) * ds.length + 3) (h + 1) (.lst ds) := by
  obtain ⟨i1, i2, i3, i4, i5⟩ := Sh.all H
  refine ⟨by simp [D.shw, i1], by simp [D.pyd, PyData.showable, i2], by simp [D.pyd, PyData.depth]; exact i3, ?_⟩
  simp only [D.pyd, PyData.shown]
  have := listText_len_le (PyData.shownAll (pyds ds))
  rw [i5] at this
  rw [Nat.add_mul]
  omega
theorem repr_sh {n : Nat} {d : D} (s : Sh n 64 d) (hn : n ≤ 1000000) : ∃ x, biD .repr [d] = some (.str x) := by
  show ∃ x, (if d.pl && d.py.showable && decide (d.py.depth ≤ 64) && decide (d.py.shown.length ≤ 1000000) then some (D.str d.py.shown) else if d.shw && d.pyd.showable && decide (d.pyd.depth ≤ 64) && decide (d.pyd.shown.length ≤ 1000000) then some (.str d.pyd.shown) else none) = some (.str x)
  split
  · exact ⟨_, rfl⟩
  · rw [s.sw, s.sh, decide_eq_true s.dp, decide_eq_true (Nat.le_trans s.ln hn)]
    exact ⟨_, rfl⟩
theorem like_sh {p : Pr} {f : Nat} (hf : p.ds.lookup f = some ⟨2, 2, likeB⟩) (k : Nat) {d : D} {n : Nat} (g : G) (s : Sh n 64 d) (hn : n ≤ 1000000) : den p (k + 1) f [d, d] g = .ok (.bl true) g := by
  obtain ⟨x, e⟩ := repr_sh s hn
  rw [den_f hf rfl (by decide)]
  simp [likeB, e, startG, cmpD]
theorem ix_in {xs : List D} {v : Int} (h0 : 0 ≤ v) (h1 : v < xs.length) : ∃ q, idxD (.lst xs) (.int v) = some q ∧ q ∈ xs := by
  have hl : v.toNat < xs.length := by omega
  refine ⟨xs[v.toNat], ?_, List.getElem_mem hl⟩
  show atD xs v = _
  unfold atD
  rw [if_pos h0, List.getElem?_eq_getElem hl]
end Pk
set_option Elab.async false
set_option linter.all false
namespace Bk
open PySem
def n_law : List Str := ["_law_script", "_law_m", "_law_turn", "_law_things", "_law_by_place", "_law_by_names", "_law_some", "_law_q", "_law_z", "_law_k", "_law_told_so"]
def b_law : B := (.cons (.for_ (.var 2) (.rng1 (.bin .add (.cst (.int 3)) (.bi .min2 (.cons (.cst (.int 6)) (.cons (.bi .len (.cons (.var 0) .nil)) .nil))))) (.cons (.asg (.var 3) (.lst (.cons (.cst .non) (.cons (.cst (.int 0)) (.cons (.cst (.bl true)) (.cons (.draw (.var 1) (.bin .pow (.cst (.int 10)) (.cst (.int 6)))) (.cons (.cst (.str "")) (.cons (.cst (.str "fares")) (.cons (.tup .nil) (.cons (.tup (.cons (.cst (.int 1)) (.cons (.cst (.str "a")) .nil))) (.cons (.lst (.cons (.cst (.int 1)) (.cons (.lst (.cons (.cst (.int 2)) .nil)) .nil))) (.cons .dnil (.cons (.dkd ["a"] (.cons (.cst (.int 1)) .nil)) .nil))))))))))))) (.cons (.par [(7, false), (8, false)] (.cons (.idx (.var 3) (.draw (.var 1) (.cst (.int 11)))) (.cons (.idx (.var 3) (.draw (.var 1) (.cst (.int 11)))) .nil))) (.cons (.asg (.var 4) (.lst (.cons (.mkX 3 (.cons (.var 7) .nil)) (.cons (.mkX 4 (.cons (.var 7) .nil)) (.cons (.mkX 5 (.cons (.var 7) .nil)) (.cons (.mkX 6 (.cons (.var 7) .nil)) (.cons (.mkX 8 (.cons (.var 7) (.cons (.var 8) .nil))) .nil))))))) (.cons (.own 5 (.lst (.cons (.mkXk 3 [.at 0] (.cons (.var 7) .nil)) (.cons (.mkXk 4 [.at 0] (.cons (.var 7) .nil)) (.cons (.mkXk 5 [.at 0] (.cons (.var 7) .nil)) (.cons (.mkXk 6 [.at 0] (.cons (.var 7) .nil)) .nil)))))) (.cons (.app 5 (.mkXk 8 [.at 1, .at 0] (.cons (.var 8) (.cons (.var 7) .nil)))) (.cons (.frz 5) (.cons (.for_ (.var 6) (.seq (.tup (.cons (.var 4) (.cons (.var 5) .nil)))) (.cons (.for_ (.var 9) (.rng1 (.cst (.int 5))) (.cons (.ife (.cmp .ne (.call 388 (.cons (.idx (.var 6) (.var 9)) .nil)) (.lst (.cons (.idx (.lst (.cons (.cst (.str "number")) (.cons (.cst (.str "plan")) (.cons (.cst (.str "share")) (.cons (.cst (.str "log")) (.cons (.cst (.str "text")) .nil)))))) (.var 9)) (.cons (.cst (.str "own")) (.cons (.cst (.str "sort")) .nil))))) (.cons (.ret (.cst (.bl false))) .nil) .nil) .nil)) (.cons (.asg (.var 10) (.lst (.cons (.fld (.idx (.var 6) (.cst (.int 0))) "value" [(3, 0), (5, 0), (10, 0), (11, 0), (12, 0), (13, 0)]) (.cons (.fld (.idx (.var 6) (.cst (.int 1))) "part" [(0, 0), (4, 0)]) (.cons (.fld (.idx (.var 6) (.cst (.int 2))) "value" [(3, 0), (5, 0), (10, 0), (11, 0), (12, 0), (13, 0)]) (.cons (.fld (.idx (.var 6) (.cst (.int 3))) "place" [(2, 0), (6, 0)]) (.cons (.fld (.idx (.var 6) (.cst (.int 4))) "line" [(8, 0)]) .nil))))))) (.cons (.ife (.not (.call 17 (.cons (.bin .add (.var 10) (.lst (.cons (.fld (.idx (.var 6) (.cst (.int 4))) "word" [(7, 0), (8, 1)]) .nil))) (.cons (.bin .add (.bin .mul (.lst (.cons (.var 7) .nil)) (.cst (.int 5))) (.lst (.cons (.var 8) .nil))) .nil)))) (.cons (.ret (.cst (.bl false))) .nil) .nil) .nil)))) (.cons (.ife (.or (.cmp .ne (.call 388 (.cons (.mkX 9 (.cons (.var 7) .nil)) .nil)) (.lst (.cons (.cst (.str "great")) .nil))) (.not (.call 17 (.cons (.fld (.mkX 9 (.cons (.var 7) .nil)) "most" [(9, 0)]) (.cons (.var 7) .nil))))) (.cons (.ret (.cst (.bl false))) .nil) .nil) .nil))))))))) (.cons (.ret (.cst (.bl true))) .nil))
def p : Pr := ⟨[(0, (.int 1000000000)), (1, (.int 1000000000000000000000000000000)), (2, (.int 4)), (3, (.int 99)), (7, (.int 3)), (8, (.int 7)), (6, (.int 400)), (5, (.int 6)), (9, (.str "kept")), (10, (.str "nested")), (11, (.str "apart")), (12, (.str "any")), (13, (.str "all")), (14, (.int 99)), (15, (.str "oust")), (16, (.str "taken")), (17, (.str "ousted")), (18, (.str "refused")), (20, (.int 20000)), (19, (.str "rising")), (21, (.str "regret")), (22, (.str "empty")), (23, (.str "paid")), (24, (.str "sold")), (27, (.int 12))], [f__law_like, f__law_classes, f_limits_of, f_need_plan, f_need_room, f_limits_in, f_need_fares, f_is_whole, f_are_rising, f_are_fares, f_regret_of, f_regrets_at, f_gains_by, f_share_of, f_lesser_share, f_fraction, f_common, f_long_share, f_long_in, f__law_plan, f__law_fares, f__law_of, f_regret, f_got, f_hindsight, f_went, f_worth_of, f_seen, f_need_rule, f_went_of, f_need_calls, f_need_hall, f_seen_of, f_is_word, f_parts_of, f_none_of, f_step_of, f_seen_with, f_is_plain, f_cheapest_sold, f_lets_of, f_with_more, f_are_limits, f_lets_plain, f_share, f__law_sum, f__law_lowest, f_states, f_need_all, f_net_of, f_need_kind, f_begin_state, f_later_state, f_fares_at, f_never_taken, f__law_net, f__law_begin, f__law_next, f__law_dearest, f__law_step, f__law_listed, f__law_lets, f_bounds, f_need_asked, f_measure_of, f_need_measure, f_got_in, f_row_to, f_shortest, f_bound_paper, f_check_bound, f_state_behind, f_is_table, f_is_from, f_is_state, f_are_counts, f__law_gone, f__law_measured, f__law_gain_129, f__law_layers, f__law_fewest, f__law_measure, f__law_small, f__law_yard, f__law_book, f__law_bare, f_least_share, f_least_in, f_share_in, f__law_is_less, f_share_paper, f_check_share, f_is_fraction, f_does_keep, f_just_many_236, f_need_many_237, f_layers_of, f_span, f_behind, f_spans_232, f_steady_from_233, f_worst_within_464, f_need_asked_224, f_worst_of, f_used_ways, f_need_most, f_regret_in, f_begin_used, f_fares_left, f_later_used, f_row_within_465, f_within_paper_223, f_check_within_225, f_state_by, f_does_close, f_is_used]⟩
end Bk
set_option Elab.async false
set_option linter.all false
set_option maxRecDepth 100000
set_option maxHeartbeats 4000000
namespace Pk
open PySem Bk
def st_law_0f6f0f0 : S := (.ife (.cmp .ne (.call 388 (.cons (.idx (.var 6) (.var 9)) .nil)) (.lst (.cons (.idx (.lst (.cons (.cst (.str "number")) (.cons (.cst (.str "plan")) (.cons (.cst (.str "share")) (.cons (.cst (.str "log")) (.cons (.cst (.str "text")) .nil)))))) (.var 9)) (.cons (.cst (.str "own")) (.cons (.cst (.str "sort")) .nil))))) (.cons (.ret (.cst (.bl false))) .nil) .nil)
def b_law_0f6f0f1 : B := .nil
def b_law_0f6f0f0 : B := .cons st_law_0f6f0f0 b_law_0f6f0f1
def st_law_0f6f0 : S := (.for_ (.var 9) (.rng1 (.cst (.int 5))) b_law_0f6f0f0)
def st_law_0f6f1 : S := (.asg (.var 10) (.lst (.cons (.fld (.idx (.var 6) (.cst (.int 0))) "value" [(3, 0), (5, 0), (10, 0), (11, 0), (12, 0), (13, 0)]) (.cons (.fld (.idx (.var 6) (.cst (.int 1))) "part" [(0, 0), (4, 0)]) (.cons (.fld (.idx (.var 6) (.cst (.int 2))) "value" [(3, 0), (5, 0), (10, 0), (11, 0), (12, 0), (13, 0)]) (.cons (.fld (.idx (.var 6) (.cst (.int 3))) "place" [(2, 0), (6, 0)]) (.cons (.fld (.idx (.var 6) (.cst (.int 4))) "line" [(8, 0)]) .nil)))))))
def st_law_0f6f2 : S := (.ife (.not (.call 17 (.cons (.bin .add (.var 10) (.lst (.cons (.fld (.idx (.var 6) (.cst (.int 4))) "word" [(7, 0), (8, 1)]) .nil))) (.cons (.bin .add (.bin .mul (.lst (.cons (.var 7) .nil)) (.cst (.int 5))) (.lst (.cons (.var 8) .nil))) .nil)))) (.cons (.ret (.cst (.bl false))) .nil) .nil)
def b_law_0f6f3 : B := .nil
def b_law_0f6f2 : B := .cons st_law_0f6f2 b_law_0f6f3
def b_law_0f6f1 : B := .cons st_law_0f6f1 b_law_0f6f2
def b_law_0f6f0 : B := .cons st_law_0f6f0 b_law_0f6f1
def st_law_0f0 : S := (.asg (.var 3) (.lst (.cons (.cst .non) (.cons (.cst (.int 0)) (.cons (.cst (.bl true)) (.cons (.draw (.var 1) (.bin .pow (.cst (.int 10)) (.cst (.int 6)))) (.cons (.cst (.str "")) (.cons (.cst (.str "fares")) (.cons (.tup .nil) (.cons (.tup (.cons (.cst (.int 1)) (.cons (.cst (.str "a")) .nil))) (.cons (.lst (.cons (.cst (.int 1)) (.cons (.lst (.cons (.cst (.int 2)) .nil)) .nil))) (.cons .dnil (.cons (.dkd ["a"] (.cons (.cst (.int 1)) .nil)) .nil)))))))))))))
def st_law_0f1 : S := (.par [(7, false), (8, false)] (.cons (.idx (.var 3) (.draw (.var 1) (.cst (.int 11)))) (.cons (.idx (.var 3) (.draw (.var 1) (.cst (.int 11)))) .nil)))
def st_law_0f2 : S := (.asg (.var 4) (.lst (.cons (.mkX 3 (.cons (.var 7) .nil)) (.cons (.mkX 4 (.cons (.var 7) .nil)) (.cons (.mkX 5 (.cons (.var 7) .nil)) (.cons (.mkX 6 (.cons (.var 7) .nil)) (.cons (.mkX 8 (.cons (.var 7) (.cons (.var 8) .nil))) .nil)))))))
def st_law_0f3 : S := (.own 5 (.lst (.cons (.mkXk 3 [.at 0] (.cons (.var 7) .nil)) (.cons (.mkXk 4 [.at 0] (.cons (.var 7) .nil)) (.cons (.mkXk 5 [.at 0] (.cons (.var 7) .nil)) (.cons (.mkXk 6 [.at 0] (.cons (.var 7) .nil)) .nil))))))
def st_law_0f4 : S := (.app 5 (.mkXk 8 [.at 1, .at 0] (.cons (.var 8) (.cons (.var 7) .nil))))
def st_law_0f5 : S := (.frz 5)
def st_law_0f6 : S := (.for_ (.var 6) (.seq (.tup (.cons (.var 4) (.cons (.var 5) .nil)))) b_law_0f6f0)
def st_law_0f7 : S := (.ife (.or (.cmp .ne (.call 388 (.cons (.mkX 9 (.cons (.var 7) .nil)) .nil)) (.lst (.cons (.cst (.str "great")) .nil))) (.not (.call 17 (.cons (.fld (.mkX 9 (.cons (.var 7) .nil)) "most" [(9, 0)]) (.cons (.var 7) .nil))))) (.cons (.ret (.cst (.bl false))) .nil) .nil)
def b_law_0f8 : B := .nil
def b_law_0f7 : B := .cons st_law_0f7 b_law_0f8
def b_law_0f6 : B := .cons st_law_0f6 b_law_0f7
def b_law_0f5 : B := .cons st_law_0f5 b_law_0f6
def b_law_0f4 : B := .cons st_law_0f4 b_law_0f5
def b_law_0f3 : B := .cons st_law_0f3 b_law_0f4
def b_law_0f2 : B := .cons st_law_0f2 b_law_0f3
def b_law_0f1 : B := .cons st_law_0f1 b_law_0f2
def b_law_0f0 : B := .cons st_law_0f0 b_law_0f1
def st_law_0 : S := (.for_ (.var 2) (.rng1 (.bin .add (.cst (.int 3)) (.bi .min2 (.cons (.cst (.int 6)) (.cons (.bi .len (.cons (.var 0) .nil)) .nil))))) b_law_0f0)
def st_law_1 : S := (.ret (.cst (.bl true)))
def b_law_2 : B := .nil
def b_law_1 : B := .cons st_law_1 b_law_2
def b_law_0 : B := .cons st_law_0 b_law_1
class H80 (p : Bk.Pr) : Prop where
  h__law_classes : p.ds.lookup 388 = some Bk.f__law_classes.2
  h__law_like : p.ds.lookup 17 = some ⟨2, 2, likeB⟩
variable {p : Pr} [H80 p]
/-- the labels of the classes -/
def labs (c : Nat) : D := .lst (if c = 9 then [.str "great"] else [.str (if c = 3 then "number" else if c = 4 then "plan" else if c = 5 then "share" else if c = 6 then "log" else "text"), .str "own", .str "sort"])
theorem classes_i {c : Nat} (hc : c = 3 ∨ c = 4 ∨ c = 5 ∨ c = 6 ∨ c = 8 ∨ c = 9) (ds : List D) (k : Nat) (g : G) : den p (k + 1) 388 [.exc c ds] g = .ok (labs c) g := by
  refine (den_f H80.h__law_classes rfl (by decide)).trans ?_
  show endR (evB p.cs (den p k) b__law_classes [.val (.exc c ds), .no, .no, .no] g) = _
  rcases hc with rfl | rfl | rfl | rfl | rfl | rfl <;> kernel_rfl
/-- the errors of two things -/
def fiveX (q z : D) : List D := [.exc 3 [q], .exc 4 [q], .exc 5 [q], .exc 6 [q], .exc 8 [q, z]]
def okT (d : D) : Prop := Sh 2000 4 d
theorem five_i (q z : D) : ∀ i : Nat, i < 5 → ∃ c ds, idxD (.lst (fiveX q z)) (.int (i : Int)) = some (.exc c ds) ∧ (c = 3 ∨ c = 4 ∨ c = 5 ∨ c = 6 ∨ c = 8 ∨ c = 9) ∧ ∃ s, idxD (.lst [.str "number", .str "plan", .str "share", .str "log", .str "text"]) (.int (i : Int)) = some (.str s) ∧ cmpD .ne (labs c) (.lst [.str s, .str "own", .str "sort"]) = some false
  | 0, _ => ⟨3, [q], rfl, by decide, "number", rfl, by decide +kernel⟩
  | 1, _ => ⟨4, [q], rfl, by decide, "plan", rfl, by decide +kernel⟩
  | 2, _ => ⟨5, [q], rfl, by decide, "share", rfl, by decide +kernel⟩
  | 3, _ => ⟨6, [q], rfl, by decide, "log", rfl, by decide +kernel⟩
  | 4, _ => ⟨8, [q, z], rfl, by decide, "text", rfl, by decide +kernel⟩
  | n + 5, h => absurd h (by omega)
theorem some_i (ns : List Int) (k : Nat) (g : G) {q z : D} (hq : okT q) (hz : okT z) (Γ : Gm) (hΓ : Γ = [.val (.scr ns), .val (.m), .no, .no, .no, .no, .val (.lst (fiveX q z)), .val (q), .val (z), .no, .no]) :
    wpB p.cs (den p (k + 12)) b_law_0f6f0 Γ g (fun Δ g' => Les [.val (.scr ns), .val (.m), .no, .no, .no, .no, .no, .val (q), .val (z), .no, .no] Δ ∧ g' = g) (fun _ _ => False) := by
  subst hΓ
  refine wpB_cons (s := st_law_0f6f0) (b := b_law_0f6f1) ?_
  refine wpS_for (fun _ => [.val (.scr ns), .val (.m), .no, .no, .no, .no, .val (.lst (fiveX q z)), .val (q), .val (z), .no, .no]) (fun _ g' => g' = g) (xs := rngD 0 5) (by simp) (Les.refl _) rfl (fun i x g' hx hp => ?_) (UpN.wpB fun _ _ _ h1 h2 => ⟨h2.1.trans h1, h2.2⟩) fun g' hp => ?_
  · subst hp
    have hi : i < 5 := by
      have := (List.getElem?_eq_some_iff.mp hx).1
      rw [rngD_len] at this
      omega
    obtain rfl : x = .int (i : Int) := by
      have e : ∀ i : Nat, i < 5 → (rngD 0 5)[i]? = some (.int (i : Int)) := fun i hi => match i, hi with | 0, _ => rfl | 1, _ => rfl | 2, _ => rfl | 3, _ => rfl | 4, _ => rfl
      rw [e i hi] at hx
      exact (Option.some.inj hx).symm
    refine ⟨_, rfl, ?_⟩
    obtain ⟨c, ds, e1, hc, s, e2, e3⟩ := five_i q z i hi
    have e4 := classes_i (p := p) hc ds (k + 11) g'
    generalize fiveX q z = F at *
    show wpB _ _ b_law_0f6f0f0 _ _ _ _
    refine wpB_to (s := st_law_0f6f0f0) (b := b_law_0f6f0f1) (r := ?r81) ?e81 ?_
    case e81 => simp [st_law_0f6f0f0, -ix_lst, e1, e2, e4, e3]; rfl
    refine flQ_nxI ?_
    show wpB _ _ b_law_0f6f0f1 _ _ _ _
    exact wpB_nil ⟨by simp [Les], rfl⟩
  · subst hp
    show wpB _ _ b_law_0f6f1 _ _ _ _
    have f0 : ∀ i : Nat, idxD (.lst (fiveX q z)) (.int (i : Int)) = (fiveX q z)[i]? := fun i => by
      show atD _ _ = _
      unfold atD
      rw [if_pos (by omega)]
      rfl
    have g0 : idxD (.lst (fiveX q z)) (.int 0) = some (.exc 3 [q]) := f0 0
    have g1 : idxD (.lst (fiveX q z)) (.int 1) = some (.exc 4 [q]) := f0 1
    have g2 : idxD (.lst (fiveX q z)) (.int 2) = some (.exc 5 [q]) := f0 2
    have g3 : idxD (.lst (fiveX q z)) (.int 3) = some (.exc 6 [q]) := f0 3
    have g4 : idxD (.lst (fiveX q z)) (.int 4) = some (.exc 8 [q, z]) := f0 4
    have a1 : opD .add (.lst [q, q, q, q, q]) (.lst [z]) = some (.lst [q, q, q, q, q, z]) := rfl
    have m1 : opD .mul (.lst [q]) (.int 5) = some (.lst [q, q, q, q, q]) := rfl
    have sz : Sh 20000 64 (.lst [q, q, q, q, q, z]) := (Sh.lst (n := 2000) (h := 4) (fun d hd => by
      simp only [List.mem_cons, List.not_mem_nil, or_false] at hd
      rcases hd with rfl | rfl | rfl | rfl | rfl | rfl <;> assumption)).mono (by simp) (by decide)
    have lk := like_sh (H80.h__law_like (p := p)) (k + 11) g' sz (by decide)
    have w4 : fldD [(7, 0), (8, 1)] (.exc 8 [q, z]) = some z := rfl
    generalize fiveX q z = F at *
    refine wpB_to (s := st_law_0f6f1) (b := b_law_0f6f2) (r := ?r106) ?e106 ?_
    case e106 => simp [st_law_0f6f1, -ix_lst, g0, g1, g2, g3, g4, fldD]; rfl
    refine flQ_nxI ?_
    show wpB _ _ b_law_0f6f2 _ _ _ _
    refine wpB_to (s := st_law_0f6f2) (b := b_law_0f6f3) (r := ?r110) ?e110 ?_
    case e110 => simp [st_law_0f6f2, -ix_lst, g4, w4, a1, m1, lk]; rfl
    refine flQ_nxI ?_
    show wpB _ _ b_law_0f6f3 _ _ _ _
    exact wpB_nil ⟨by simp [Les], rfl⟩
theorem turn80 (ns : List Int) (k : Nat) (g : G) (x : D) (hg : g.spot + 100 < 2 ^ 60) : wpB p.cs (den p (k + 12)) b_law_0f0 [.val (.scr ns), .val (.m), .val (x), .no, .no, .no, .no, .no, .no, .no, .no] g (fun Δ g' => Les [.val (.scr ns), .val (.m), .no, .no, .no, .no, .no, .no, .no, .no, .no] Δ ∧ g'.spot ≤ g.spot + 5) (fun _ _ => False) := by
  obtain ⟨v, g1, e1, v0, v1, h1⟩ := drw_ok (lim := 1000000) (g := g) (by decide) (by decide) (by omega)
  obtain ⟨a, g2, e2, a0, a1, h2⟩ := drw_ok (lim := 11) (g := g1) (by decide) (by decide) (by omega)
  obtain ⟨b, g3, e3, b0, b1, h3⟩ := drw_ok (lim := 11) (g := g2) (by decide) (by decide) (by omega)
  obtain ⟨th, hth⟩ : ∃ th, th = [D.non, .int 0, .bl true, .int v, .str "", .str "fares", .tup [], .tup [.int 1, .str "a"], .lst [.int 1, .lst [.int 2]], .dct [] [], .dks ["a"] [.int 1]] := ⟨_, rfl⟩
  have ok : ∀ d ∈ th, okT d := by
    subst hth
    intro d hd
    simp only [List.mem_cons, List.not_mem_nil, or_false] at hd
    rcases hd with rfl | rfl | rfl | rfl | rfl | rfl | rfl | rfl | rfl | rfl | rfl
    rotate_left 3
    · exact (Sz.int (i := v) (by unfold Sm; omega)).s.mono (by decide) (by decide)
    all_goals exact ⟨by decide +kernel, by decide +kernel, by decide +kernel, by decide +kernel⟩
  have len : th.length = 11 := by rw [hth]; rfl
  obtain ⟨q, e4, hq⟩ := ix_in (xs := th) (v := a) a0 (by omega)
  obtain ⟨z, e5, hz⟩ := ix_in (xs := th) (v := b) b0 (by omega)
  have pw : opD .pow (.int 10) (.int 6) = some (.int 1000000) := rfl
  have dk : ∀ g : G, (if [D.int 1].length = (["a"] : List Str).length ∧ (["a"] : List Str).length ≤ 15 ∧ (["a"] : List Str).Nodup then R.ok (D.dks ["a"] [.int 1]) g else .st) = R.ok (D.dks ["a"] [.int 1]) g := fun g => if_pos (by decide)
  have mk5 : ∀ g : G, R.ok (D.lst [D.exc 3 [q], D.exc 4 [q], D.exc 5 [q], D.exc 6 [q], D.exc 8 [q, z]]) g = R.ok (.lst (fiveX q z)) g := fun _ => rfl
  have ap : [D.exc 3 [q], D.exc 4 [q], D.exc 5 [q], D.exc 6 [q]] ++ [D.exc 8 [q, z]] = fiveX q z := rfl
  have p1 : pickD [.at 0] [q] = some [q] := rfl
  have p2 : pickD [.at 1, .at 0] [z, q] = some [q, z] := rfl
  have c9 := classes_i (p := p) (c := 9) (by decide) [q] (k + 11) g3
  have w9 : fldD [(9, 0)] (.exc 9 [q]) = some q := rfl
  have n9 : cmpD .ne (labs 9) (.lst [.str "great"]) = some false := by decide +kernel
  have lk := like_sh (H80.h__law_like (p := p)) (k + 11) g3 ((ok q hq).mono (Nat.le_refl _) (by decide)) (by decide)
  have hq := ok q hq
  have hz := ok z hz
  refine wpB_to (s := st_law_0f0) (b := b_law_0f1) (r := ?r143) ?e143 ?_
  case e143 => simp [st_law_0f0, -x_draw, x_drw, e1, pw, dk, ← hth]; rfl
  refine flQ_nxI ?_
  show wpB _ _ b_law_0f1 _ _ _ _
  clear hth
  refine wpB_to (s := st_law_0f1) (b := b_law_0f2) (r := ?r148) ?e148 ?_
  case e148 => simp [st_law_0f1, -x_draw, x_drw, -ix_lst, e2, e3, e4, e5]; rfl
  refine flQ_nxI ?_
  show wpB _ _ b_law_0f2 _ _ _ _
  refine wpB_to (s := st_law_0f2) (b := b_law_0f3) (r := ?r152) ?e152 ?_
  case e152 => simp [st_law_0f2, mk5]; rfl
  refine flQ_nxI ?_
  show wpB _ _ b_law_0f3 _ _ _ _
  refine wpB_to (s := st_law_0f3) (b := b_law_0f4) (r := ?r156) ?e156 ?_
  case e156 => simp [st_law_0f3, p1]; rfl
  refine flQ_nxI ?_
  show wpB _ _ b_law_0f4 _ _ _ _
  refine wpB_to (s := st_law_0f4) (b := b_law_0f5) (r := ?r160) ?e160 ?_
  case e160 => simp [st_law_0f4, p2, ap]; rfl
  refine flQ_nxI ?_
  show wpB _ _ b_law_0f5 _ _ _ _
  refine wpB_to (s := st_law_0f5) (b := b_law_0f6) (r := ?r164) ?e164 ?_
  case e164 => simp [st_law_0f5]; rfl
  refine flQ_nxI ?_
  show wpB _ _ b_law_0f6 _ _ _ _
  refine wpB_cons (s := st_law_0f6) (b := b_law_0f7) ?_
  refine wpS_for (fun _ => [.val (.scr ns), .val (.m), .no, .no, .no, .no, .no, .val (q), .val (z), .no, .no]) (fun _ g' => g' = g3) (xs := [.lst (fiveX q z), .lst (fiveX q z)]) (by simp [fiveX]) (by simp [Les]) rfl (fun i x g' hx hp => ?_) (UpN.wpB fun _ _ _ h1 h2 => ⟨h2.1.trans h1, h2.2⟩) fun g' hp => ?_
  · subst hp
    obtain rfl : x = .lst (fiveX q z) := by
      rcases i with _ | _ | i <;> simp at hx <;> exact hx.symm
    exact ⟨_, rfl, some_i ns k g' hq hz _ rfl⟩
  · subst hp
    show wpB _ _ b_law_0f7 _ _ _ _
    refine wpB_to (s := st_law_0f7) (b := b_law_0f8) (r := ?r176) ?e176 ?_
    case e176 => simp [st_law_0f7, c9, n9, w9, lk]; rfl
    refine flQ_nxI ?_
    show wpB _ _ b_law_0f8 _ _ _ _
    exact wpB_nil ⟨by simp [Les], by omega⟩
theorem loop80 (ns : List Int) (hl : ns.length ≤ 63) (k : Nat) (g : G) (hg : g.spot = 0) : wpB p.cs (den p (k + 12)) b_law_0 [.val (.scr ns), .val (.m), .no, .no, .no, .no, .no, .no, .no, .no, .no] g (fun _ _ => False) (fun d _ => d = .bl true) := by
  refine wpB_cons (s := st_law_0) (b := b_law_1) ?_
  have en : ∃ n : Nat, n ≤ 9 ∧ (3 : Int) + (if (ns.length : Int) < 6 then (ns.length : Int) else 6) = (n : Int) := by
    split
    · exact ⟨3 + ns.length, by omega, by push_cast; rfl⟩
    · exact ⟨9, by decide, by decide⟩
  obtain ⟨n, hn, en⟩ := en
  refine wpS_for (fun _ => [.val (.scr ns), .val (.m), .no, .no, .no, .no, .no, .no, .no, .no, .no]) (fun i g => g.spot ≤ 5 * i) (xs := rngD 0 n) ?_ (Les.refl _) (by omega) (fun i x g hx hp => ?_) (UpN.wpB fun _ _ _ _ h => h) fun g _ => ?_
  · have e1 : biD .len [.scr ns] = some (.int (ns.length : Int)) := rfl
    have e2 : biD .min2 [.int 6, .int (ns.length : Int)] = some (.int (if (ns.length : Int) < 6 then (ns.length : Int) else 6)) := rfl
    have e3 : opD .add (.int 3) (.int (if (ns.length : Int) < 6 then (ns.length : Int) else 6)) = some (.int (n : Int)) := by
      show some (D.int _) = _
      rw [en]
    rw [i_rng1]
    simp only [x_bin, x_cst, x_bi, a_cons, a_nil, x_var, List.getElem?_cons_zero, r_ok, e1, l_some, e2, e3]
    rw [if_pos (by omega)]
    rfl
  · have hi : i < n := by
      have := (List.getElem?_eq_some_iff.mp hx).1
      rw [rngD_len] at this
      omega
    refine ⟨_, rfl, wpB_mono (turn80 ns k g x (by omega)) (fun Δ g' ⟨a, b⟩ => ⟨a, by push_cast; omega⟩) fun _ _ h => h.elim⟩
  · show wpB _ _ b_law_1 _ _ _ _
    refine wpB_to (s := st_law_1) (b := b_law_2) (r := ?r204) ?e204 ?_
    case e204 => simp [st_law_1]; rfl
    refine flQ_rtI ?_
    rfl
instance : H80 Bk.p := by constructor <;> rfl
theorem law_ok (ns : List Int) (g : G) (hl : ns.length ≤ 63) (hs : g.spot = 0) : ∃ g', evB Bk.p.cs (den Bk.p 14) b_law (.val (.scr ns) :: .val .m :: List.replicate 9 .no) g = .ok (.rt (.bl true)) g' := by
  obtain ⟨d, g', e, rfl⟩ := wpB_false (loop80 (p := Bk.p) ns hl 2 g hs)
  exact ⟨g', e⟩
end Pk
set_option Elab.async false
set_option linter.all false
set_option maxRecDepth 100000
set_option maxHeartbeats 4000000
namespace L2
open PySem PySem.Spec PyProof.Rows
section
variable {prog : Program} {w : World} {A : Around} {E : Value → Shared → Prop} {s : Shared}
theorem col_tup {t : Addr} {its : List Value} {Q : List Value → Shared → Prop} (ht : s.heap.IsTuple t its.toArray) (hz : its.length ≤ sizeLine)
    (q : Q its { s with heap := (s.heap.push (seqObj "list" #[] 0)).update s.heap.objs.size (Obj.mapSeq (· ++ its.toArray)) }) : wpAny (model prog w) A (collect (.ref t)) Q E s := by
  obtain ⟨ob, h1, h2, k, h3⟩ := id ht
  have nw : (s.heap.push (seqObj "list" #[] 0)).get? s.heap.objs.size = some (seqObj "list" #[] 0) := Heap.get?_push_size _ rfl
  have old : (s.heap.push (seqObj "list" #[] 0)).get? t = some ob := Heap.get?_push_of_some _ h1
  have e0 : ((#[] : Array Value) ++ its.toArray).toList = its := by simp
  unfold collect
  refine wpAny_bind (wpAny_runValue (codeAny_builtin entry_proto_collect' ?_))
  refine wpAny_bind (m := newList []) (wpAny_newList (wpAny_pure ⟨Code.quiet_builtin _ (by decide +kernel), codeAny_builtin entry_list_iadd' ?_⟩))
  show wpAny _ _ (Builtin.List.listExtendWith (.ref s.heap.objs.size) (.ref t) (.ref s.heap.objs.size)) _ _ _
  unfold Builtin.List.listExtendWith
  refine wpAny_bind (wpAny_typeOf (T := "tuple") ⟨ob, old, h2⟩ ?_)
  have hb : (Builtin.List.listSameRef (.ref s.heap.objs.size) (.ref t) || (Value.type "tuple" == Value.type "list") || (Value.type "tuple" == Value.type "tuple")) = true := by
    have : (Value.type "tuple" == Value.type "tuple") = true := rfl
    rw [this, Bool.or_true]
  rw [if_pos hb]
  refine wpAny_bind (listItems_at old h3 (wpAny_bind (listItems_at nw rfl ?_)))
  have hne : ¬ ((!(#[] : Array Value).isEmpty && Builtin.List.listTooLong ((#[] : Array Value).size + its.toArray.size)) = true) := by simp
  rw [if_neg hne]
  have z2 : ((#[] : Array Value) ++ its.toArray).size ≤ sizeLine + 1 := by simp; omega
  refine wpAny_bind (listUpdate_at (f := (· ++ its.toArray)) nw rfl (wpAny_pure ?_) (Nat.zero_le _) z2)
  refine wpAny_bind (m := load s.heap.objs.size) (wpAny_load (get?_update_seq nw _) ?_)
  dsimp only
  rw [e0]
  exact wpAny_pure q
theorem srt_tup {t : Addr} {its : List Value} {lt : Value → Value → Bool} {Q : Value → Shared → Prop} (O : SrtO.Swo lt) (ht : s.heap.IsTuple t its.toArray) (hz : its.length ≤ sizeLine)
    (hS : 2 ≤ its.length → ∀ (h₁ : Heap) (a : Addr), h₁.get? a = some (seqObj "list" its.toArray 0) → (∀ b o, s.heap.get? b = some o → b ≠ a ∧ h₁.get? b = some o) → SrtO.SortableO prog w A.in1.in1 { s with heap := h₁ } a its lt)
    (q : ∀ out : List Value, SrtO.Srtd lt out → SrtO.Stb lt out its → Q (.ref (s.heap.objs.size + 1)) { s with heap := sortedAll s.heap its out.toArray }) : wpAny (model prog w) A (call (.builtin "sorted") [.ref t]) Q E s := by
  refine Calls.call_function_entry kind_sorted plain_sorted entry_sorted (args_sorted1 _) ?_
  unfold Builtin.«sorted»
  refine wpAny_bind (m := checkCount "sorted" 1 1 _) (wpAny_pure (wpAny_bind (col_tup ht hz (wpAny_bind (wpAny_newList ?_ hz)))))
  generalize eH : (s.heap.push (seqObj "list" #[] 0)).update s.heap.objs.size (Obj.mapSeq (· ++ its.toArray)) = H1
  have e1 : H1.objs.size = s.heap.objs.size + 1 := by rw [← eH, Heap.size_update, size_push']
  have stay : ∀ b o, s.heap.get? b = some o → H1.get? b = some o := fun b o hb => by
    rw [← eH, Heap.get?_update_ne _ _ _ _ (Nat.ne_of_lt (Heap.lt_size hb))]
    exact Heap.get?_push_of_some _ hb
  have nw : (H1.push (seqObj "list" its.toArray 0)).get? (s.heap.objs.size + 1) = some (seqObj "list" its.toArray 0) := by
    rw [← e1]; exact Heap.get?_push_size _ rfl
  have keep : ∀ b o, s.heap.get? b = some o → b ≠ s.heap.objs.size + 1 ∧ (H1.push (seqObj "list" its.toArray 0)).get? b = some o := fun b o hb =>
    ⟨Nat.ne_of_lt (Nat.lt_succ_of_lt (Heap.lt_size hb)), Heap.get?_push_of_some _ (stay b o hb)⟩
  show wpAny _ _ _ _ _ { s with heap := H1.push (seqObj "list" its.toArray 0) }
  rw [e1]
  refine wpAny_bind (wpAny_holding (wpAny_call_entry slot_list_sort ⟨_, nw, rfl⟩ entry_list_sort (SrtO.list_sort_ord O nw hz (fun h2 => hS h2 _ _ nw keep) fun out a1 a2 => ⟨_, rfl, wpAny_pure ⟨_, rfl, ?_⟩⟩) (args_list_sort _)))
  have := q out a1 a2
  unfold sortedAll at this
  rw [eH] at this
  exact this
end
def rSortT (K : PySem.W.Frag) : List V → Hp → VK → Prop := fun vs H Q => ∃ (a : Addr) (ns : List Int), vs = [V.ref a] ∧ SqT K H a (ns.map V.int) ∧
  ∀ (ns' : List Int) (p : Addr), ns'.Perm ns → ns'.Pairwise (· ≤ ·) → H p = none → Q (.ref p) (upd H p (.lst (ns'.map V.int)))
section
variable {X : Cx}
theorem cr_sortT : CallR X (.builtin "sorted") (rSortT X.K) := by
  intro pins s σ H vs us Q I r h
  obtain ⟨a, ns, rfl, ht, q⟩ := h
  obtain ⟨its, rv, hl, hz⟩ := I.tuple ht
  have hi := rv.ints
  rw [Vals.ref1 r]
  refine srt_tup SrtO.swo_int hl (rv.length ▸ hz) (fun h2 h₁ a' _ _ => SrtO.ints_sortable hi h2) fun out a1 a2 => ?_
  obtain ⟨k1, k2, k3⟩ := SrtO.ints_out hi a1 a2
  obtain ⟨ep, he⟩ := PyProof.Rows.sortedAll_at s.heap its out.toArray
  have len : ((out.map SrtO.iv).map V.int).length ≤ sizeLine := by
    have := hz
    rw [List.length_map] at this ⊢
    rwa [k2.length_eq]
  refine ⟨.ref _, upd H (s.heap.objs.size + 1) (.lst ((out.map SrtO.iv).map V.int)), ?_, rfl, q _ _ k2 k3 (I.hok.fresh (Nat.le_succ _))⟩
  exact I.laid (t' := s.toks) (fun _ _ => PyProof.Rows.sortedAll_old) (Nat.le_succ _) ⟨len, out, ep, vals_of_ints k1, he⟩
end
end L2
set_option Elab.async false
set_option linter.all false
set_option maxRecDepth 100000
set_option maxHeartbeats 1000000
namespace Bk
open PySem L2
open Evl (Ex ex_l ex_t)
section
variable {X : Cx} {W : Wd} {pins : List (Addr × Obj)} {σ : L2.St} {Hk H : Hp} {s : Shared}
mutual
theorem rp_key (I : L2.Inv X pins σ H s) (ex : Ex Hk H) : ∀ {d : D} {v : V} {u : Value}, Rp X.K W Hk d v → okP d = true → RelV v u → NestedIs s.heap (keyD d) u
  | .non, v, u, r, _, ru => by
    rw [show v = .non from r] at ru
    rw [show u = Value.none from ru]
    exact .none
  | .bl b, v, u, r, _, ru => by
    rw [show v = .bl b from r] at ru
    rw [show u = Value.bool b from ru]
    exact .bool rfl
  | .int i, v, u, r, _, ru => by
    rw [show v = .int i from r] at ru
    obtain ⟨t, e⟩ := (show ∃ t, u = Value.int i t from ru)
    subst e
    exact .int i t
  | .str x, v, u, r, _, ru => by
    rw [show v = .str x from r] at ru
    obtain ⟨t, e⟩ := (show ∃ t, u = Value.str x t from ru)
    subst e
    exact .text x t
  | .tup ds, v, u, r, ok, ru => by
    obtain ⟨a, xs, e1, h1, h2⟩ := r
    subst e1
    rw [show u = Value.ref a from ru]
    obtain ⟨its, rv, ⟨o, q1, q2, n, q3⟩, hz⟩ := I.tuple (ex_t ex h1)
    exact .tup q1 q2 q3 (rp_keys I ex h2 ok rv)
  | .lst _, _, _, _, ok, _ => by cases ok
  | .m, _, _, _, ok, _ => by cases ok
  | .scr _, _, _, _, ok, _ => by cases ok
  | .dct _ _, _, _, _, ok, _ => by cases ok
  | .fn, _, _, _, ok, _ => by cases ok
  | .exc _ _, _, _, _, ok, _ => by cases ok
  | .dks _ _, _, _, _, ok, _ => by cases ok
theorem rp_keys (I : L2.Inv X pins σ H s) (ex : Ex Hk H) : ∀ {ds : List D} {vs : List V} {us : List Value}, RpL X.K W Hk ds vs → okPs ds = true → Vals vs us → NestedAll s.heap (keysD ds) us
  | [], vs, us, r, _, ru => by
    rw [show vs = [] from r] at ru
    cases ru
    exact .nil
  | d :: ds, vs, us, r, ok, ru => by
    obtain ⟨y, ys, e, r1, r2⟩ := r
    subst e
    simp only [okPs, Bool.and_eq_true] at ok
    cases ru with
    | cons q1 q2 => exact .cons (rp_key I ex r1 ok.1 q1) (rp_keys I ex r2 ok.2 q2)
end
theorem okK_P {d : D} (h : okK d = true) : okP d = true ∧ (keyD d).depth ≤ 8 := by
  cases d <;> (try (cases h; done))
  simp only [okK, Bool.and_eq_true, decide_eq_true_eq] at h
  exact h
/-- a key, as the heap's kind has it -/
theorem rp_is (I : L2.Inv X pins σ H s) (ex : Ex Hk H) {d : D} {v : V} {u : Value} (r : Rp X.K W Hk d v) (ok : okK d = true) (ru : RelV v u) : ∃ a, v = .ref a ∧ u = .ref a ∧ (nestedKind X.prog X.w).is s.heap (keyD d) a := by
  obtain ⟨o1, o2⟩ := okK_P ok
  have k := rp_key I ex r o1 ru
  cases d <;> (try (cases ok; done))
  obtain ⟨a, xs, e1, h1, h2⟩ := id r
  subst e1
  have e : u = Value.ref a := ru
  subst e
  exact ⟨a, rfl, rfl, k, o2⟩
abbrev Trip (xs : List (NestedKey × Addr × V)) (ys : List (NestedKey × Addr × Value)) : Prop :=
  Paired (fun (p : NestedKey × Addr × V) (q : NestedKey × Addr × Value) => p.1 = q.1 ∧ p.2.1 = q.2.1 ∧ RelV p.2.2 q.2.2) xs ys
theorem keys_is (I : L2.Inv X pins σ H s) (ex : Ex Hk H) : ∀ {ks : List D} {xs : List (NestedKey × Addr × V)} {ys : List (NestedKey × Addr × Value)}, Trip xs ys → xs.map (·.1) = keysD ks → ks.all okK = true →
    RpL X.K W Hk ks (xs.map fun x => V.ref x.2.1) → ∀ y ∈ ys, (nestedKind X.prog X.w).is s.heap y.1 y.2.1
  | [], xs, ys, t, e, _, _ => by
    cases t with
    | nil => intro y hy; cases hy
    | cons q t => simp [keysD] at e
  | k :: ks, xs, ys, t, e, ok, r => by
    cases t with
    | nil => intro y hy; cases hy
    | @cons x y xs ys q t =>
      simp only [List.map_cons, keysD, List.cons.injEq] at e
      simp only [List.all_cons, Bool.and_eq_true] at ok
      obtain ⟨v0, vs0, e0, r1, r2⟩ := r
      simp only [List.map_cons, List.cons.injEq] at e0
      obtain ⟨e1, e2⟩ := e0
      intro z hz
      rcases List.mem_cons.mp hz with e3 | hz
      · subst e3
        rw [← e1] at r1
        obtain ⟨a, q1, q2, q3⟩ := rp_is (u := .ref x.2.1) I ex r1 ok.1 rfl
        cases q1
        rw [← q.1, ← q.2.1, e.1]
        exact q3
      · rw [← e2] at r2
        exact keys_is I ex t e.2 ok.2 r2 z hz
/-- the dict in the machine's heap -/
theorem dict_of (I : L2.Inv X pins σ H s) (ex : Ex Hk H) (hw : W.w = X.w) {p : Addr} {o : Obj} {xs : List (NestedKey × Addr × V)} {ks : List D} (h1 : H p = some (ObX p o)) (h3 : DcIs W.w o xs) (h4 : xs.map (·.1) = keysD ks) (h5 : ks.all okK = true)
    (h6 : RpL X.K W Hk ks (xs.map fun x => V.ref x.2.1)) : ∃ ys, Trip xs ys ∧ s.heap.DictOfH (nestedKind X.prog X.w) p ys := by
  obtain ⟨ys, t, q1, q2, es, ep, q3, q4⟩ := h3
  refine ⟨ys, t, o, es, ep, obX_at I.hok h1, q1, q3, ?_, keys_is I ex t h4 h5 h6, q2⟩
  rw [q4, hw]
  rfl
theorem atKey_cons {y : NestedKey × Addr × Value} {ys : List (NestedKey × Addr × Value)} {k : NestedKey} : atKey (y :: ys) k = if y.1 = k then some y.2 else atKey ys k := by
  by_cases e : y.1 = k
  · simp [atKey, e]
  · simp [atKey, List.find?_cons, e]
/-- what is found -/
theorem get_rel {K : PySem.W.Frag} (k : NestedKey) : ∀ {ks vs : List D} {xs : List (NestedKey × Addr × V)} {ys : List (NestedKey × Addr × Value)}, Trip xs ys → xs.map (·.1) = keysD ks → RpL K W Hk vs (xs.map fun x => x.2.2) →
    (∃ d v u a, getK k ks vs = some d ∧ atKey ys k = some (a, u) ∧ RelV v u ∧ Rp K W Hk d v) ∨ (getK k ks vs = none ∧ atKey ys k = none)
  | [], vs, xs, ys, t, e, r => by
    cases t with
    | nil => exact .inr ⟨by simp [getK], rfl⟩
    | cons q t => simp [keysD] at e
  | a :: ks, vs, xs, ys, t, e, r => by
    cases t with
    | nil => simp [keysD] at e
    | @cons x y xs ys q t =>
      simp only [List.map_cons, keysD, List.cons.injEq] at e
      cases vs with
      | nil => exact absurd (show (_ :: _ : List V) = [] from r) (by simp)
      | cons w vs =>
        obtain ⟨v0, vs0, e0, r1, r2⟩ := r
        simp only [List.map_cons, List.cons.injEq] at e0
        obtain ⟨e1, e2⟩ := e0
        rw [atKey_cons]
        simp only [getK]
        by_cases hk : keyD a = k
        · rw [if_pos hk, if_pos (by rw [← q.1, e.1]; exact hk)]
          exact .inl ⟨w, x.2.2, y.2.2, y.2.1, rfl, rfl, q.2.2, by rw [e1]; exact r1⟩
        · rw [if_neg hk, if_neg (by rw [← q.1, e.1]; exact hk)]
          rw [← e2] at r2
          exact get_rel k t e.2 r2
theorem get_isSome {K : PySem.W.Frag} (k : NestedKey) {ks vs : List D} {xs : List (NestedKey × Addr × V)} {ys : List (NestedKey × Addr × Value)} (t : Trip xs ys) (e : xs.map (·.1) = keysD ks) (r : RpL K W Hk vs (xs.map fun x => x.2.2)) : (atKey ys k).isSome = (getK k ks vs).isSome := by
  rcases get_rel k t e r with ⟨d, v, u, a, h1, h2, _, _⟩ | ⟨h1, h2⟩ <;> rw [h1, h2] <;> rfl
/-- what is stored -/
def putX (k : NestedKey) (v : V) (x : NestedKey × Addr × V) : NestedKey × Addr × V := if x.1 = k then (x.1, x.2.1, v) else x
theorem putX_rel {k : NestedKey} {v : V} {u : Value} (ru : RelV v u) : ∀ {xs : List (NestedKey × Addr × V)} {ys : List (NestedKey × Addr × Value)}, Trip xs ys → Trip (xs.map (putX k v)) (ys.map (putAt k u))
  | _, _, .nil => .nil
  | _, _, @Paired.cons _ _ _ x y xs ys q t => by
    refine .cons ?_ (putX_rel ru t)
    unfold putX putAt
    by_cases h : x.1 = k
    · rw [if_pos h, if_pos (by rw [← q.1]; exact h)]
      exact ⟨q.1, q.2.1, ru⟩
    · rw [if_neg h, if_neg (by rw [← q.1]; exact h)]
      exact q
theorem putX_keys (k : NestedKey) (v : V) (xs : List (NestedKey × Addr × V)) : (xs.map (putX k v)).map (·.1) = xs.map (·.1) := by
  rw [List.map_map]
  refine List.map_congr_left fun x _ => ?_
  simp only [Function.comp_def, putX]
  split <;> rfl
theorem putX_refs (k : NestedKey) (v : V) (xs : List (NestedKey × Addr × V)) : ((xs.map (putX k v)).map fun x => V.ref x.2.1) = xs.map fun x => V.ref x.2.1 := by
  rw [List.map_map]
  refine List.map_congr_left fun x _ => ?_
  simp only [Function.comp_def, putX]
  split <;> rfl
theorem putX_none {k : NestedKey} {v : V} : ∀ {xs : List (NestedKey × Addr × V)}, k ∉ xs.map (·.1) → xs.map (putX k v) = xs
  | [], _ => rfl
  | x :: xs, h => by
    simp only [List.map_cons, List.mem_cons, not_or] at h
    rw [List.map_cons, putX_none h.2, putX, if_neg (fun e => h.1 e.symm)]
theorem setK_rel {K : PySem.W.Frag} {k : NestedKey} {y : D} {v : V} (ry : Rp K W Hk y v) : ∀ {ks vs : List D} {xs : List (NestedKey × Addr × V)}, xs.map (·.1) = keysD ks → (xs.map (·.1)).Nodup → RpL K W Hk vs (xs.map fun x => x.2.2) →
    RpL K W Hk (setK k y ks vs) ((xs.map (putX k v)).map fun x => x.2.2)
  | [], vs, [], _, _, r => by
    cases vs with
    | nil => exact rfl
    | cons w vs => exact absurd r (by rintro ⟨_, _, e, _⟩; simp at e)
  | [], _, x :: xs, e, _, _ => by simp [keysD] at e
  | a :: ks, _, [], e, _, _ => by simp [keysD] at e
  | a :: ks, vs, x :: xs, e, nd, r => by
    simp only [List.map_cons, keysD, List.cons.injEq] at e
    cases vs with
    | nil => exact absurd (show (_ :: _ : List V) = [] from r) (by simp)
    | cons w vs =>
      obtain ⟨v0, vs0, e0, r1, r2⟩ := r
      simp only [List.map_cons, List.cons.injEq] at e0
      obtain ⟨e1, e2⟩ := e0
      simp only [List.map_cons, List.nodup_cons] at nd
      simp only [setK]
      by_cases hk : keyD a = k
      · have hx : x.1 = k := by rw [e.1]; exact hk
        rw [if_pos hk, List.map_cons, List.map_cons, putX_none (by rw [← hx]; exact nd.1)]
        refine ⟨v, _, ?_, ry, by rw [← e2] at r2; exact r2⟩
        rw [putX, if_pos hx]
      · have hx : ¬ x.1 = k := by rw [e.1]; exact hk
        rw [if_neg hk, List.map_cons, List.map_cons]
        refine ⟨x.2.2, _, ?_, by rw [e1]; exact r1, setK_rel ry e.2 nd.2 (by rw [e2]; exact r2)⟩
        rw [putX, if_neg hx]
theorem keysD_append : ∀ (as bs : List D), keysD (as ++ bs) = keysD as ++ keysD bs
  | [], _ => rfl
  | a :: as, bs => by simp only [List.cons_append, keysD, keysD_append as bs]
theorem trip_len {xs : List (NestedKey × Addr × V)} {ys : List (NestedKey × Addr × Value)} (t : Trip xs ys) : xs.length = ys.length := Paired.length t
theorem trip_keys : ∀ {xs : List (NestedKey × Addr × V)} {ys : List (NestedKey × Addr × Value)}, Trip xs ys → ys.map (·.1) = xs.map (·.1)
  | _, _, .nil => rfl
  | _, _, .cons q t => by rw [List.map_cons, List.map_cons, trip_keys t, q.1]
theorem trip_snoc {x : NestedKey × Addr × V} {y : NestedKey × Addr × Value} (q : x.1 = y.1 ∧ x.2.1 = y.2.1 ∧ RelV x.2.2 y.2.2) : ∀ {xs : List (NestedKey × Addr × V)} {ys : List (NestedKey × Addr × Value)}, Trip xs ys → Trip (xs ++ [x]) (ys ++ [y])
  | _, _, .nil => .cons q .nil
  | _, _, .cons q' t => .cons q' (trip_snoc q t)
theorem keysD_len : ∀ (ks : List D), (keysD ks).length = ks.length
  | [] => rfl
  | k :: ks => by simp only [keysD, List.length_cons, keysD_len ks]
/-- d[k] = y: what stands there behind it -/
theorem put_ob (hw : W.w = X.w) {p a : Addr} {xs : List (NestedKey × Addr × V)} {ys : List (NestedKey × Addr × Value)} {ks vs : List D} {k y : D} {v : V} {u : Value} {h' : Heap} (hp : (p == sysModules) = false) (t : Trip xs ys) (e : xs.map (·.1) = keysD ks) (ok : ks.all okK = true)
    (r1 : RpL X.K W Hk ks (xs.map fun x => V.ref x.2.1)) (r2 : RpL X.K W Hk vs (xs.map fun x => x.2.2)) (okk : okK k = true) (rk : Rp X.K W Hk k (.ref a)) (ry : Rp X.K W Hk y v) (ru : RelV v u) (nd : (ys.map (·.1)).Nodup)
    (hd : h'.DictOfH (nestedKind X.prog X.w) p (storedH ys (keyD k) a u)) : ∃ o, h'.get? p = some o ∧ Ob X.K W Hk (putD ks vs k y) p (ObX p o) := by
  obtain ⟨o, es, ep, q1, q2, q3, q4, _, q5⟩ := hd
  have nd' : (xs.map (·.1)).Nodup := by rw [← trip_keys t]; exact nd
  refine ⟨o, q1, ?_⟩
  unfold putD
  rcases get_rel (keyD k) t e r2 with ⟨d, v', u', a', g1, g2, _, _⟩ | ⟨g1, g2⟩
  · rw [g1]
    rw [storedH_old g2] at q4 q5
    refine ⟨o, xs.map (putX (keyD k) v), rfl, hp, ⟨_, putX_rel ru t, q2, q5, es, ep, q3, ?_⟩, by rw [putX_keys]; exact e, ok, by rw [putX_refs]; exact r1, setK_rel ry e nd' r2⟩
    rw [q4, hw]
    rfl
  · rw [g1]
    rw [storedH_new g2] at q4 q5
    refine ⟨o, xs ++ [(keyD k, a, v)], rfl, hp, ⟨_, trip_snoc ⟨rfl, rfl, ru⟩ t, q2, q5, es, ep, q3, ?_⟩, ?_, ?_, ?_, ?_⟩
    · rw [q4, hw]
      rfl
    · rw [List.map_append, keysD_append, e]; rfl
    · rw [List.all_append, ok]; simp [okk]
    · rw [List.map_append]; exact r1.append (.cons rk .nil)
    · rw [List.map_append]; exact r2.append (.cons ry .nil)
/-- d stands at p, read -/
def DAt (K : PySem.W.Frag) (W : Wd) (Hk H : Hp) (p : Addr) (ks vs : List D) : Prop := ∃ (o : Obj) (xs : List (NestedKey × Addr × V)), H p = some (ObX p o) ∧ (p == sysModules) = false ∧ DcIs W.w o xs ∧ xs.map (·.1) = keysD ks ∧ ks.all okK = true ∧
  RpL K W Hk ks (xs.map fun x => V.ref x.2.1) ∧ RpL K W Hk vs (xs.map fun x => x.2.2)
variable {E : Value → Shared → Prop} {A : Around}
theorem DAt.typ {p : Addr} {ks vs : List D} (h : DAt X.K W Hk H p ks vs) (I : L2.Inv X pins σ H s) : s.TypeIs (.ref p) "dict" := by
  obtain ⟨o, xs, h1, h2, ⟨ys, t, q1, _⟩, _⟩ := h
  exact ⟨o, obX_at I.hok h1, q1.1⟩
theorem n_in {p : Addr} {ks vs : List D} {k : D} {v : V} {u : Value} {Q : Value → Shared → Prop} (hu : A.units + 64 < cLine) (I : L2.Inv X pins σ H s) (ex : Ex Hk H) (hw : W.w = X.w) (h : DAt X.K W Hk H p ks vs) (rk : Rp X.K W Hk k v) (ok : okK k = true) (ru : RelV v u)
    (q : ∀ s', L2.Inv X pins σ H s' → Q (.bool (getK (keyD k) ks vs).isSome) s') : wpAny (model X.prog X.w) A (compareOp .In u (.ref p)) Q E s := by
  obtain ⟨o, xs, h1, h2, h3, h4, h5, h6, h7⟩ := h
  obtain ⟨ys, t, dd⟩ := dict_of I ex hw h1 h3 h4 h5 h6
  obtain ⟨a, e1, e2, hk⟩ := rp_is I ex rk ok ru
  subst e2
  refine wpAny_in_heap (knd := nestedKind X.prog X.w) (show A.in1.units + 8 < cLine by rw [Around.in1_units]; omega) hk h2 dd ?_
  rw [get_isSome (keyD k) t h4 h7]
  exact q _ (I.tok _)
theorem n_notIn {p : Addr} {ks vs : List D} {k : D} {v : V} {u : Value} {Q : Value → Shared → Prop} (hu : A.units + 64 < cLine) (I : L2.Inv X pins σ H s) (ex : Ex Hk H) (hw : W.w = X.w) (h : DAt X.K W Hk H p ks vs) (rk : Rp X.K W Hk k v) (ok : okK k = true) (ru : RelV v u)
    (q : ∀ s', L2.Inv X pins σ H s' → Q (.bool (!(getK (keyD k) ks vs).isSome)) s') : wpAny (model X.prog X.w) A (compareOp .NotIn u (.ref p)) Q E s := by
  obtain ⟨o, xs, h1, h2, h3, h4, h5, h6, h7⟩ := h
  obtain ⟨ys, t, dd⟩ := dict_of I ex hw h1 h3 h4 h5 h6
  obtain ⟨a, e1, e2, hk⟩ := rp_is I ex rk ok ru
  subst e2
  refine notIn_keyed (knd := nestedKind X.prog X.w) (show A.in1.units + 8 < cLine by rw [Around.in1_units]; omega) hk h2 ⟨ys, dd, rfl⟩ ?_
  rw [valueAt_pairsH, Option.isSome_map, get_isSome (keyD k) t h4 h7]
  exact q _ (I.tok _)
theorem n_get {p : Addr} {ks vs : List D} {k d : D} {v : V} {u : Value} {Q : Value → Shared → Prop} (hu : A.units + 64 < cLine) (I : L2.Inv X pins σ H s) (ex : Ex Hk H) (hw : W.w = X.w) (h : DAt X.K W Hk H p ks vs) (rk : Rp X.K W Hk k v) (ok : okK k = true) (ru : RelV v u) (hg : getK (keyD k) ks vs = some d)
    (q : ∀ v' w' s', L2.Inv X pins σ H s' → Rp X.K W Hk d v' → RelV v' w' → Q w' s') : wpAny (model X.prog X.w) A (getItem (.ref p) u) Q E s := by
  obtain ⟨o, xs, h1, h2, h3, h4, h5, h6, h7⟩ := h
  obtain ⟨ys, t, dd⟩ := dict_of I ex hw h1 h3 h4 h5 h6
  obtain ⟨a, e1, e2, hk⟩ := rp_is I ex rk ok ru
  subst e2
  rcases get_rel (keyD k) t h4 h7 with ⟨d', v', u', a', g1, g2, g3, g4⟩ | ⟨g1, g2⟩
  · rw [hg] at g1
    cases g1
    exact wpAny_getItem_heap (knd := nestedKind X.prog X.w) (show A.in1.units + 8 < cLine by rw [Around.in1_units]; omega) hk dd g2 (q v' u' _ (I.tok _) g4 g3)
  · rw [hg] at g1; cases g1
theorem n_set {p : Addr} {ks vs : List D} {k y : D} {v z : V} {u r : Value} {Q : Unit → Shared → Prop} (hu : A.units + 64 < cLine) (I : L2.Inv X pins σ H s) (ex : Ex Hk H) (hw : W.w = X.w) (h : DAt X.K W Hk H p ks vs) (rk : Rp X.K W Hk k v) (ok : okK k = true) (ru : RelV v u) (ry : Rp X.K W Hk y z) (rz : RelV z r) (hl : ks.length < 1000000)
    (q : ∀ ob s', Ob X.K W Hk (putD ks vs k y) p ob → L2.Inv X pins σ (upd H p ob) s' → Q () s') : wpAny (model X.prog X.w) A (setItem (.ref p) u r) Q E s := by
  obtain ⟨o, xs, h1, h2, h3, h4, h5, h6, h7⟩ := h
  obtain ⟨ys, t, dd⟩ := dict_of I ex hw h1 h3 h4 h5 h6
  obtain ⟨a, e1, e2, hk⟩ := rp_is I ex rk ok ru
  subst e2 e1
  obtain ⟨_, _, _, _, _, _, _, _, nd⟩ := id dd
  have hl' : ys.length ≤ sizeLine := by
    rw [← trip_len t, ← List.length_map (f := fun x : NestedKey × Addr × V => x.1), h4, keysD_len, sizeLine_eq]; omega
  refine wpAny_setItem_heap (knd := nestedKind X.prog X.w) (hsz := hl') (show A.in1.units + 8 < cLine by rw [Around.in1_units]; omega) hk dd fun h' dd' hs => ?_
  obtain ⟨o', g1, g2⟩ := put_ob hw h2 t h4 h5 h6 h7 ok rk ry rz nd dd'
  exact q _ _ g2 (d_write I (by rw [h1]; exact True.intro) hs ⟨o', g1⟩ (obX_ok g1))
end
end Bk
set_option Elab.async false
set_option linter.all false
set_option maxRecDepth 100000
set_option maxHeartbeats 2000000
namespace Bk
open PySem L2
open Evl (Ex ex_l ex_t)
theorem trip_get : ∀ {xs : List (NestedKey × Addr × V)} {ys : List (NestedKey × Addr × Value)} {i : Nat} {x : NestedKey × Addr × V}, Trip xs ys → xs[i]? = some x → ∃ y, ys[i]? = some y ∧ x.1 = y.1 ∧ x.2.1 = y.2.1 ∧ RelV x.2.2 y.2.2
  | _, _, _, _, .nil, e => by simp at e
  | _, _, 0, _, .cons q _, e => by
    simp at e
    subst e
    exact ⟨_, rfl, q⟩
  | _, _, i + 1, x, .cons _ t, e => by
    obtain ⟨y, h1, h2⟩ := trip_get (i := i) t (by simpa using e)
    exact ⟨y, by simpa using h1, h2⟩
/-- the entries -/
theorem dc_entries {w : World} {o : Obj} {xs : List (NestedKey × Addr × V)} (h : DcIs w o xs) : o.ExactDict ∧ ∃ es ep, o.data = .dict es ep ∧ es.size = xs.length ∧ ∀ (i : Nat) (x : NestedKey × Addr × V), xs[i]? = some x → ∃ en : DictEntry, es[i]? = some en ∧ en.key = .ref x.2.1 ∧ RelV x.2.2 en.val := by
  obtain ⟨ys, t, h1, _, es, ep, h2, h3⟩ := h
  refine ⟨h1, es, ep, h2, ?_, fun i x hx => ?_⟩
  · rw [← Array.length_toList, h3, List.length_map]
    exact (trip_len t).symm
  · obtain ⟨y, q1, q2, q3, q4⟩ := trip_get t hx
    refine ⟨⟨y.1.hash w, .ref y.2.1, y.2.2⟩, ?_, by rw [q3], q4⟩
    rw [← Array.getElem?_toList, h3, List.getElem?_map, q1]
    rfl
/-- list(d) -/
theorem call_listX {X : Cx} (hc : X.calm = true) {pins : List (Addr × Obj)} {s : Shared} {σ : L2.St} {H : Hp} {d : Addr} {o : Obj} {xs : List (NestedKey × Addr × V)} {w : World} {Q : VK} (I : L2.Inv X pins σ H s) (hs : (d == sysModules) = false) (hd : H d = some (ObX d o)) (dc : DcIs w o xs) (hz : xs.length ≤ sizeLine)
    (q : ∀ p, H p = none → Q (.ref p) (upd H p (.lst (xs.map fun x => V.ref x.2.1)))) : wpAny (model X.prog X.w) X.A (call (.type "list") [.ref d]) (EP X pins σ Q) X.xe s := by
  obtain ⟨h1, es, ep, h2, h3, h4⟩ := dc_entries dc
  refine PySem.W.kdl_call (KdlSrc.rawDict (es := es) (ep := ep) hs) (I.ok.hd hc) ⟨o, obX_at I.hok hd, h1, h2⟩ (by rw [h3]; exact hz) fun h' tk acc c hk hn hi => ?_
  refine ⟨.ref s.heap.objs.size, upd H s.heap.objs.size (.lst (xs.map fun x => V.ref x.2.1)), I.laid hk (Nat.le_refl _) (show ObjOk X.prog X.w _ _ _ (.lst (xs.map fun x => V.ref x.2.1)) from ⟨by rw [List.length_map]; exact hz, acc.toList, c, ?_, by rw [Array.toArray_toList]; exact hn⟩), rfl, q _ (I.hok.fresh (Nat.le_refl _))⟩
  refine vals_of_at (by rw [List.length_map, ← h3, ← hi.1]; exact (Array.length_toList (xs := acc)).symm) fun j x u hx hu => ?_
  rw [List.getElem?_map, Option.map_eq_some_iff] at hx
  obtain ⟨z, hz1, hz2⟩ := hx
  obtain ⟨hj, e⟩ := hi.2 j u (by rw [← hu, Array.getElem?_toList])
  obtain ⟨en, he, hk1, _⟩ := h4 j z hz1
  have : es[j]? = some es[j] := Array.getElem?_eq_getElem hj
  rw [this] at he
  cases he
  rw [e, hk1, ← hz2]
  rfl
theorem each_of {X : Cx} {W : Wd} {Hk : Hp} : ∀ {ds : List D} {vs : List V} {us : List Value}, RpL X.K W Hk ds vs → Vals vs us → PySem.W.EachIs (fun (u : Value) (d : D) => ∃ y, Rp X.K W Hk d y ∧ RelV y u) us ds
  | [], vs, us, r, ru => by
    rw [show vs = [] from r] at ru
    cases ru
    exact .nil
  | d :: ds, vs, us, r, ru => by
    obtain ⟨y, ys, e, r1, r2⟩ := r
    subst e
    cases ru with
    | cons q1 q2 => exact .cons ⟨y, r1, q1⟩ (each_of r2 q2)
theorem of_each {X : Cx} {W : Wd} {Hk : Hp} : ∀ {ds : List D} {us : List Value}, PySem.W.EachIs (fun (u : Value) (d : D) => ∃ y, Rp X.K W Hk d y ∧ RelV y u) us ds → ∃ vs, RpL X.K W Hk ds vs ∧ Vals vs us
  | [], us, h => by
    cases h
    exact ⟨[], rfl, .nil⟩
  | d :: ds, us, h => by
    cases h with
    | cons q1 q2 =>
      obtain ⟨y, r1, r2⟩ := q1
      obtain ⟨vs, r3, r4⟩ := of_each q2
      exact ⟨y :: vs, .cons r1 r3, .cons r2 r4⟩
theorem depth_le : ∀ (ds : List D) (d : D), d ∈ ds → d.py.depth ≤ PyData.depthAll (pys ds)
  | [], d, h => by cases h
  | e :: ds, d, h => by
    simp only [pys, PyData.depthAll]
    rcases List.mem_cons.mp h with z | z
    · subst z; exact Nat.le_max_left _ _
    · exact Nat.le_trans (depth_le ds d z) (Nat.le_max_right _ _)
theorem call_sortd {X : Cx} {W : Wd} (hu : X.A.units + 66 < cLine) {pins : List (Addr × Obj)} {s : Shared} {σ : L2.St} {Hk H : Hp} {xs : List D} {ys : List V} {a : Addr} {Q : VK} (I : L2.Inv X pins σ H s) (ex : Ex Hk H) (hs : SqL X.K H a ys) (h : RpL X.K W Hk xs ys)
    (hk : alkD xs = true) (ht : xs.all (fun x => match x with | .tup (_ :: _) => true | _ => false) = true) (q : ∀ p acc, H p = none → RpL X.K W Hk (sortDD xs) acc → Q (.ref p) (upd H p (.lst acc))) : wpAny (model X.prog X.w) X.A (call (.builtin "sorted") [.ref a]) (EP X pins σ Q) X.xe s := by
  obtain ⟨hp, ha, hd⟩ := alkD_ok hk
  obtain ⟨its, rv, hl, hz⟩ := I.list hs
  have el : its.length = xs.length := by rw [← rv.length, h.len]
  have hpl : ∀ d ∈ xs, d.pl = true := fun d hd => pls_mem hp d hd
  have er : PySem.W.EachIs (fun v (b : D) => ∃ as, Reads s.heap v b.py as) its xs := by
    have key : ∀ {ds : List D} {us : List Value}, (∀ d ∈ ds, d.pl = true) → PySem.W.EachIs (fun (u : Value) (d : D) => ∃ y, Rp X.K W Hk d y ∧ RelV y u) us ds → PySem.W.EachIs (fun v (b : D) => ∃ as, Reads s.heap v b.py as) us ds := by
      intro ds
      induction ds with
      | nil => intro us _ z; cases z; exact .nil
      | cons d ds ih =>
        intro us hh z
        cases z with
        | cons q1 q2 =>
          obtain ⟨y, r1, r2⟩ := q1
          exact .cons (Dp.reads I d.py y _ ((r1.mono ex).dp (hh d List.mem_cons_self)) r2) (ih (fun e he => hh e (List.mem_cons_of_mem _ he)) q2)
    exact key hpl (each_of h rv)
  have hal : PySem.W.AllAlike (xs.map D.py) := fun d hd d' hd' => by
    obtain ⟨b, hb, rfl⟩ := List.mem_map.mp hd
    obtain ⟨b', hb', rfl⟩ := List.mem_map.mp hd'
    simp only [alkD, Bool.and_eq_true, List.all_eq_true] at hk
    exact hk.1.1.2 b hb b' hb'
  have hso : PySem.W.Sortable (xs.map D.py) := .inl fun d hd => by
    obtain ⟨b, hb, rfl⟩ := List.mem_map.mp hd
    have := List.all_eq_true.mp ht b hb
    cases b <;> (try (cases this; done))
    rename_i zs
    cases zs with
    | nil => cases this
    | cons z zs => exact ⟨z.py, pys zs, rfl⟩
  rw [show [Value.ref a] = [Value.ref a] from rfl]
  refine PySem.W.sorted_data (enc := D.py) hl.isList (each_of h rv) er hal hso (by rw [← h.len]; exact hz) (fun b hb => ?_) fun out ho e => ?_
  · have := depth_le xs b hb
    simp only [alkD, Bool.and_eq_true, decide_eq_true_eq] at hk
    have := hk.2
    omega
  · obtain ⟨acc, r1, r2⟩ := of_each e
    obtain ⟨ep, he⟩ := PyProof.Rows.sortedAll_at s.heap its out.toArray
    have len : acc.length ≤ sizeLine := by rw [r2.length, ho, ← h.len]; exact hz
    exact ⟨.ref _, upd H (s.heap.objs.size + 1) (.lst acc), I.laid (t' := s.toks) (fun _ _ => PyProof.Rows.sortedAll_old) (Nat.le_succ _) ⟨len, out, ep, r2, he⟩, rfl, q _ acc (I.hok.fresh (Nat.le_succ _)) r1⟩
theorem rg_rel {K : PySem.W.Frag} {W : Wd} {H : Hp} : ∀ (n : Nat) (a : Int), RpL K W H (rngD a n) ((List.range n).map fun i => V.int (a + (i : Nat)))
  | 0, _ => rfl
  | n + 1, a => by
    rw [List.range_succ_eq_map, List.map_cons, List.map_map]
    refine ⟨V.int a, _, ?_, rfl, rg_rel n (a + 1)⟩
    congr 1
    · simp
    · refine List.map_congr_left fun i _ => ?_
      simp only [Function.comp_def, V.int.injEq]
      omega
end Bk
set_option Elab.async false
set_option linter.all false
set_option maxRecDepth 100000
set_option maxHeartbeats 1000000
namespace Bk
open PySem L2
open Evl (Ex ex_l ex_t)
def rD (K : PySem.W.Frag) (W : Wd) (f : D → D → Option D) : R2 := fun x y H Q => ∃ g Hk dx dy d, Wk W g Hk H ∧ Rp K W Hk dx x ∧ Rp K W Hk dy y ∧ f dx dy = some d ∧
  ∀ v Hk' H', Step W Hk H Hk' H' → DrawAt W g H' → Rp K W Hk' d v → Q v H'
def rBi (K : PySem.W.Frag) (W : Wd) (f : List D → Option D) : List V → Hp → VK → Prop := fun vs H Q => ∃ g Hk ds d, Wk W g Hk H ∧ RpL K W Hk ds vs ∧ f ds = some d ∧
  ∀ v Hk' H', Step W Hk H Hk' H' → DrawAt W g H' → Rp K W Hk' d v → Q v H'
section
variable {K : PySem.W.Frag} {W : Wd} {Hk H : Hp} {g : G}
theorem size_le {n : Nat} (h : n ≤ 1000000) : n ≤ sizeLine := Nat.le_trans h (by decide)
theorem size_lt {n : Nat} (h : n < 1000000) : n < sizeLine := Nat.lt_of_lt_of_le h (by decide)
/-- a result that is new -/
theorem new_tup {Q : VK} {ds : List D} {xs : List V} (w : Wk W g Hk H) (r : RpL K W Hk ds xs) (q : ∀ v Hk' H', Step W Hk H Hk' H' → DrawAt W g H' → Rp K W Hk' (.tup ds) v → Q v H') :
    ∀ p, H p = none → Q (.ref p) (upd H p (.tup xs)) := fun p hp => by
  have s : Step W Hk H (upd Hk p (.tup xs)) (upd H p (.tup xs)) := Step.new w.ex hp
  exact q _ _ _ s (w.dr.new hp) ⟨p, xs, rfl, SqT.of upd_same, r.mono s.k⟩
theorem new_lst {Q : VK} {ds : List D} {xs : List V} (w : Wk W g Hk H) (r : RpL K W Hk ds xs) (q : ∀ v Hk' H', Step W Hk H Hk' H' → DrawAt W g H' → Rp K W Hk' (.lst ds) v → Q v H') :
    ∀ p, H p = none → Q (.ref p) (upd H p (.lst xs)) := fun p hp => by
  have s : Step W Hk H (upd Hk p (.lst xs)) (upd H p (.lst xs)) := Step.new w.ex hp
  exact q _ _ _ s (w.dr.new hp) ⟨p, xs, rfl, upd_same, r.mono s.k⟩
theorem same {Q : VK} {d : D} {v : V} (w : Wk W g Hk H) (r : Rp K W Hk d v) (q : ∀ v Hk' H', Step W Hk H Hk' H' → DrawAt W g H' → Rp K W Hk' d v → Q v H') : Q v H := q v Hk H (Step.refl w.ex) w.dr r
theorem sameI {Q : VK} {i : Int} (w : Wk W g Hk H) (q : ∀ v Hk' H', Step W Hk H Hk' H' → DrawAt W g H' → Rp K W Hk' (.int i) v → Q v H') : Q (.int i) H := same (d := .int i) w rfl q
theorem sameB {Q : VK} {i : Bool} (w : Wk W g Hk H) (q : ∀ v Hk' H', Step W Hk H Hk' H' → DrawAt W g H' → Rp K W Hk' (.bl i) v → Q v H') : Q (.bl i) H := same (d := .bl i) w rfl q
theorem sameS {Q : VK} {i : Str} (w : Wk W g Hk H) (q : ∀ v Hk' H', Step W Hk H Hk' H' → DrawAt W g H' → Rp K W Hk' (.str i) v → Q v H') : Q (.str i) H := same (d := .str i) w rfl q
theorem ixN_at (xs : List D) (vs : List V) (hl : vs.length = xs.length) (i : Int) : ∀ d, atD xs i = some d → ∃ j, ixN vs.length i = some j ∧ xs[j]? = some d := by
  intro d h
  unfold atD at h
  unfold ixN
  rw [hl]
  by_cases h0 : 0 ≤ i
  · rw [if_pos h0] at h ⊢
    obtain ⟨h1, _⟩ := List.getElem?_eq_some_iff.mp h
    have : i < (xs.length : Int) := by omega
    rw [if_pos this]
    exact ⟨_, rfl, h⟩
  · rw [if_neg h0] at h ⊢
    by_cases h1 : 0 ≤ i + xs.length
    · rw [if_pos h1] at h
      first
        | (rw [if_pos (by omega)]; exact ⟨_, rfl, by first | exact h | (rw [← h]; congr 1; omega)⟩)
        | (simp only [h1]; exact ⟨_, rfl, h⟩)
    · rw [if_neg h1] at h; cases h
theorem at_rel {ds : List D} {vs : List V} {i : Int} {d : D} (r : RpL K W H ds vs) (h : atD ds i = some d) : ∃ v, atI vs i = some v ∧ Rp K W H d v := by
  obtain ⟨j, e, hj⟩ := ixN_at ds vs r.len i d h
  obtain ⟨v, e2, r2⟩ := r.get hj
  exact ⟨v, by unfold atI; rw [e]; exact e2, r2⟩
theorem sIx_eq (n d : Nat) (o : Option Int) : HT.sIx n d o = sIxD n d o := by cases o <;> rfl
theorem cut_rel {ds : List D} {vs : List V} {lo hi : Option Int} (r : RpL K W H ds vs) : RpL K W H (cutD ds lo hi) (cutV vs lo hi) := by
  unfold cutD cutV
  rw [r.len, sIx_eq, sIx_eq]
  exact (r.drop _).take _
theorem cutD_whole {ds : List D} {lo hi : Option Int} (h : sIxD ds.length 0 lo = 0 ∧ sIxD ds.length ds.length hi = ds.length) : cutD ds lo hi = ds := by
  unfold cutD
  rw [h.1, h.2]
  simp
end
section
variable {X : Cx} {W : Wd}
def opOf : Op → Operator
  | .add => .Add
  | .sub => .Sub
  | .mul => .Mult
  | .div => .FloorDiv
  | .mod => .Mod
  | .pow => .Pow
theorem int_of {K : PySem.W.Frag} {Hk : Hp} {i : Int} {v : V} (h : Rp K W Hk (.int i) v) : v = .int i := h
theorem op_D (o : Op) : OpR X (binaryOp (opOf o)) (rD X.K W (opD o)) := by
  intro pins s σ H x y v u Q I rx ry h
  obtain ⟨g, Hk, dx, dy, d, w, r1, r2, e, q⟩ := h
  cases o <;> cases dx <;> cases dy <;> (try (simp only [opD] at e; cases e; done)) <;> simp only [opD] at e
  case add.int.int i j =>
    cases e
    rw [int_of r1] at rx
    rw [int_of r2] at ry
    exact op_add pins s σ H _ _ v u Q I rx ry ⟨i, j, rfl, rfl, sameI w q⟩
  case sub.int.int i j =>
    cases e
    rw [int_of r1] at rx
    rw [int_of r2] at ry
    exact op_sub pins s σ H _ _ v u Q I rx ry ⟨i, j, rfl, rfl, sameI w q⟩
  case mul.int.int i j =>
    by_cases hm : MulOk i j = true
    · rw [if_pos hm] at e
      cases e
      rw [int_of r1] at rx
      rw [int_of r2] at ry
      exact op_mulW pins s σ H _ _ v u Q I rx ry ⟨i, j, rfl, rfl, (show i.natAbs.log2 + j.natAbs.log2 < 1000000 from of_decide_eq_true hm), sameI w q⟩
    · rw [if_neg hm] at e; cases e
  case div.int.int i j =>
    by_cases hm : DivOk j = true
    · rw [if_pos hm] at e
      cases e
      rw [int_of r1] at rx
      rw [int_of r2] at ry
      unfold DivOk at hm
      simp only [Bool.and_eq_true, decide_eq_true_eq] at hm
      exact op_fdivW pins s σ H _ _ v u Q I rx ry ⟨i, j, rfl, rfl, hm, sameI w q⟩
    · rw [if_neg hm] at e; cases e
  case mod.int.int i j =>
    by_cases hm : 0 < j
    · rw [if_pos hm] at e
      cases e
      rw [int_of r1] at rx
      rw [int_of r2] at ry
      exact op_mod pins s σ H _ _ v u Q I rx ry ⟨i, j, rfl, rfl, hm, sameI w q⟩
    · rw [if_neg hm] at e; cases e
  case pow.int.int i j =>
    split at e
    · rename_i hm
      cases e
      rw [int_of r1] at rx
      rw [int_of r2] at ry
      exact op_pow pins s σ H _ _ v u Q I rx ry ⟨i, j, rfl, rfl, ⟨hm.1, Int.le_trans hm.2.1 (by decide), hm.2.2⟩, sameI w q⟩
    · cases e
  case add.tup.tup xs ys =>
    split at e
    · rename_i hz
      cases e
      obtain ⟨a, vs, rfl, h1, h2⟩ := r1
      obtain ⟨b, us, rfl, h3, h4⟩ := r2
      refine op_catA pins s σ H _ _ v u Q I rx ry ⟨a, b, vs, us, rfl, rfl, ex_t w.ex h1, ex_t w.ex h3, size_le (by rw [h2.len, h4.len]; exact hz), fun z => ?_, fun _ z => ?_, fun _ _ => new_tup w (h2.append h4) q⟩
      · subst z
        have : xs = [] := by
          have := h2.len
          cases xs with
          | nil => rfl
          | cons _ _ => simp at this
        subst this
        exact same (d := .tup ys) w ⟨b, us, rfl, h3, h4⟩ q
      · subst z
        have : ys = [] := by
          have := h4.len
          cases ys with
          | nil => rfl
          | cons _ _ => simp at this
        subst this
        rw [List.append_nil] at q
        exact same (d := .tup xs) w ⟨a, vs, rfl, h1, h2⟩ q
    · cases e
  case add.lst.lst xs ys =>
    split at e
    · rename_i hz
      cases e
      obtain ⟨a, vs, rfl, h1, h2⟩ := r1
      obtain ⟨b, us, rfl, h3, h4⟩ := r2
      exact op_cat pins s σ H _ _ v u Q I rx ry ⟨a, b, vs, us, rfl, rfl, w.ex _ _ h1, w.ex _ _ h3, size_le (by rw [h2.len, h4.len]; exact hz), new_lst w (h2.append h4) q⟩
    · cases e
  case mul.lst.int xs k =>
    split at e
    · rename_i hz
      cases e
      obtain ⟨a, vs, rfl, h1, h2⟩ := r1
      rw [int_of r2] at ry
      refine op_rep pins s σ H _ _ v u Q I rx ry ⟨a, k, vs, rfl, rfl, w.ex _ _ h1, by have := hz.2.2; omega, by have := hz.2.1; omega, size_le (by rw [h2.len]; exact hz.1), new_lst w (h2.rep _) q⟩
    · cases e
  case mul.tup.int xs k =>
    split at e
    · rename_i hz
      cases e
      obtain ⟨a, vs, rfl, h1, h2⟩ := r1
      rw [int_of r2] at ry
      by_cases hk : k = 1
      · subst hk
        refine op_repT1 pins s σ H _ _ v u Q I rx ry ⟨a, vs, rfl, rfl, ex_t w.ex h1, ?_⟩
        have e1 : (List.replicate (1 : Int).toNat xs).flatten = xs := by simp
        rw [e1] at q
        exact same (d := .tup xs) w ⟨a, vs, rfl, h1, h2⟩ q
      refine op_repT pins s σ H _ _ v u Q I rx ry ⟨a, k, vs, rfl, rfl, ex_t w.ex h1, fun z => hz.1 ?_, by have := hz.2.1; omega, hz.2.2.1, by rw [h2.len]; exact hz.2.2.2, new_tup w (h2.rep _) q⟩
      have := h2.len
      rw [z] at this
      exact List.eq_nil_of_length_eq_zero this.symm
    · cases e
  case add.str.str a b =>
    split at e
    · rename_i hz
      cases e
      rw [show x = .str a from r1] at rx
      rw [show y = .str b from r2] at ry
      exact op_add_str pins s σ H _ _ v u Q I rx ry ⟨a, b, rfl, rfl, size_le hz, sameS w q⟩
    · cases e
def cmOf : Cm → CmpOp
  | .eq => .Eq
  | .ne => .NotEq
  | .lt => .Lt
  | .le => .LtE
  | .gt => .Gt
  | .ge => .GtE
  | .isin => .In
  | .notin => .NotIn
  | .isN => .Is
  | .notN => .IsNot
theorem in_of {x y : D} {b : Bool} (h : cmpD .isin x y = some b) : (∃ ys, (y = .tup ys ∨ y = .lst ys) ∧ (flatD x && ys.all flatD) = true ∧ b = inF x ys) ∨ (∃ ys, (y = .tup ys ∨ y = .lst ys) ∧ (x.pl && pls ys && decide (x.py.depth ≤ 60)) = true ∧ b = (ys.any fun y => PyData.eqv y.py x.py)) ∨ ∃ ks vs, y = .dct ks vs ∧ okK x = true ∧ b = (getK (keyD x) ks vs).isSome := by
  have key : ∀ ys, (if flatD x && ys.all flatD then some (inF x ys) else if x.pl && pls ys && decide (x.py.depth ≤ 60) then some (ys.any fun y => PyData.eqv y.py x.py) else none) = some b → ((flatD x && ys.all flatD) = true ∧ b = inF x ys) ∨ (x.pl && pls ys && decide (x.py.depth ≤ 60)) = true ∧ b = (ys.any fun y => PyData.eqv y.py x.py) := by
    intro ys h
    split at h
    · rename_i c; cases h; exact .inl ⟨c, rfl⟩
    · split at h
      · rename_i c; cases h; exact .inr ⟨c, rfl⟩
      · cases h
  cases y with
  | tup ys =>
    have h : (if flatD x && ys.all flatD then some (inF x ys) else if x.pl && pls ys && decide (x.py.depth ≤ 60) then some (ys.any fun y => PyData.eqv y.py x.py) else none) = some b := by cases x <;> exact h
    rcases key ys h with ⟨a, c⟩ | ⟨a, c⟩
    · exact .inl ⟨ys, .inl rfl, a, c⟩
    · exact .inr (.inl ⟨ys, .inl rfl, a, c⟩)
  | lst ys =>
    have h : (if flatD x && ys.all flatD then some (inF x ys) else if x.pl && pls ys && decide (x.py.depth ≤ 60) then some (ys.any fun y => PyData.eqv y.py x.py) else none) = some b := by cases x <;> exact h
    rcases key ys h with ⟨a, c⟩ | ⟨a, c⟩
    · exact .inl ⟨ys, .inr rfl, a, c⟩
    · exact .inr (.inl ⟨ys, .inr rfl, a, c⟩)
  | dct ks vs =>
    refine .inr (.inr ?_)
    cases x <;> (simp only [cmpD] at h; split at h <;> first | (rename_i c; cases h; exact ⟨ks, vs, rfl, c, rfl⟩) | cases h)
  | _ => cases x <;> (simp only [cmpD] at h; cases h)
theorem notin_of {x y : D} {b : Bool} (h : cmpD .notin x y = some b) : (∃ ys, (y = .tup ys ∨ y = .lst ys) ∧ (flatD x && ys.all flatD) = true ∧ b = !inF x ys) ∨ (∃ ys, (y = .tup ys ∨ y = .lst ys) ∧ (x.pl && pls ys && decide (x.py.depth ≤ 60)) = true ∧ b = (!(ys.any fun y => PyData.eqv y.py x.py))) ∨ ∃ ks vs, y = .dct ks vs ∧ okK x = true ∧ b = !(getK (keyD x) ks vs).isSome := by
  have key : ∀ ys, (if flatD x && ys.all flatD then some (!inF x ys) else if x.pl && pls ys && decide (x.py.depth ≤ 60) then some (!(ys.any fun y => PyData.eqv y.py x.py)) else none) = some b → ((flatD x && ys.all flatD) = true ∧ b = !inF x ys) ∨ (x.pl && pls ys && decide (x.py.depth ≤ 60)) = true ∧ b = (!(ys.any fun y => PyData.eqv y.py x.py)) := by
    intro ys h
    split at h
    · rename_i c; cases h; exact .inl ⟨c, rfl⟩
    · split at h
      · rename_i c; cases h; exact .inr ⟨c, rfl⟩
      · cases h
  cases y with
  | tup ys =>
    have h : (if flatD x && ys.all flatD then some (!inF x ys) else if x.pl && pls ys && decide (x.py.depth ≤ 60) then some (!(ys.any fun y => PyData.eqv y.py x.py)) else none) = some b := by cases x <;> exact h
    rcases key ys h with ⟨a, c⟩ | ⟨a, c⟩
    · exact .inl ⟨ys, .inl rfl, a, c⟩
    · exact .inr (.inl ⟨ys, .inl rfl, a, c⟩)
  | lst ys =>
    have h : (if flatD x && ys.all flatD then some (!inF x ys) else if x.pl && pls ys && decide (x.py.depth ≤ 60) then some (!(ys.any fun y => PyData.eqv y.py x.py)) else none) = some b := by cases x <;> exact h
    rcases key ys h with ⟨a, c⟩ | ⟨a, c⟩
    · exact .inl ⟨ys, .inr rfl, a, c⟩
    · exact .inr (.inl ⟨ys, .inr rfl, a, c⟩)
  | dct ks vs =>
    refine .inr (.inr ?_)
    cases x <;> (simp only [cmpD] at h; split at h <;> first | (rename_i c; cases h; exact ⟨ks, vs, rfl, c, rfl⟩) | cases h)
  | _ => cases x <;> (simp only [cmpD] at h; cases h)
theorem flat_one {K : PySem.W.Frag} {Hk : Hp} {d : D} {v : V} (h : flatD d = true) (r : Rp K W Hk d v) : flatV v = true ∧ ∀ e u, flatD e = true → Rp K W Hk e u → eqV u v = eqF e d := by
  cases d with
  | non => rw [show v = .non from r]; exact ⟨rfl, fun e u he re => by cases e <;> first | (rw [show u = _ from re]; rfl) | cases he⟩
  | bl b => rw [show v = .bl b from r]; exact ⟨rfl, fun e u he re => by cases e <;> first | (rw [show u = _ from re]; rfl) | cases he⟩
  | int b => rw [show v = .int b from r]; exact ⟨rfl, fun e u he re => by cases e <;> first | (rw [show u = _ from re]; rfl) | cases he⟩
  | str b => rw [show v = .str b from r]; exact ⟨rfl, fun e u he re => by cases e <;> first | (rw [show u = _ from re]; rfl) | cases he⟩
  | _ => cases h
theorem flat_all {K : PySem.W.Frag} {Hk : Hp} : ∀ {ds : List D} {vs : List V}, ds.all flatD = true → RpL K W Hk ds vs → vs.all flatV = true ∧ True
  | [], vs, _, r => by rw [show vs = [] from r]; exact ⟨rfl, trivial⟩
  | d :: ds, vs, h, r => by
    obtain ⟨y, ys, rfl, r1, r2⟩ := r
    simp only [List.all_cons, Bool.and_eq_true] at h ⊢
    exact ⟨⟨(flat_one h.1 r1).1, (flat_all h.2 r2).1⟩, trivial⟩
theorem inF_eq {K : PySem.W.Frag} {Hk : Hp} {d : D} {v : V} (h : flatD d = true) : ∀ {ds : List D} {vs : List V}, ds.all flatD = true → Rp K W Hk d v → RpL K W Hk ds vs → inF d ds = inV v vs
  | [], vs, _, r, rs => by rw [show vs = [] from rs]; rfl
  | e :: ds, vs, hs, r, rs => by
    obtain ⟨y, ys, rfl, r1, r2⟩ := rs
    simp only [List.all_cons, Bool.and_eq_true] at hs
    have ih := inF_eq h hs.2 r r2
    unfold inF inV at ih ⊢
    simp only [List.any_cons]
    rw [ih, (flat_one h r).2 e y hs.1 r1]
theorem dpsO_ints {K : PySem.W.Frag} (H : Hp) : ∀ ns : List Int, DpAll K H (ns.map V.int) (ns.map PyData.int)
  | [] => .nil
  | n :: ns => .cons (.int n) (dpsO_ints H ns)
theorem clO : ∀ ns : List Int, PyData.canLayAll0 (ns.map PyData.int) = true
  | [] => rfl
  | n :: ns => by show (true && PyData.canLayAll0 (ns.map PyData.int)) = true; rw [clO ns]; rfl
theorem dpO : ∀ ns : List Int, PyData.depthAll (ns.map PyData.int) = 0
  | [] => rfl
  | n :: ns => by show max 0 (PyData.depthAll (ns.map PyData.int)) = 0; rw [dpO ns]; rfl
theorem shO (ns : List Int) : SeqAt.shaped (.list (ns.map PyData.int)) = true := by
  show (PyData.canLayAll0 (ns.map PyData.int) && decide (PyData.depthAll (ns.map PyData.int) + 1 ≤ 64)) = true
  rw [clO, dpO]
  rfl
theorem eqvO (ns : List Int) : PyData.eqv (.list (ns.map PyData.int)) (.list []) = ns.isEmpty := by
  cases ns <;> rfl
/-- held against an empty list, an empty tuple -/
theorem em_both (hu : X.A.units + 64 < cLine) {pins : List (Addr × Obj)} {σ : L2.St} {H : Hp} {s : Shared} {dx dy : D} {x y : V} {v u : Value} {b : Bool} (I : L2.Inv X pins σ H s) (r1 : Rp X.K W H dx x) (r2 : Rp X.K W H dy y) (rx : RelV x v) (ry : RelV y u) (h : emEq dx dy = some b) :
    wpAny (model X.prog X.w) X.A (compareOp .Eq v u) (EP X pins σ (fun z H' => z = .bl b ∧ H' = H)) X.xe s ∧ wpAny (model X.prog X.w) X.A (compareOp .NotEq v u) (EP X pins σ (fun z H' => z = .bl (!b) ∧ H' = H)) X.xe s := by
  unfold emEq at h
  split at h
  · rename_i xs
    cases h
    obtain ⟨p, vs, rfl, h1, h2⟩ := r1
    obtain ⟨q, us, rfl, h3, h4⟩ := r2
    cases rx
    cases ry
    rw [show us = [] from h4] at h3
    obtain ⟨z, its, n, r, hl, e⟩ := I.lstM h1
    obtain ⟨z2, its2, n2, r2, hl2, e2⟩ := I.lstM h3
    have l1 : s.heap.IsList p its.toArray := PySem.IsL.isList e
    have l2 : s.heap.IsList q its2.toArray := PySem.IsL.isList e2
    have z0 : its2 = [] := List.eq_nil_of_length_eq_zero (by rw [← hl2]; rfl)
    subst z0
    have hln := h2.len
    cases xs with
    | nil =>
      have z1 : its = [] := List.eq_nil_of_length_eq_zero (by rw [← hl, hln]; rfl)
      subst z1
      exact ⟨SeqAt.eq_listAt (e := fun _ => true) l1 l2 rfl (by omega) (fun j hj => absurd hj (by simp)) ⟨.bl true, H, I, rfl, rfl, rfl⟩, SeqAt.RcNeAt.lists (e := fun _ => true) l1 l2 rfl (by omega) (fun j hj => absurd hj (by simp)) X.prog X.w X.xe _ ⟨.bl false, H, I, rfl, rfl, rfl⟩⟩
    | cons x xs =>
      have hz : (its.toArray.size != ([] : List Value).toArray.size) = true := by
        cases its with
        | nil => rw [hln] at hl; simp at hl
        | cons _ _ => simp
      exact ⟨SeqAt.eq_list_lengthsAt l1 l2 hz (by omega) ⟨.bl false, H, I, rfl, rfl, rfl⟩, SeqAt.RcNeAt.lists_lengths l1 l2 hz (by omega) X.prog X.w X.xe _ ⟨.bl true, H, I, rfl, rfl, rfl⟩⟩
  · rename_i xs
    cases h
    obtain ⟨p, vs, rfl, h1, h2⟩ := r1
    obtain ⟨q, us, rfl, h3, h4⟩ := r2
    cases rx
    cases ry
    rw [show us = [] from h4] at h3
    obtain ⟨its, rv, ht, hz⟩ := I.tuple h1
    obtain ⟨its2, rv2, ht2, hz2⟩ := I.tuple h3
    cases rv2
    have hn : its.length = xs.length := by rw [← rv.length, h2.len]
    have fin : ((List.range (min its.toArray.size ([] : List Value).toArray.size)).all (fun _ => true) && its.toArray.size == ([] : List Value).toArray.size) = xs.isEmpty := by
      rw [List.size_toArray, hn]
      cases xs <;> simp
    refine ⟨SeqAt.eq_tupleAt (e := fun _ => true) (show s.heap.IsTuple p its.toArray from ht) (show s.heap.IsTuple q ([] : List Value).toArray from ht2) (by omega) (fun j h1 h2 => absurd h2 (by simp)) ?_, SeqAt.RcNeAt.tuples (e := fun _ => true) (show s.heap.IsTuple p its.toArray from ht) (show s.heap.IsTuple q ([] : List Value).toArray from ht2) (by omega) (fun j h1 h2 => absurd h2 (by simp)) X.prog X.w X.xe _ ?_⟩
    · rw [fin]; exact ⟨.bl _, H, I, rfl, rfl, rfl⟩
    · rw [fin]; exact ⟨.bl _, H, I, rfl, rfl, rfl⟩
  · cases h
theorem cmp_D (hu : X.A.units + 64 < cLine) (hw : W.w = X.w) (o : Cm) : OpR X (compareOp (cmOf o)) (rD X.K W fun a b => (cmpD o a b).map .bl) := by
  intro pins s σ H x y v u Q I rx ry h
  obtain ⟨g, Hk, dx, dy, d, w, r1, r2, e, q⟩ := h
  have eqc : ∀ b, (if dx.pl && dy.pl && SeqAt.shaped dx.py && SeqAt.shaped dy.py then some (PyData.eqv dx.py dy.py) else emEq dx dy) = some b → wpAny (model X.prog X.w) X.A (compareOp .Eq v u) (EP X pins σ (fun z H' => z = .bl b ∧ H' = H)) X.xe s := by
    intro b hb
    split at hb
    · rename_i hc
      simp only [Bool.and_eq_true] at hc
      cases hb
      exact op_eqD hu pins s σ H _ _ v u _ I rx ry ⟨_, _, (r1.mono w.ex).dp hc.1.1.1, (r2.mono w.ex).dp hc.1.1.2, hc.1.2, hc.2, rfl, rfl⟩
    · exact (em_both hu I (r1.mono w.ex) (r2.mono w.ex) rx ry hb).1
  have nec : ∀ b, (if dx.pl && dy.pl && SeqAt.shaped dx.py && SeqAt.shaped dy.py then some (!PyData.eqv dx.py dy.py) else (emEq dx dy).map (!·)) = some b → wpAny (model X.prog X.w) X.A (compareOp .NotEq v u) (EP X pins σ (fun z H' => z = .bl b ∧ H' = H)) X.xe s := by
    intro b hb
    split at hb
    · rename_i hc
      simp only [Bool.and_eq_true] at hc
      cases hb
      exact op_neD hu pins s σ H _ _ v u _ I rx ry ⟨_, _, (r1.mono w.ex).dp hc.1.1.1, (r2.mono w.ex).dp hc.1.1.2, hc.1.2, hc.2, rfl, rfl⟩
    · obtain ⟨b0, e0, rfl⟩ := Option.map_eq_some_iff.mp hb
      exact (em_both hu I (r1.mono w.ex) (r2.mono w.ex) rx ry e0).2
  obtain ⟨b, eb, rfl⟩ := Option.map_eq_some_iff.mp e
  have fin : Q (.bl b) H := sameB w q
  have go : ∀ {op : CmpOp}, wpAny (model X.prog X.w) X.A (compareOp op v u) (EP X pins σ (fun z H' => z = .bl b ∧ H' = H)) X.xe s → wpAny (model X.prog X.w) X.A (compareOp op v u) (EP X pins σ Q) X.xe s := fun h =>
    thn h fun z s' ⟨zv, H', I', r', e1, e2⟩ => ⟨zv, H', I', r', by rw [e1, e2]; exact fin⟩
  have fin' : (fun (z : V) (H' : Hp) => z = V.bl b ∧ H' = H) (.bl b) H := ⟨rfl, rfl⟩
  cases o with
  | eq =>
    refine go ?_
    cases dx with
    | int i =>
      cases dy with
      | int j =>
        simp only [cmpD, Option.some.injEq] at eb
        subst eb
        rw [int_of r1] at rx
        rw [int_of r2] at ry
        exact op_eq pins s σ H _ _ v u _ I rx ry ⟨rfl, by simp, rfl⟩
      | _ => exact eqc b eb
    | str i =>
      cases dy with
      | str j =>
        simp only [cmpD, Option.some.injEq] at eb
        subst eb
        have r1 : x = .str i := r1
        have r2 : y = .str j := r2
        rw [r1] at rx
        rw [r2] at ry
        exact op_eq pins s σ H _ _ v u _ I rx ry ⟨rfl, by simp, rfl⟩
      | _ => exact eqc b eb
    | scr ns =>
      cases dy with
      | lst ys =>
        cases ys with
        | nil =>
          simp only [cmpD, Option.some.injEq] at eb
          subst eb
          obtain ⟨a, rfl, h1⟩ := r1.mono w.ex
          obtain ⟨a2, xs, rfl, h2, h3⟩ := r2.mono w.ex
          have h3 : xs = [] := h3
          subst h3
          exact op_eqD hu pins s σ H _ _ v u _ I rx ry ⟨_, _, .lst h1 (dpsO_ints H ns), .lst (SqL.of h2) .nil, shO ns, by decide, by rw [eqvO], rfl⟩
        | cons _ _ => exact eqc b eb
      | _ => exact eqc b eb
    | _ => exact eqc b eb
  | ne =>
    refine go ?_
    cases dx with
    | int i =>
      cases dy with
      | int j =>
        simp only [cmpD, Option.some.injEq] at eb
        subst eb
        rw [int_of r1] at rx
        rw [int_of r2] at ry
        exact op_ne pins s σ H _ _ v u _ I rx ry ⟨rfl, by simp, rfl⟩
      | _ => exact nec b eb
    | str i =>
      cases dy with
      | str j =>
        simp only [cmpD, Option.some.injEq] at eb
        subst eb
        have r1 : x = .str i := r1
        have r2 : y = .str j := r2
        rw [r1] at rx
        rw [r2] at ry
        exact op_ne pins s σ H _ _ v u _ I rx ry ⟨rfl, by simp, rfl⟩
      | _ => exact nec b eb
    | _ => exact nec b eb
  | lt =>
    have kk : (∃ i j, dx = .int i ∧ dy = .int j) ∨ (∃ xs ys, dx = .tup xs ∧ dy = .tup ys) := by
      cases dx <;> cases dy <;> first | exact .inl ⟨_, _, rfl, rfl⟩ | exact .inr ⟨_, _, rfl, rfl⟩ | (simp only [cmpD] at eb; cases eb; done)
    rcases kk with ⟨i, j, e1, e2⟩ | ⟨xs, ys, e1, e2⟩
    · subst e1 e2
      rw [int_of r1] at rx
      rw [int_of r2] at ry
      simp only [cmpD, Option.some.injEq] at eb
      subst eb
      exact op_lt pins s σ H _ _ v u Q I rx ry ⟨_, _, rfl, rfl, fin⟩
    · subst e1 e2
      have eb : (if pls xs && pls ys && PySem.W.alike (D.tup xs).py (D.tup ys).py && decide ((D.tup xs).py.depth ≤ 60) then some (PySem.W.dataLt (D.tup xs).py (D.tup ys).py) else none) = some b := eb
      split at eb
      · rename_i hc
        simp only [Bool.and_eq_true, decide_eq_true_eq] at hc
        obtain ⟨⟨⟨h1, h2⟩, h3⟩, h4⟩ := hc
        cases eb
        obtain ⟨as, ra⟩ := Dp.reads I (D.tup xs).py x v ((r1.mono w.ex).dp (d := .tup xs) h1) rx
        obtain ⟨bs, rb⟩ := Dp.reads I (D.tup ys).py y u ((r2.mono w.ex).dp (d := .tup ys) h2) ry
        exact PySem.W.rcLt_alike _ _ X.A s v u as bs ra rb h3 (by simp [D.py]) (by omega) X.prog X.w X.xe (EP X pins σ Q) ⟨.bl _, H, I, rfl, fin⟩
      · cases eb
  | le =>
    cases dx <;> cases dy <;> (try (simp only [cmpD] at eb; cases eb; done))
    rw [int_of r1] at rx
    rw [int_of r2] at ry
    simp only [cmpD, Option.some.injEq] at eb
    subst eb
    exact op_le pins s σ H _ _ v u Q I rx ry ⟨_, _, rfl, rfl, fin⟩
  | gt =>
    cases dx <;> cases dy <;> (try (simp only [cmpD] at eb; cases eb; done))
    rw [int_of r1] at rx
    rw [int_of r2] at ry
    simp only [cmpD, Option.some.injEq] at eb
    subst eb
    exact op_gt pins s σ H _ _ v u Q I rx ry ⟨_, _, rfl, rfl, fin⟩
  | ge =>
    cases dx <;> cases dy <;> (try (simp only [cmpD] at eb; cases eb; done))
    rw [int_of r1] at rx
    rw [int_of r2] at ry
    simp only [cmpD, Option.some.injEq] at eb
    subst eb
    exact op_ge pins s σ H _ _ v u Q I rx ry ⟨_, _, rfl, rfl, fin⟩
  | isin =>
    rcases in_of (show cmpD .isin dx dy = some b from eb) with ⟨ys, hy, hc, rfl⟩ | ⟨ys, hy, hc, rfl⟩ | ⟨ks, vs, hy, hc, rfl⟩
    rotate_left
    · simp only [Bool.and_eq_true, decide_eq_true_eq] at hc
      obtain ⟨⟨h1, h2⟩, h3⟩ := hc
      obtain ⟨as, ra⟩ := Dp.reads I dx.py x v ((r1.mono w.ex).dp h1) rx
      have ea : ((pys ys).any fun y => PyData.eqv y dx.py) = ys.any fun y => PyData.eqv y.py dx.py := by rw [pys_map, List.any_map]; rfl
      rcases hy with hy | hy
      · subst hy
        obtain ⟨bs, rb⟩ := Dp.reads I (D.tup ys).py y u ((r2.mono w.ex).dp (d := .tup ys) h2) ry
        exact SeqAt.in_tuple_data (xs := pys ys) rb ra (plains_py ys h2) (plain_py dx h1) (by omega) ⟨.bl _, H, I, rfl, by rw [ea]; exact fin⟩
      · subst hy
        obtain ⟨bs, rb⟩ := Dp.reads I (D.lst ys).py y u ((r2.mono w.ex).dp (d := .lst ys) h2) ry
        exact SeqAt.in_list_data (xs := pys ys) rb ra (plains_py ys h2) (plain_py dx h1) (by omega) ⟨.bl _, H, I, rfl, by rw [ea]; exact fin⟩
    · subst hy
      obtain ⟨a, o, xs, rfl, h1, h2⟩ := r2
      have e2 : u = Value.ref a := ry
      subst e2
      exact n_in hu I w.ex hw ⟨o, xs, w.ex _ _ h1, h2⟩ r1 hc rx fun s' I' => ⟨.bl _, _, I', rfl, fin⟩
    rcases hy with hy | hy
    · subst hy
      obtain ⟨a, us, rfl, h1, h2⟩ := r2
      simp only [Bool.and_eq_true] at hc
      obtain ⟨f1, f2⟩ := flat_all hc.2 h2
      obtain ⟨f3, f4⟩ := flat_one hc.1 r1
      refine op_in_seq pins s σ H _ _ v u Q I rx ry ⟨a, us, rfl, .inr (ex_t w.ex h1), f3, f1, ?_⟩
      simp only [Bool.false_eq_true, if_false]
      rw [← inF_eq hc.1 hc.2 r1 h2]
      exact fin
    · subst hy
      obtain ⟨a, us, rfl, h1, h2⟩ := r2
      simp only [Bool.and_eq_true] at hc
      obtain ⟨f1, f2⟩ := flat_all hc.2 h2
      obtain ⟨f3, f4⟩ := flat_one hc.1 r1
      refine op_in_seq pins s σ H _ _ v u Q I rx ry ⟨a, us, rfl, .inl (SqL.of (w.ex _ _ h1)), f3, f1, ?_⟩
      simp only [Bool.false_eq_true, if_false]
      rw [← inF_eq hc.1 hc.2 r1 h2]
      exact fin
  | notin =>
    rcases notin_of (show cmpD .notin dx dy = some b from eb) with ⟨ys, hy, hc, rfl⟩ | ⟨ys, hy, hc, rfl⟩ | ⟨ks, vs, hy, hc, rfl⟩
    rotate_left
    · simp only [Bool.and_eq_true, decide_eq_true_eq] at hc
      obtain ⟨⟨h1, h2⟩, h3⟩ := hc
      obtain ⟨as, ra⟩ := Dp.reads I dx.py x v ((r1.mono w.ex).dp h1) rx
      have ea : ((pys ys).any fun y => PyData.eqv y dx.py) = ys.any fun y => PyData.eqv y.py dx.py := by rw [pys_map, List.any_map]; rfl
      rcases hy with hy | hy
      · subst hy
        obtain ⟨bs, rb⟩ := Dp.reads I (D.tup ys).py y u ((r2.mono w.ex).dp (d := .tup ys) h2) ry
        exact SeqAt.notIn_tuple_data (xs := pys ys) rb ra (plains_py ys h2) (plain_py dx h1) (by omega) ⟨.bl _, H, I, rfl, by rw [ea]; exact fin⟩
      · subst hy
        obtain ⟨bs, rb⟩ := Dp.reads I (D.lst ys).py y u ((r2.mono w.ex).dp (d := .lst ys) h2) ry
        exact SeqAt.notIn_list_data (xs := pys ys) rb ra (plains_py ys h2) (plain_py dx h1) (by omega) ⟨.bl _, H, I, rfl, by rw [ea]; exact fin⟩
    · subst hy
      obtain ⟨a, o, xs, rfl, h1, h2⟩ := r2
      have e2 : u = Value.ref a := ry
      subst e2
      exact n_notIn hu I w.ex hw ⟨o, xs, w.ex _ _ h1, h2⟩ r1 hc rx fun s' I' => ⟨.bl _, _, I', rfl, fin⟩
    rcases hy with hy | hy
    · subst hy
      obtain ⟨a, us, rfl, h1, h2⟩ := r2
      simp only [Bool.and_eq_true] at hc
      obtain ⟨f1, f2⟩ := flat_all hc.2 h2
      obtain ⟨f3, f4⟩ := flat_one hc.1 r1
      refine op_notIn_seq pins s σ H _ _ v u Q I rx ry ⟨a, us, rfl, .inr (ex_t w.ex h1), f3, f1, ?_⟩
      simp only [if_true]
      rw [← inF_eq hc.1 hc.2 r1 h2]
      exact fin
    · subst hy
      obtain ⟨a, us, rfl, h1, h2⟩ := r2
      simp only [Bool.and_eq_true] at hc
      obtain ⟨f1, f2⟩ := flat_all hc.2 h2
      obtain ⟨f3, f4⟩ := flat_one hc.1 r1
      refine op_notIn_seq pins s σ H _ _ v u Q I rx ry ⟨a, us, rfl, .inl (SqL.of (w.ex _ _ h1)), f3, f1, ?_⟩
      simp only [if_true]
      rw [← inF_eq hc.1 hc.2 r1 h2]
      exact fin
  | isN =>
    have hy : y = .non := by
      cases dy with
      | non => exact r2
      | _ => cases dx <;> (simp only [cmpD] at eb; cases eb)
    have hb : b = decide (x = .non) := by
      cases dy with
      | non =>
        cases dx with
        | non => simp only [cmpD, Option.some.injEq] at eb; rw [← eb, show x = .non from r1]; rfl
        | bl _ => simp only [cmpD, Option.some.injEq] at eb; rw [← eb, show x = _ from r1]; rfl
        | int _ => simp only [cmpD, Option.some.injEq] at eb; rw [← eb, show x = _ from r1]; rfl
        | str _ => simp only [cmpD, Option.some.injEq] at eb; rw [← eb, show x = _ from r1]; rfl
        | tup _ => obtain ⟨a, _, rfl, _⟩ := r1; simp only [cmpD, Option.some.injEq] at eb; rw [← eb]; rfl
        | lst _ => obtain ⟨a, _, rfl, _⟩ := r1; simp only [cmpD, Option.some.injEq] at eb; rw [← eb]; rfl
        | m => simp only [cmpD] at eb; cases eb
        | scr _ => simp only [cmpD] at eb; cases eb
        | dct _ _ => obtain ⟨a, _, _, rfl, _⟩ := r1; simp only [cmpD, Option.some.injEq] at eb; rw [← eb]; rfl
        | fn => simp only [cmpD] at eb; cases eb
        | exc _ _ => obtain ⟨a, _, _, _, _, _, _, rfl, _⟩ := r1; simp only [cmpD, Option.some.injEq] at eb; rw [← eb]; rfl
        | dks _ _ => obtain ⟨a, _, rfl, _⟩ := r1; simp only [cmpD, Option.some.injEq] at eb; rw [← eb]; rfl
      | _ => cases dx <;> (simp only [cmpD] at eb; cases eb)
    rw [hb] at fin
    exact op_isN pins s σ H _ _ v u Q I rx ry ⟨hy, fin⟩
  | notN =>
    have hy : y = .non := by
      cases dy with
      | non => exact r2
      | _ => cases dx <;> (simp only [cmpD] at eb; cases eb)
    have hb : b = !decide (x = .non) := by
      cases dy with
      | non =>
        cases dx with
        | non => simp only [cmpD, Option.some.injEq] at eb; rw [← eb, show x = .non from r1]; rfl
        | bl _ => simp only [cmpD, Option.some.injEq] at eb; rw [← eb, show x = _ from r1]; rfl
        | int _ => simp only [cmpD, Option.some.injEq] at eb; rw [← eb, show x = _ from r1]; rfl
        | str _ => simp only [cmpD, Option.some.injEq] at eb; rw [← eb, show x = _ from r1]; rfl
        | tup _ => obtain ⟨a, _, rfl, _⟩ := r1; simp only [cmpD, Option.some.injEq] at eb; rw [← eb]; rfl
        | lst _ => obtain ⟨a, _, rfl, _⟩ := r1; simp only [cmpD, Option.some.injEq] at eb; rw [← eb]; rfl
        | m => simp only [cmpD] at eb; cases eb
        | scr _ => simp only [cmpD] at eb; cases eb
        | dct _ _ => obtain ⟨a, _, _, rfl, _⟩ := r1; simp only [cmpD, Option.some.injEq] at eb; rw [← eb]; rfl
        | fn => simp only [cmpD] at eb; cases eb
        | exc _ _ => obtain ⟨a, _, _, _, _, _, _, rfl, _⟩ := r1; simp only [cmpD, Option.some.injEq] at eb; rw [← eb]; rfl
        | dks _ _ => obtain ⟨a, _, rfl, _⟩ := r1; simp only [cmpD, Option.some.injEq] at eb; rw [← eb]; rfl
      | _ => cases dx <;> (simp only [cmpD] at eb; cases eb)
    rw [hb] at fin
    exact op_notN pins s σ H _ _ v u Q I rx ry ⟨hy, fin⟩
/-- d[k] -/
theorem ix_dct (hu : X.A.units + 64 < cLine) (hw : W.w = X.w) {value slice : Expr} {pins : List (Addr × Obj)} {s : Shared} {σ : L2.St} {Hk H : Hp} {p : Addr} {ks vs : List D} {k d : D} {y : V} {u : Value} {Q : Value → Shared → Prop} (I : L2.Inv X pins σ H s) (ex : Ex Hk H) (h : DAt X.K W Hk H p ks vs) (rk : Rp X.K W Hk k y) (ok : okK k = true) (ru : RelV y u) (hg : getK (keyD k) ks vs = some d)
    (hs : subscripted slice false (.ref p) u = operate [.ref p, u] (getItem (.ref p) u)) (q : ∀ v' w' s', L2.Inv X pins σ H s' → Rp X.K W Hk d v' → RelV v' w' → Q w' s') : wpAny (model X.prog X.w) X.A (PyProof.Rows.subscriptTail value slice (.ref p) u) Q X.xe s := by
  have hT := h.typ I
  unfold PyProof.Rows.subscriptTail
  refine wpAny_bind ?_
  rw [getitemInPython_of_ne hT.not_modules]
  refine wpAny_bind (wpAny_specialOf hT PySem.F.slot_dict_getitem.lookup ?_)
  have fin : wpAny (model X.prog X.w) X.A (subscripted slice false (.ref p) u) (fun r s₃ => wpAny (model X.prog X.w) X.A (letTemporaryGo value (.ref p) r >>= fun _ => pure r) Q X.xe s₃) X.xe s := by
    rw [hs]
    exact wpAny_operating (n_get hu I ex hw h rk ok ru hg fun v' w' s' I' r1 r2 => wpAny_bind (wpAny_letTemporaryGo (wpAny_pure (q v' w' s' I' r1 r2))))
  first
    | exact wpAny_pure (wpAny_bind fin)
    | exact wpAny_bind (wpAny_pure (wpAny_bind fin))
    | exact wpAny_bind fin
theorem idxD_dct {ks vs : List D} {k d : D} (e : idxD (.dct ks vs) k = some d) : okK k = true ∧ getK (keyD k) ks vs = some d := by
  cases k <;> (simp only [idxD] at e; split at e <;> first | exact ⟨by assumption, e⟩ | cases e)
/-- xs[i] -/
theorem ix_D (hu : X.A.units + 64 < cLine) (hw : W.w = X.w) : IxR X (rD X.K W idxD) := by
  intro value slice pins s σ H x y v u Q I rx ry h hs
  obtain ⟨g, Hk, dx, dy, d, w, r1, r2, e, q⟩ := h
  cases dx with
  | tup xs =>
    cases dy <;> (try (simp only [idxD] at e; cases e; done))
    rename_i i
    obtain ⟨a, vs, rfl, h1, h2⟩ := r1
    obtain ⟨z, e2, r3⟩ := at_rel h2 e
    exact ix_tup value slice pins s σ H _ _ v u Q I rx ry ⟨a, vs, i, z, rfl, r2, ex_t w.ex h1, e2, same w r3 q⟩ hs
  | lst xs =>
    cases dy <;> (try (simp only [idxD] at e; cases e; done))
    rename_i i
    obtain ⟨a, vs, rfl, h1, h2⟩ := r1
    obtain ⟨z, e2, r3⟩ := at_rel h2 e
    exact ix_list value slice pins s σ H _ _ v u Q I rx ry ⟨a, vs, i, z, rfl, r2, SqL.of (w.ex _ _ h1), e2, same w r3 q⟩ hs
  | dct ks vs =>
    obtain ⟨ok, hg⟩ := idxD_dct e
    obtain ⟨a, o, xs, rfl, h1, h2⟩ := r1
    have e2 : v = Value.ref a := rx
    subst e2
    exact ix_dct hu hw I w.ex ⟨o, xs, w.ex _ _ h1, h2⟩ r2 ok ry hg hs fun v' w' s' I' q1 q2 => ⟨v', H, I', q2, same w q1 q⟩
  | _ => cases dy <;> (simp only [idxD] at e; cases e)
/-- xs[lo:hi] -/
def rSlD (K : PySem.W.Frag) (W : Wd) : V → Option Int → Option Int → Hp → VK → Prop := fun x lo hi H Q => ∃ g Hk dx d, Wk W g Hk H ∧ Rp K W Hk dx x ∧ slD dx lo hi = some d ∧
  ∀ v Hk' H', Step W Hk H Hk' H' → DrawAt W g H' → Rp K W Hk' d v → Q v H'
theorem sl_D : SlR X (rSlD X.K W) := by
  intro pins s σ H x v vl vu lo hi sl Q I rx hs pl pu h
  obtain ⟨g, Hk, dx, d, w, r1, e, q⟩ := h
  cases dx <;> (try (simp only [slD] at e; cases e; done))
  · rename_i ds
    simp only [slD, Option.some.injEq] at e
    subst e
    obtain ⟨a, vs, rfl, h1, h2⟩ := r1
    refine sl_tupA pins s σ H _ v vl vu lo hi sl Q I rx hs pl pu ⟨a, vs, rfl, ex_t w.ex h1, fun z => ?_, fun _ => new_tup w (cut_rel h2) q⟩
    rw [h2.len, sIx_eq, sIx_eq] at z
    rw [cutD_whole z] at q
    exact same (d := .tup ds) w ⟨a, vs, rfl, h1, h2⟩ q
  · rename_i ds
    simp only [slD, Option.some.injEq] at e
    subst e
    obtain ⟨a, vs, rfl, h1, h2⟩ := r1
    exact sl_list pins s σ H _ v vl vu lo hi sl Q I rx hs pl pu ⟨a, vs, rfl, SqL.of (w.ex _ _ h1), new_lst w (cut_rel h2) q⟩
end
end Bk
set_option Elab.async false
set_option linter.all false
set_option maxRecDepth 100000
set_option maxHeartbeats 1000000
namespace Bk
open PySem L2 PySem.Spec PyProof.Rows
open Evl (Ex ex_l ex_t)
/-- the modules' own dict is among what is known -/
def smB (K : PySem.W.Frag) : Bool := match K.lookup sysModules with
  | some o => o.cls == .type "dict"
  | none => false
theorem smB_at {K : PySem.W.Frag} {h : Heap} (b : smB K = true) (k : K.In h) : ∃ o, h.get? sysModules = some o ∧ o.cls = .type "dict" := by
  unfold smB at b
  split at b
  · rename_i o e
    exact ⟨o, k _ _ e, eq_of_beq b⟩
  · cases b
theorem pyds_len : ∀ ds : List D, (pyds ds).length = ds.length
  | [] => rfl
  | d :: ds => by simp only [pyds, List.length_cons, pyds_len ds]
theorem trip_read {xs : List (NestedKey × Addr × V)} {ys : List (NestedKey × Addr × Value)} (t : Paired (fun (p : NestedKey × Addr × V) (q : NestedKey × Addr × Value) => p.1 = q.1 ∧ p.2.1 = q.2.1 ∧ RelV p.2.2 q.2.2) xs ys) :
    Vals (xs.map fun x => V.ref x.2.1) (ys.map fun y => Value.ref y.2.1) ∧ Vals (xs.map fun x => x.2.2) (ys.map fun y => y.2.2) := by
  induction t with
  | nil => exact ⟨.nil, .nil⟩
  | cons h t ih => exact ⟨.cons (show Value.ref _ = Value.ref _ by rw [h.2.1]) ih.1, .cons h.2.2 ih.2⟩
theorem pairs_read {P : Program} {w : World} {es : List DictEntry} {vs : List (Key × Value)} (t : Pairs (mixKind P w) es vs) : ∀ {ks : List Str} {xs : List V}, KV ((ks.zip xs).map fun q => ((.inr q.1 : Key), q.2)) vs → ks.length = xs.length →
    ∃ ts : List Tok, ts.length = ks.length ∧ es.map (·.key) = (ks.zip ts).map (fun q => Value.str q.1 q.2) ∧ Vals xs (es.map (·.val)) := by
  induction t with
  | nil =>
    intro ks xs r hl
    cases ks with
    | nil => cases xs with
      | nil => exact ⟨[], rfl, rfl, .nil⟩
      | cons _ _ => cases hl
    | cons _ _ => cases xs with
      | nil => cases hl
      | cons _ _ => cases r
  | @cons e kv es kvs h1 h2 t ih =>
    intro ks xs r hl
    cases ks with
    | nil => simp at r; cases r
    | cons k ks => cases xs with
      | nil => cases hl
      | cons x xs =>
        cases r with
        | cons q r =>
          obtain ⟨ts, e1, e2, e3⟩ := ih r (by simpa using hl)
          have h1 : keyIs kv.1 e.key = true := h1
          have q1 : (Sum.inr k : Key) = kv.1 := q.1
          rw [← q1] at h1
          rcases keyIs_shape h1 with ⟨i, tt, z, _⟩ | ⟨y, tt, z, z2⟩
          · cases z
          · cases z
            refine ⟨tt :: ts, by simp [e1], by simp [e2, z2], ?_⟩
            rw [List.map_cons]
            exact .cons (by rw [h2]; exact q.2) e3
theorem strs_read {h : Heap} : ∀ (ks : List Str) (ts : List Tok), ts.length = ks.length → ReadsAll h ((ks.zip ts).map fun q => Value.str q.1 q.2) (ks.map PyData.str) []
  | [], [], _ => .nil
  | k :: ks, t :: ts, e => .cons (.str k t) (strs_read ks ts (by simpa using e))
  | [], _ :: _, e => by cases e
  | _ :: _, [], e => by cases e
theorem zip_fst {α β : Type} : ∀ {a : List α} {b : List β}, a.length = b.length → (a.zip b).map (·.1) = a
  | [], _, _ => rfl
  | x :: a, [], h => by cases h
  | x :: a, y :: b, h => by simp [zip_fst (a := a) (b := b) (by simpa using h)]
theorem zip_snd {α β : Type} : ∀ {a : List α} {b : List β}, a.length = b.length → (a.zip b).map (·.2) = b
  | [], [], _ => rfl
  | [], _ :: _, h => by cases h
  | x :: a, [], h => by cases h
  | x :: a, y :: b, h => by simp [zip_snd (a := a) (b := b) (by simpa using h)]
section
variable {X : Cx} {W : Wd} {pins : List (Addr × Obj)} {σ : L2.St} {H : Hp} {s : Shared}
mutual
theorem rp_reads (I : L2.Inv X pins σ H s) (sm : smB X.K = true) : ∀ {d : D} {v : V} {u : Value}, Rp X.K W H d v → d.shw = true → RelV v u → ∃ as, Reads s.heap u d.pyd as ∧ sysModules ∉ as
  | .non, v, u, r, _, ru => by
    rw [show v = .non from r] at ru
    rw [show u = Value.none from ru]
    exact ⟨[], .none, by simp⟩
  | .bl b, v, u, r, _, ru => by
    rw [show v = .bl b from r] at ru
    rw [show u = Value.bool b from ru]
    exact ⟨[], .bool b, by simp⟩
  | .int i, v, u, r, _, ru => by
    rw [show v = .int i from r] at ru
    obtain ⟨t, e⟩ := (show ∃ t, u = Value.int i t from ru)
    subst e
    exact ⟨[], .int i t, by simp⟩
  | .str x, v, u, r, _, ru => by
    rw [show v = .str x from r] at ru
    obtain ⟨t, e⟩ := (show ∃ t, u = Value.str x t from ru)
    subst e
    exact ⟨[], .str x t, by simp⟩
  | .tup ds, v, u, r, ok, ru => by
    obtain ⟨a, xs, e1, h1, h2⟩ := r
    subst e1
    rw [show u = Value.ref a from ru]
    obtain ⟨its, rv, ⟨o, q1, q2, n, q3⟩, hz⟩ := I.tuple h1
    obtain ⟨as, r1, r2⟩ := rp_readsAll I sm h2 ok rv
    exact ⟨as, .tuple q1 q2 q3 r1, r2⟩
  | .lst ds, v, u, r, ok, ru => by
    obtain ⟨a, xs, e1, h1, h2⟩ := r
    subst e1
    rw [show u = Value.ref a from ru]
    obtain ⟨its, rv, ⟨o, n, q1, q2, q4, q3⟩, hz⟩ := I.list (SqL.of h1)
    obtain ⟨as, r1, r2⟩ := rp_readsAll I sm h2 ok rv
    refine ⟨a :: as, .list q1 q2 q3 r1, fun z => ?_⟩
    rcases List.mem_cons.mp z with z | z
    · obtain ⟨o', z1, z2⟩ := smB_at sm I.kIn
      rw [z, q1] at z1
      cases z1
      rw [q2] at z2
      exact absurd z2 (by decide)
    · exact r2 z
  | .m, _, _, _, ok, _ => by cases ok
  | .scr _, _, _, _, ok, _ => by cases ok
  | .fn, _, _, _, ok, _ => by cases ok
  | .exc _ _, _, _, _, ok, _ => by cases ok
  | .dct ks vs, v, u, r, ok, ru => by
    obtain ⟨a, o, xs, e1, h1, h2, ⟨ys, tr, ex, nd, es, ep, hd, he⟩, h4, h5, h6, h7⟩ := r
    subst e1
    rw [show u = Value.ref a from ru]
    simp only [D.shw, Bool.and_eq_true] at ok
    obtain ⟨v1, v2⟩ := trip_read tr
    obtain ⟨as, r1, r2⟩ := rp_readsAll I sm h6 ok.1 v1
    obtain ⟨bs, r3, r4⟩ := rp_readsAll I sm h7 ok.2 v2
    have hl : (pyds ks).length = (pyds vs).length := by
      rw [pyds_len, pyds_len, ← h6.len, ← h7.len, List.length_map, List.length_map]
    refine ⟨a :: as ++ bs, ?_, fun z => ?_⟩
    · simp only [D.pyd]
      refine .dict (obX_at I.hok h1) ex.1 hd ?_ ?_
      · rw [he, zip_fst hl, List.map_map]
        exact r1
      · rw [he, zip_snd hl, List.map_map]
        exact r3
    · rw [List.cons_append] at z
      rcases List.mem_cons.mp z with z | z
      · rw [← z] at h2
        simp at h2
      · rcases List.mem_append.mp z with z | z
        · exact r2 z
        · exact r4 z
  | .dks ks vs, v, u, r, ok, ru => by
    obtain ⟨a, xs, e1, h1, h2, h3⟩ := r
    subst e1
    rw [show u = Value.ref a from ru]
    simp only [D.shw, Bool.and_eq_true] at ok
    obtain ⟨z1, z2, ws, kv, o, es, ep, q1, q2, q3, q4, q5, q6⟩ := dk_of I.hok h1
    obtain ⟨ts, t1, t2, t3⟩ := pairs_read q5 kv (by rw [h2, h3.len])
    obtain ⟨bs, r3, r4⟩ := rp_readsAll I sm h3 ok.1 t3
    have hl : (ks.map PyData.str).length = (pyds vs).length := by rw [List.length_map, pyds_len, h2]
    refine ⟨a :: [] ++ bs, ?_, fun z => ?_⟩
    · simp only [D.pyd]
      refine .dict q1 q2.1 q3 ?_ ?_
      · rw [zip_fst hl, t2]
        exact strs_read ks ts t1
      · rw [zip_snd hl]
        exact r3
    · rw [List.cons_append] at z
      rcases List.mem_cons.mp z with z | z
      · rw [← z] at z2
        simp at z2
      · exact r4 (by simpa using z)
theorem rp_readsAll (I : L2.Inv X pins σ H s) (sm : smB X.K = true) : ∀ {ds : List D} {vs : List V} {us : List Value}, RpL X.K W H ds vs → shws ds = true → Vals vs us → ∃ as, ReadsAll s.heap us (pyds ds) as ∧ sysModules ∉ as
  | [], vs, us, r, _, ru => by
    rw [show vs = [] from r] at ru
    cases ru
    exact ⟨[], .nil, by simp⟩
  | d :: ds, vs, us, r, ok, ru => by
    obtain ⟨y, ys, e, r1, r2⟩ := r
    subst e
    simp only [shws, Bool.and_eq_true] at ok
    cases ru with
    | cons q1 q2 =>
      obtain ⟨as, a1, a2⟩ := rp_reads I sm r1 ok.1 q1
      obtain ⟨bs, b1, b2⟩ := rp_readsAll I sm r2 ok.2 q2
      exact ⟨as ++ bs, .cons a1 b1, fun z => by rcases List.mem_append.mp z with z | z; exact a2 z; exact b2 z⟩
end
/-- repr of such data -/
theorem call_repr_S (hg : X.A.guards = some []) (hu : X.A.units + 66 < cLine) (sm : smB X.K = true) {d : D} {x : V} {u : Value} {Q : VK} (I : L2.Inv X pins σ H s) (hd : Rp X.K W H d x) (ok : d.shw = true) (rx : RelV x u)
    (h1 : d.pyd.showable = true) (h2 : d.pyd.depth ≤ 64) (h3 : d.pyd.shown.length ≤ 1000000) (q : Q (.str d.pyd.shown) H) : wpAny (model X.prog X.w) X.A (call (.builtin "repr") [u]) (EP X pins σ Q) X.xe s := by
  have far : ∀ a, u = Value.ref a → wpAny (model X.prog X.w) X.A (call (.builtin "repr") [u]) (EP X pins σ Q) X.xe s := fun a e => by
    subst e
    obtain ⟨as, r, nr⟩ := rp_reads I sm hd ok rx
    exact repr_of_reads' r h1 (fun _ => nr) hg (by omega) (fun _ _ e => e) (fun h' u tk hk => ⟨.str _, H, I.kept hk, ⟨_, rfl⟩, q⟩) (size_le h3)
  cases d with
  | non =>
    rw [show x = .non from hd] at rx
    cases rx
    refine PySem.P.repr_of_none ⟨.str _, H, I.tok _, ⟨_, rfl⟩, ?_⟩
    simpa only [D.pyd, PyData.shown] using q
  | bl b =>
    rw [show x = .bl b from hd] at rx
    cases rx
    refine PySem.P.repr_of_bool ⟨.str _, H, I.tok _, ⟨_, rfl⟩, ?_⟩
    simpa only [D.pyd, PyData.shown] using q
  | int i =>
    rw [show x = .int i from hd] at rx
    obtain ⟨t, rfl⟩ := rx
    refine PySem.P.repr_of_int (by simpa [D.pyd, PyData.showable] using h1) ⟨.str _, H, I.tok _, ⟨_, rfl⟩, ?_⟩
    simpa only [D.pyd, PyData.shown] using q
  | str y =>
    rw [show x = .str y from hd] at rx
    obtain ⟨t, rfl⟩ := rx
    refine PySem.P.repr_of_str ⟨.str _, H, I.tok _, ⟨_, rfl⟩, ?_⟩ (by simpa only [D.pyd, PyData.shown] using size_le h3)
    simpa only [D.pyd, PyData.shown] using q
  | tup ds => obtain ⟨a, xs, rfl, _⟩ := id hd; exact far a rx
  | lst ds => obtain ⟨a, xs, rfl, _⟩ := id hd; exact far a rx
  | dct ks vs => obtain ⟨a, o, xs, rfl, _⟩ := id hd; exact far a rx
  | dks ks vs => obtain ⟨a, xs, rfl, _⟩ := id hd; exact far a rx
  | m => cases ok
  | scr _ => cases ok
  | fn => cases ok
  | exc _ _ => cases ok
end
end Bk
set_option Elab.async false
set_option linter.all false
set_option maxRecDepth 100000
set_option maxHeartbeats 4000000
namespace PySem.W
open PySem PySem.Spec PyProof.Rows PySem.Calls
section
variable {prog : Program} {w : World} {A : Around} {E : Value → Shared → Prop} {s : Shared}
/-- sorted of a tuple is the sort of a new list of its items -/
theorem srt_of_tup {t : Addr} {its : List Value} {kw : List (Str × Value)} {Q : Value → Shared → Prop} (ht : s.heap.IsTuple t its.toArray) (few : its.length ≤ sizeLine) (ok1 : argsOk "sorted" ⟨[.ref t], kw⟩) (ok2 : ∀ x, argsOk "list.sort" ⟨[.ref x], kw⟩)
    (run : ∀ E' : Value → Shared → Prop, wpAny (model prog w) A.in1.in1 (Builtin.«list.sort» ⟨[.ref (s.heap.objs.size + 1)], kw⟩) (fun f z => f = .done (.ret .none) ∧ Q (.ref (s.heap.objs.size + 1)) z) E' { s with heap := copyHeap s.heap its }) :
    wpAny (model prog w) A (call (.builtin "sorted") [.ref t] kw) Q E s := by
  refine call_function_entry_kw kind_sorted plain_sorted entry_sorted ok1 ?_
  unfold Builtin.«sorted»
  refine wpAny_bind (m := checkCount "sorted" 1 1 _) (wpAny_pure (wpAny_bind (L2.col_tup ht few (wpAny_bind (wpAny_newList ?_ few)))))
  have grow : ((s.heap.push (seqObj "list" #[] 0)).update s.heap.objs.size (Obj.mapSeq (· ++ its.toArray))).objs.size = s.heap.objs.size + 1 := by rw [Heap.size_update, size_push']
  show wpAny _ _ _ _ _ { s with heap := copyHeap s.heap its }
  rw [grow]
  refine wpAny_bind (wpAny_holding (wpAny_call_entry_kw slot_list_sort ⟨_, copyHeap_at s.heap its, rfl⟩ entry_list_sort ?go (ok2 _)))
  case go =>
    refine wpAny_mono (run _) (fun f z q => ?_) fun _ _ e => e
    obtain ⟨rfl, q⟩ := q
    exact ⟨_, rfl, wpAny_pure ⟨_, rfl, q⟩⟩
theorem sorted_valsT {κ : PyProof.Rows.KeyKind} {t : Addr} {its : List Value} {Q : Value → Shared → Prop} (ht : s.heap.IsTuple t its.toArray) (S : SortsAt prog w A.in1.in1 { s with heap := sortingHeap (copyHeap s.heap its) (s.heap.objs.size + 1) its } κ its) (few : its.length ≤ sizeLine)
    (q : Q (.ref (s.heap.objs.size + 1)) { s with heap := sortedAll s.heap its (sortVals κ false its its).toArray }) : wpAny (model prog w) A (call (.builtin "sorted") [.ref t]) Q E s :=
  srt_of_tup ht few (args_sorted1 _) (fun _ => args_list_sort _) fun _ => list_sort_vals (s := { s with heap := copyHeap s.heap its }) (copyHeap_at s.heap its) S few ⟨rfl, q⟩
theorem sorted_dataT {β : Type} {R : Value → β → Prop} {enc : β → PyData} {its : List Value} {bs : List β} {t : Addr} {Q : Value → Shared → Prop} (ht : s.heap.IsTuple t its.toArray) (e : EachIs R its bs) (er : EachIs (fun v b => ∃ as, Reads s.heap v (enc b) as) its bs) (hal : AllAlike (bs.map enc)) (hk : Sortable (bs.map enc)) (few : bs.length ≤ sizeLine)
    (hu : ∀ b, b ∈ bs → A.units + 2 + (enc b).depth < cLine) (q : ∀ out, out.length = bs.length → EachIs R out (bs.mergeSort (dataLe false enc)) → Q (.ref (s.heap.objs.size + 1)) { s with heap := sortedAll s.heap its (List.toArray out) }) :
    wpAny (model prog w) A (call (.builtin "sorted") [.ref t]) Q E s := by
  have er2 : EachIs (fun v b => ∃ as, Reads (sortingHeap (copyHeap s.heap its) (s.heap.objs.size + 1) its) v (enc b) as) its bs := er.mono fun _ _ ⟨as, r⟩ => ⟨as, PyProof.Rows.Reads.keeps (fun _ _ => sorting_copy_old) r⟩
  exact sorted_valsT ht (SortsAt.data (s := { s with heap := sortingHeap (copyHeap s.heap its) (s.heap.objs.size + 1) its }) (each_map (R := fun v d => ∃ as, Reads (sortingHeap (copyHeap s.heap its) (s.heap.objs.size + 1) its) v d as) enc er2) hal hk (bound_map hu)) (by rw [e.length]; exact few)
    (q _ (by rw [sortVals_length false rfl]; exact e.length) (sortVals_data false e er2 hal))
end
end PySem.W
namespace Bk
open PySem L2
open Evl (Ex ex_l ex_t)
theorem call_sortdT {X : Cx} {W : Wd} (hu : X.A.units + 66 < cLine) {pins : List (Addr × Obj)} {s : Shared} {σ : L2.St} {Hk H : Hp} {xs : List D} {ys : List V} {a : Addr} {Q : VK} (I : L2.Inv X pins σ H s) (ex : Ex Hk H) (hs : SqT X.K H a ys) (h : RpL X.K W Hk xs ys)
    (hk : alkD xs = true) (ht : xs.all (fun x => match x with | .tup (_ :: _) => true | _ => false) = true) (q : ∀ p acc, H p = none → RpL X.K W Hk (sortDD xs) acc → Q (.ref p) (upd H p (.lst acc))) : wpAny (model X.prog X.w) X.A (call (.builtin "sorted") [.ref a]) (EP X pins σ Q) X.xe s := by
  obtain ⟨hp, ha, hd⟩ := alkD_ok hk
  obtain ⟨its, rv, hl, hz⟩ := I.tuple hs
  have el : its.length = xs.length := by rw [← rv.length, h.len]
  have hpl : ∀ d ∈ xs, d.pl = true := fun d hd => pls_mem hp d hd
  have er : PySem.W.EachIs (fun v (b : D) => ∃ as, Reads s.heap v b.py as) its xs := by
    have key : ∀ {ds : List D} {us : List Value}, (∀ d ∈ ds, d.pl = true) → PySem.W.EachIs (fun (u : Value) (d : D) => ∃ y, Rp X.K W Hk d y ∧ RelV y u) us ds → PySem.W.EachIs (fun v (b : D) => ∃ as, Reads s.heap v b.py as) us ds := by
      intro ds
      induction ds with
      | nil => intro us _ z; cases z; exact .nil
      | cons d ds ih =>
        intro us hh z
        cases z with
        | cons q1 q2 =>
          obtain ⟨y, r1, r2⟩ := q1
          exact .cons (Dp.reads I d.py y _ ((r1.mono ex).dp (hh d List.mem_cons_self)) r2) (ih (fun e he => hh e (List.mem_cons_of_mem _ he)) q2)
    exact key hpl (each_of h rv)
  have hal : PySem.W.AllAlike (xs.map D.py) := fun d hd d' hd' => by
    obtain ⟨b, hb, rfl⟩ := List.mem_map.mp hd
    obtain ⟨b', hb', rfl⟩ := List.mem_map.mp hd'
    simp only [alkD, Bool.and_eq_true, List.all_eq_true] at hk
    exact hk.1.1.2 b hb b' hb'
  have hso : PySem.W.Sortable (xs.map D.py) := .inl fun d hd => by
    obtain ⟨b, hb, rfl⟩ := List.mem_map.mp hd
    have := List.all_eq_true.mp ht b hb
    cases b <;> (try (cases this; done))
    rename_i zs
    cases zs with
    | nil => cases this
    | cons z zs => exact ⟨z.py, pys zs, rfl⟩
  rw [show [Value.ref a] = [Value.ref a] from rfl]
  refine PySem.W.sorted_dataT (enc := D.py) (show s.heap.IsTuple a its.toArray from hl) (each_of h rv) er hal hso (by rw [← h.len]; exact hz) (fun b hb => ?_) fun out ho e => ?_
  · have := depth_le xs b hb
    simp only [alkD, Bool.and_eq_true, decide_eq_true_eq] at hk
    have := hk.2
    omega
  · obtain ⟨acc, r1, r2⟩ := of_each e
    obtain ⟨ep, he⟩ := PyProof.Rows.sortedAll_at s.heap its out.toArray
    have len : acc.length ≤ sizeLine := by rw [r2.length, ho, ← h.len]; exact hz
    exact ⟨.ref _, upd H (s.heap.objs.size + 1) (.lst acc), I.laid (t' := s.toks) (fun _ _ => PyProof.Rows.sortedAll_old) (Nat.le_succ _) ⟨len, out, ep, r2, he⟩, rfl, q _ acc (I.hok.fresh (Nat.le_succ _)) r1⟩
end Bk
set_option Elab.async false
set_option linter.all false
set_option maxRecDepth 100000
set_option maxHeartbeats 1000000
namespace Bk
open PySem L2
open Evl (Ex ex_l ex_t)
theorem maxI_mem : ∀ (l : List Int) (a : Int), maxI a l ∈ a :: l ∧ ∀ y ∈ a :: l, y ≤ maxI a l
  | [], a => ⟨List.mem_cons_self, fun y hy => by simp at hy; subst hy; exact Int.le_refl _⟩
  | b :: l, a => by
    have ih := maxI_mem l (if a < b then b else a)
    have e : maxI a (b :: l) = maxI (if a < b then b else a) l := rfl
    rw [e]
    refine ⟨?_, fun y hy => ?_⟩
    · rcases List.mem_cons.mp ih.1 with h | h
      · rw [h]; split <;> simp
      · exact List.mem_cons_of_mem _ (List.mem_cons_of_mem _ h)
    · have h0 := ih.2 _ List.mem_cons_self
      rcases List.mem_cons.mp hy with rfl | hy
      · exact Int.le_trans (by split <;> omega) h0
      · rcases List.mem_cons.mp hy with rfl | hy
        · exact Int.le_trans (by split <;> omega) h0
        · exact ih.2 y (List.mem_cons_of_mem _ hy)
theorem minI_mem : ∀ (l : List Int) (a : Int), minI a l ∈ a :: l ∧ ∀ y ∈ a :: l, minI a l ≤ y
  | [], a => ⟨List.mem_cons_self, fun y hy => by simp at hy; subst hy; exact Int.le_refl _⟩
  | b :: l, a => by
    have ih := minI_mem l (if b < a then b else a)
    have e : minI a (b :: l) = minI (if b < a then b else a) l := rfl
    rw [e]
    refine ⟨?_, fun y hy => ?_⟩
    · rcases List.mem_cons.mp ih.1 with h | h
      · rw [h]; split <;> simp
      · exact List.mem_cons_of_mem _ (List.mem_cons_of_mem _ h)
    · have h0 := ih.2 _ List.mem_cons_self
      rcases List.mem_cons.mp hy with rfl | hy
      · exact Int.le_trans h0 (by split <;> omega)
      · rcases List.mem_cons.mp hy with rfl | hy
        · exact Int.le_trans h0 (by split <;> omega)
        · exact ih.2 y (List.mem_cons_of_mem _ hy)
theorem insI_perm (i : Int) : ∀ l : List Int, (insI i l).Perm (i :: l)
  | [] => List.Perm.refl _
  | j :: r => by
    unfold insI
    split
    · exact List.Perm.refl _
    · exact ((insI_perm i r).cons j).trans (List.Perm.swap i j r)
theorem insI_sorted (i : Int) : ∀ l : List Int, l.Pairwise (· ≤ ·) → (insI i l).Pairwise (· ≤ ·)
  | [], _ => by simp [insI]
  | j :: r, h => by
    unfold insI
    split
    · rename_i hij
      refine List.pairwise_cons.mpr ⟨fun y hy => ?_, h⟩
      rcases List.mem_cons.mp hy with rfl | hy
      · exact hij
      · exact Int.le_trans hij ((List.pairwise_cons.mp h).1 y hy)
    · rename_i hij
      refine List.pairwise_cons.mpr ⟨fun y hy => ?_, insI_sorted i r (List.pairwise_cons.mp h).2⟩
      rcases List.mem_cons.mp ((insI_perm i r).mem_iff.mp hy) with rfl | hy
      · omega
      · exact (List.pairwise_cons.mp h).1 y hy
theorem sortI_perm : ∀ l : List Int, (sortI l).Perm l
  | [] => List.Perm.refl _
  | i :: l => (insI_perm i _).trans ((sortI_perm l).cons i)
theorem sortI_sorted : ∀ l : List Int, (sortI l).Pairwise (· ≤ ·)
  | [] => List.Pairwise.nil
  | i :: l => insI_sorted i _ (sortI_sorted l)
def biV : Bi → Value
  | .len => .builtin "len"
  | .all => .builtin "all"
  | .any => .builtin "any"
  | .sum => .builtin "sum"
  | .min => .builtin "min"
  | .max => .builtin "max"
  | .min2 => .builtin "min"
  | .max2 => .builtin "max"
  | .sorted => .builtin "sorted"
  | .tuple => .type "tuple"
  | .list => .type "list"
  | .int => .type "int"
  | .repr => .builtin "repr"
  | .maxd => .builtin "max"
  | .mind => .builtin "min"
  | .sortd => .builtin "sorted"
section
variable {X : Cx} {W : Wd}
theorem len1 {K : PySem.W.Frag} {Hk : Hp} {d : D} {vs : List V} (h : RpL K W Hk [d] vs) : ∃ v, vs = [v] ∧ Rp K W Hk d v := by
  obtain ⟨y, ys, rfl, h1, h2⟩ := h
  rw [show ys = [] from h2]
  exact ⟨y, rfl, h1⟩
theorem len2 {K : PySem.W.Frag} {Hk : Hp} {d e : D} {vs : List V} (h : RpL K W Hk [d, e] vs) : ∃ v u, vs = [v, u] ∧ Rp K W Hk d v ∧ Rp K W Hk e u := by
  obtain ⟨y, ys, rfl, h1, h2⟩ := h
  obtain ⟨u, rfl, h3⟩ := len1 h2
  exact ⟨y, u, rfl, h1, h3⟩
theorem call_repr_D (hg : X.A.guards = some []) (hu : X.A.units + 66 < cLine) {pins : List (Addr × Obj)} {s : Shared} {σ : St} {H : Hp} {d : PyData} {x : V} {u : Value} {Q : VK} (I : L2.Inv X pins σ H s) (hd : Dp X.K H x d) (rx : RelV x u)
    (h1 : d.showable = true) (h2 : d.depth ≤ 64) (h3 : d.shown.length ≤ 1000000) (q : Q (.str d.shown) H) : wpAny (model X.prog X.w) X.A (call (.builtin "repr") [u]) (EP X pins σ Q) X.xe s := by
  cases hd with
  | non =>
    cases rx
    refine PySem.P.repr_of_none ⟨.str _, H, I.tok _, ⟨_, rfl⟩, ?_⟩
    simpa only [PyData.shown] using q
  | bl b =>
    cases rx
    refine PySem.P.repr_of_bool ⟨.str _, H, I.tok _, ⟨_, rfl⟩, ?_⟩
    simpa only [PyData.shown] using q
  | int i =>
    obtain ⟨t, rfl⟩ := rx
    refine PySem.P.repr_of_int (by simpa [PyData.showable] using h1) ⟨.str _, H, I.tok _, ⟨_, rfl⟩, ?_⟩
    simpa only [PyData.shown] using q
  | str y =>
    obtain ⟨t, rfl⟩ := rx
    refine PySem.P.repr_of_str ⟨.str _, H, I.tok _, ⟨_, rfl⟩, ?_⟩ (by simpa only [PyData.shown] using size_le h3)
    simpa only [PyData.shown] using q
  | @lst a xs ds hs ha =>
    cases rx
    obtain ⟨as, r⟩ := Dp.reads I (.list ds) (.ref a) (.ref a) (.lst hs ha) rfl
    refine repr_of_reads' r h1 (fun hx => ?_) hg (by omega) (fun _ _ e => e) (fun h' u tk hk => ⟨.str _, H, I.kept hk, ⟨_, rfl⟩, q⟩) (size_le h3)
    exact absurd hx (by rw [dp_noDict (.lst hs ha)]; decide)
  | @tup a xs ds hs ha =>
    cases rx
    obtain ⟨as, r⟩ := Dp.reads I (.tuple ds) (.ref a) (.ref a) (.tup hs ha) rfl
    refine repr_of_reads' r h1 (fun hx => ?_) hg (by omega) (fun _ _ e => e) (fun h' u tk hk => ⟨.str _, H, I.kept hk, ⟨_, rfl⟩, q⟩) (size_le h3)
    exact absurd hx (by rw [dp_noDict (.tup hs ha)]; decide)
where
  dp_noDict {K : PySem.W.Frag} {H : Hp} : ∀ {d : PyData} {v : V}, Dp K H v d → d.hasDict = false
    | _, _, .non => by simp [PyData.hasDict]
    | _, _, .bl b => by simp [PyData.hasDict]
    | _, _, .int i => by simp [PyData.hasDict]
    | _, _, .str x => by simp [PyData.hasDict]
    | _, _, .lst _ h => by simp only [PyData.hasDict]; exact dps_noDict h
    | _, _, .tup _ h => by simp only [PyData.hasDict]; exact dps_noDict h
  dps_noDict {K : PySem.W.Frag} {H : Hp} : ∀ {ds : List PyData} {vs : List V}, DpAll K H vs ds → PyData.hasDictAll ds = false
    | _, _, .nil => by simp [PyData.hasDictAll]
    | _, _, .cons h t => by simp only [PyData.hasDictAll, dp_noDict h, dps_noDict t, Bool.or_self]
theorem call_D (hc : X.calm = true) (hg : X.A.guards = some []) (hu : X.A.units + 66 < cLine) (sm : smB X.K = true) (b : Bi) : CallR X (biV b) (rBi X.K W (biD b)) := by
  intro pins s σ H vs us Q I rv h
  obtain ⟨g, Hk, ds, d, w, r, e, q⟩ := h
  cases b with
  | len =>
    match ds, e with
    | [.tup xs], e =>
      obtain ⟨x, rfl, a, ys, rfl, h1, h2⟩ := len1 r
      simp only [biD, Option.some.injEq] at e
      subst e
      refine call_len_seq pins s σ H _ us Q I rv ⟨a, ys, rfl, .inr (ex_t w.ex h1), ?_⟩
      rw [h2.len]; exact sameI w q
    | [.lst xs], e =>
      obtain ⟨x, rfl, a, ys, rfl, h1, h2⟩ := len1 r
      simp only [biD, Option.some.injEq] at e
      subst e
      refine call_len_seq pins s σ H _ us Q I rv ⟨a, ys, rfl, .inl (SqL.of (w.ex _ _ h1)), ?_⟩
      rw [h2.len]; exact sameI w q
    | [.scr ns], e =>
      obtain ⟨x, rfl, a, rfl, h1⟩ := len1 r
      simp only [biD, Option.some.injEq] at e
      subst e
      refine call_len_seq pins s σ H _ us Q I rv ⟨a, _, rfl, .inl (ex_l w.ex h1), ?_⟩
      rw [List.length_map]; exact sameI w q
    | [.str x], e =>
      obtain ⟨y, rfl, h1⟩ := len1 r
      rw [show y = .str x from h1] at rv
      simp only [biD] at e
      split at e
      · rename_i hz
        cases e
        exact call_len_str pins s σ H _ us Q I rv ⟨x, rfl, size_le hz, sameI w q⟩
      · cases e
    | [.non], e => simp [biD] at e
    | [.bl _], e => simp [biD] at e
    | [.int _], e => simp [biD] at e
    | [.m], e => simp [biD] at e
    | [], e => simp [biD] at e
    | _ :: _ :: _, e => simp [biD] at e
  | all =>
    match ds, e with
    | [.lst xs], e =>
      obtain ⟨x, rfl, a, ys, rfl, h1, h2⟩ := len1 r
      simp only [biD, Option.map_eq_some_iff] at e
      obtain ⟨bs, eb, rfl⟩ := e
      rw [h2.bls eb] at h1
      exact cr_all hc pins s σ H _ us Q I rv ⟨a, bs, rfl, SqL.of (w.ex _ _ h1), sameB w q⟩
    | [.tup _], e => simp [biD] at e
    | [.str _], e => simp [biD] at e
    | [.non], e => simp [biD] at e
    | [.bl _], e => simp [biD] at e
    | [.int _], e => simp [biD] at e
    | [.m], e => simp [biD] at e
    | [.scr _], e => simp [biD] at e
    | [], e => simp [biD] at e
    | _ :: _ :: _, e => simp [biD] at e
  | any =>
    match ds, e with
    | [.lst xs], e =>
      obtain ⟨x, rfl, a, ys, rfl, h1, h2⟩ := len1 r
      simp only [biD, Option.map_eq_some_iff] at e
      obtain ⟨bs, eb, rfl⟩ := e
      rw [h2.bls eb] at h1
      exact cr_any hc pins s σ H _ us Q I rv ⟨a, bs, rfl, SqL.of (w.ex _ _ h1), sameB w q⟩
    | [.tup _], e => simp [biD] at e
    | [.str _], e => simp [biD] at e
    | [.non], e => simp [biD] at e
    | [.bl _], e => simp [biD] at e
    | [.int _], e => simp [biD] at e
    | [.m], e => simp [biD] at e
    | [.scr _], e => simp [biD] at e
    | [], e => simp [biD] at e
    | _ :: _ :: _, e => simp [biD] at e
  | sum =>
    match ds, e with
    | [.lst xs], e =>
      obtain ⟨x, rfl, a, ys, rfl, h1, h2⟩ := len1 r
      simp only [biD, Option.map_eq_some_iff] at e
      obtain ⟨ns, en, rfl⟩ := e
      rw [h2.ints en] at h1
      exact cr_sum hc pins s σ H _ us Q I rv ⟨a, ns, rfl, SqL.of (w.ex _ _ h1), sameI w q⟩
    | [.tup xs], e =>
      obtain ⟨x, rfl, a, ys, rfl, h1, h2⟩ := len1 r
      simp only [biD, Option.map_eq_some_iff] at e
      obtain ⟨ns, en, rfl⟩ := e
      rw [h2.ints en] at h1
      exact cr_sumT hc pins s σ H _ us Q I rv ⟨a, ns, rfl, ex_t w.ex h1, sameI w q⟩
    | [.str _], e => simp [biD] at e
    | [.non], e => simp [biD] at e
    | [.bl _], e => simp [biD] at e
    | [.int _], e => simp [biD] at e
    | [.m], e => simp [biD] at e
    | [.scr _], e => simp [biD] at e
    | [], e => simp [biD] at e
    | _ :: _ :: _, e => simp [biD] at e
  | max =>
    match ds, e with
    | [.lst xs], e =>
      obtain ⟨x, rfl, a, ys, rfl, h1, h2⟩ := len1 r
      simp only [biD, Option.bind_eq_some_iff] at e
      obtain ⟨ns, en, e⟩ := e
      rw [h2.ints en] at h1
      cases ns with
      | nil => cases e
      | cons n ns =>
        cases e
        refine cr_max hc pins s σ H _ us Q I rv ⟨a, n :: ns, rfl, SqL.of (w.ex _ _ h1), by simp, fun m hm hy => ?_⟩
        have e : m = maxI n ns := Int.le_antisymm ((maxI_mem ns n).2 m hm) (hy _ (maxI_mem ns n).1)
        rw [e]; exact sameI w q
    | [.tup _], e => simp [biD] at e
    | [.str _], e => simp [biD] at e
    | [.non], e => simp [biD] at e
    | [.bl _], e => simp [biD] at e
    | [.int _], e => simp [biD] at e
    | [.m], e => simp [biD] at e
    | [.scr _], e => simp [biD] at e
    | [], e => simp [biD] at e
    | _ :: _ :: _, e => simp [biD] at e
  | min =>
    match ds, e with
    | [.lst xs], e =>
      obtain ⟨x, rfl, a, ys, rfl, h1, h2⟩ := len1 r
      simp only [biD, Option.bind_eq_some_iff] at e
      obtain ⟨ns, en, e⟩ := e
      rw [h2.ints en] at h1
      cases ns with
      | nil => cases e
      | cons n ns =>
        cases e
        refine cr_min hc pins s σ H _ us Q I rv ⟨a, n :: ns, rfl, SqL.of (w.ex _ _ h1), by simp, fun m hm hy => ?_⟩
        have e : m = minI n ns := Int.le_antisymm (hy _ (minI_mem ns n).1) ((minI_mem ns n).2 m hm)
        rw [e]; exact sameI w q
    | [.tup _], e => simp [biD] at e
    | [.str _], e => simp [biD] at e
    | [.non], e => simp [biD] at e
    | [.bl _], e => simp [biD] at e
    | [.int _], e => simp [biD] at e
    | [.m], e => simp [biD] at e
    | [.scr _], e => simp [biD] at e
    | [], e => simp [biD] at e
    | _ :: _ :: _, e => simp [biD] at e
  | max2 =>
    have hh : ∃ i j, ds = [.int i, .int j] ∧ d = .int (if i < j then j else i) := by
      match ds, e with
      | [.int i, .int j], e => simp only [biD, Option.some.injEq] at e; exact ⟨i, j, rfl, e.symm⟩
      | [], e => simp [biD] at e
      | [_], e => simp [biD] at e
      | [.int _, .non], e => simp [biD] at e
      | [.int _, .bl _], e => simp [biD] at e
      | [.int _, .str _], e => simp [biD] at e
      | [.int _, .tup _], e => simp [biD] at e
      | [.int _, .lst _], e => simp [biD] at e
      | [.int _, .m], e => simp [biD] at e
      | [.int _, .scr _], e => simp [biD] at e
      | [.non, _], e => simp [biD] at e
      | [.bl _, _], e => simp [biD] at e
      | [.str _, _], e => simp [biD] at e
      | [.tup _, _], e => simp [biD] at e
      | [.lst _, _], e => simp [biD] at e
      | [.m, _], e => simp [biD] at e
      | [.scr _, _], e => simp [biD] at e
      | _ :: _ :: _ :: _, e => simp [biD] at e
    obtain ⟨i, j, rfl, rfl⟩ := hh
    obtain ⟨x, y, rfl, h1, h2⟩ := len2 r
    rw [show x = .int i from h1, show y = .int j from h2] at rv
    exact call_max2 hc pins s σ H _ us Q I rv ⟨i, j, rfl, sameI w q⟩
  | min2 =>
    have hh : ∃ i j, ds = [.int i, .int j] ∧ d = .int (if j < i then j else i) := by
      match ds, e with
      | [.int i, .int j], e => simp only [biD, Option.some.injEq] at e; exact ⟨i, j, rfl, e.symm⟩
      | [], e => simp [biD] at e
      | [_], e => simp [biD] at e
      | [.int _, .non], e => simp [biD] at e
      | [.int _, .bl _], e => simp [biD] at e
      | [.int _, .str _], e => simp [biD] at e
      | [.int _, .tup _], e => simp [biD] at e
      | [.int _, .lst _], e => simp [biD] at e
      | [.int _, .m], e => simp [biD] at e
      | [.int _, .scr _], e => simp [biD] at e
      | [.non, _], e => simp [biD] at e
      | [.bl _, _], e => simp [biD] at e
      | [.str _, _], e => simp [biD] at e
      | [.tup _, _], e => simp [biD] at e
      | [.lst _, _], e => simp [biD] at e
      | [.m, _], e => simp [biD] at e
      | [.scr _, _], e => simp [biD] at e
      | _ :: _ :: _ :: _, e => simp [biD] at e
    obtain ⟨i, j, rfl, rfl⟩ := hh
    obtain ⟨x, y, rfl, h1, h2⟩ := len2 r
    rw [show x = .int i from h1, show y = .int j from h2] at rv
    exact call_min2 hc pins s σ H _ us Q I rv ⟨i, j, rfl, sameI w q⟩
  | maxd =>
    match ds, e with
    | [.lst xs], e =>
      obtain ⟨x, rfl, a, ys, rfl, h1, h2⟩ := len1 r
      simp only [biD] at e
      split at e
      · rename_i hk
        cases xs with
        | nil => cases e
        | cons n ns =>
          cases e
          rw [Vals.ref1 rv]
          exact call_maxd hc hu I w.ex (SqL.of (w.ex _ _ h1)) h2 hk fun v hv => same w hv q
      · cases e
    | [.tup _], e => simp [biD] at e
    | [.str _], e => simp [biD] at e
    | [.non], e => simp [biD] at e
    | [.bl _], e => simp [biD] at e
    | [.int _], e => simp [biD] at e
    | [.m], e => simp [biD] at e
    | [.scr _], e => simp [biD] at e
    | [], e => simp [biD] at e
    | _ :: _ :: _, e => simp [biD] at e
  | mind =>
    match ds, e with
    | [.lst xs], e =>
      obtain ⟨x, rfl, a, ys, rfl, h1, h2⟩ := len1 r
      simp only [biD] at e
      split at e
      · rename_i hk
        cases xs with
        | nil => cases e
        | cons n ns =>
          cases e
          rw [Vals.ref1 rv]
          exact call_mind hc hu I w.ex (SqL.of (w.ex _ _ h1)) h2 hk fun v hv => same w hv q
      · cases e
    | [.tup _], e => simp [biD] at e
    | [.str _], e => simp [biD] at e
    | [.non], e => simp [biD] at e
    | [.bl _], e => simp [biD] at e
    | [.int _], e => simp [biD] at e
    | [.m], e => simp [biD] at e
    | [.scr _], e => simp [biD] at e
    | [], e => simp [biD] at e
    | _ :: _ :: _, e => simp [biD] at e
  | sorted =>
    match ds, e with
    | [.lst xs], e =>
      obtain ⟨x, rfl, a, ys, rfl, h1, h2⟩ := len1 r
      simp only [biD, Option.map_eq_some_iff] at e
      obtain ⟨ns, en, rfl⟩ := e
      rw [h2.ints en] at h1
      refine cr_sortedI pins s σ H _ us Q I rv ⟨a, ns, rfl, SqL.of (w.ex _ _ h1), fun ns' p hp hs hn => ?_⟩
      have e : ns' = sortI ns := PySem.W.ksm_same (hp.trans (sortI_perm ns).symm) hs (sortI_sorted ns)
      rw [e]
      exact new_lst w (RpL.ofInts _) q p hn
    | [.tup xs], e =>
      obtain ⟨x, rfl, a, ys, rfl, h1, h2⟩ := len1 r
      simp only [biD, Option.map_eq_some_iff] at e
      obtain ⟨ns, en, rfl⟩ := e
      rw [h2.ints en] at h1
      refine cr_sortT pins s σ H _ us Q I rv ⟨a, ns, rfl, ex_t w.ex h1, fun ns' p hp hs hn => ?_⟩
      have e : ns' = sortI ns := PySem.W.ksm_same (hp.trans (sortI_perm ns).symm) hs (sortI_sorted ns)
      rw [e]
      exact new_lst w (RpL.ofInts _) q p hn
    | [.str _], e => simp [biD] at e
    | [.non], e => simp [biD] at e
    | [.bl _], e => simp [biD] at e
    | [.int _], e => simp [biD] at e
    | [.m], e => simp [biD] at e
    | [.scr _], e => simp [biD] at e
    | [], e => simp [biD] at e
    | _ :: _ :: _, e => simp [biD] at e
  | tuple =>
    match ds, e with
    | [.lst xs], e =>
      obtain ⟨x, rfl, a, ys, rfl, h1, h2⟩ := len1 r
      simp only [biD, Option.some.injEq] at e
      subst e
      exact call_tuple_of pins s σ H _ us Q I rv ⟨a, ys, rfl, .inl ⟨SqL.of (w.ex _ _ h1), new_tup w h2 q⟩⟩
    | [.tup xs], e =>
      obtain ⟨x, rfl, a, ys, rfl, h1, h2⟩ := len1 r
      simp only [biD, Option.some.injEq] at e
      subst e
      exact call_tuple_of pins s σ H _ us Q I rv ⟨a, ys, rfl, .inr ⟨ex_t w.ex h1, same (d := .tup xs) w ⟨a, ys, rfl, h1, h2⟩ q⟩⟩
    | [.str _], e => simp [biD] at e
    | [.non], e => simp [biD] at e
    | [.bl _], e => simp [biD] at e
    | [.int _], e => simp [biD] at e
    | [.m], e => simp [biD] at e
    | [.scr _], e => simp [biD] at e
    | [], e => simp [biD] at e
    | _ :: _ :: _, e => simp [biD] at e
  | list =>
    match ds, e with
    | [.lst xs], e =>
      obtain ⟨x, rfl, a, ys, rfl, h1, h2⟩ := len1 r
      simp only [biD, Option.some.injEq] at e
      subst e
      exact call_list_of pins s σ H _ us Q I rv ⟨a, ys, rfl, .inl (SqL.of (w.ex _ _ h1)), new_lst w h2 q⟩
    | [.tup xs], e =>
      obtain ⟨x, rfl, a, ys, rfl, h1, h2⟩ := len1 r
      simp only [biD, Option.some.injEq] at e
      subst e
      exact call_list_of pins s σ H _ us Q I rv ⟨a, ys, rfl, .inr (ex_t w.ex h1), new_lst w h2 q⟩
    | [.dct ks ws], e =>
      obtain ⟨x, rfl, a, o, xs, rfl, h1, h2, h3, h4, h5, h6, h7⟩ := len1 r
      simp only [biD] at e
      split at e
      · rename_i hz
        cases e
        rw [Vals.ref1 rv]
        have hl : xs.length = ks.length := by rw [← h6.len, List.length_map]
        exact call_listX hc I h2 (w.ex _ _ h1) h3 (size_le (by rw [hl]; exact hz)) (new_lst w h6 q)
      · cases e
    | [.str _], e => simp [biD] at e
    | [.non], e => simp [biD] at e
    | [.bl _], e => simp [biD] at e
    | [.int _], e => simp [biD] at e
    | [.m], e => simp [biD] at e
    | [.scr _], e => simp [biD] at e
    | [], e => simp [biD] at e
    | _ :: _ :: _, e => simp [biD] at e
  | sortd =>
    match ds, e with
    | [.lst xs], e =>
      obtain ⟨x, rfl, a, ys, rfl, h1, h2⟩ := len1 r
      simp only [biD] at e
      split at e
      · rename_i hk
        simp only [Bool.and_eq_true] at hk
        cases e
        rw [Vals.ref1 rv]
        exact call_sortd hu I w.ex (SqL.of (w.ex _ _ h1)) h2 hk.1 hk.2 fun p acc hp ra => new_lst w ra q p hp
      · cases e
    | [.tup xs], e =>
      obtain ⟨x, rfl, a, ys, rfl, h1, h2⟩ := len1 r
      simp only [biD] at e
      split at e
      · rename_i hk
        simp only [Bool.and_eq_true] at hk
        cases e
        rw [Vals.ref1 rv]
        exact call_sortdT hu I w.ex (ex_t w.ex h1) h2 hk.1 hk.2 fun p acc hp ra => new_lst w ra q p hp
      · cases e
    | [.str _], e => simp [biD] at e
    | [.non], e => simp [biD] at e
    | [.bl _], e => simp [biD] at e
    | [.int _], e => simp [biD] at e
    | [.m], e => simp [biD] at e
    | [.scr _], e => simp [biD] at e
    | [.dct _ _], e => simp [biD] at e
    | [], e => simp [biD] at e
    | _ :: _ :: _, e => simp [biD] at e
  | int =>
    match ds, e with
    | [.int i], e =>
      obtain ⟨x, rfl, h1⟩ := len1 r
      rw [show x = .int i from h1] at rv
      simp only [biD, Option.some.injEq] at e
      subst e
      exact call_int1 pins s σ H _ us Q I rv (.inl ⟨i, rfl, sameI w q⟩)
    | [.bl b], e =>
      obtain ⟨x, rfl, h1⟩ := len1 r
      rw [show x = .bl b from h1] at rv
      simp only [biD, Option.some.injEq] at e
      subst e
      exact call_int1 pins s σ H _ us Q I rv (.inr ⟨b, rfl, sameI w q⟩)
    | [.tup _], e => simp [biD] at e
    | [.str _], e => simp [biD] at e
    | [.non], e => simp [biD] at e
    | [.lst _], e => simp [biD] at e
    | [.m], e => simp [biD] at e
    | [.scr _], e => simp [biD] at e
    | [], e => simp [biD] at e
    | _ :: _ :: _, e => simp [biD] at e
  | repr =>
    match ds, e with
    | [], e => simp [biD] at e
    | _ :: _ :: _, e => simp [biD] at e
    | [x], e =>
      simp only [biD] at e
      split at e
      · rename_i hh
        simp only [Bool.and_eq_true, decide_eq_true_eq] at hh
        cases e
        obtain ⟨v, rfl, h1⟩ := len1 r
        obtain ⟨u, rfl, ru⟩ := vals1 rv
        exact call_repr_D hg hu I ((h1.mono w.ex).dp hh.1.1.1) ru hh.1.1.2 hh.1.2 hh.2 (sameS w q)
      · split at e
        · rename_i hh
          simp only [Bool.and_eq_true, decide_eq_true_eq] at hh
          cases e
          obtain ⟨v, rfl, h1⟩ := len1 r
          obtain ⟨u, rfl, ru⟩ := vals1 rv
          exact call_repr_S hg hu sm I (h1.mono w.ex) hh.1.1.1 ru hh.1.1.2 hh.1.2 hh.2 (sameS w q)
        · cases e
end
end Bk
set_option Elab.async false
set_option linter.all false
set_option maxRecDepth 100000
set_option maxHeartbeats 1000000
namespace PySem
open Sem (wp)
set_option maxHeartbeats 1000000 in
theorem bk_enum_new1 {v : Value} {o : Obj} {H : Heap → Prop} (B : Begins v o H) :
    Meets (Builtin.«enumerate.__new__» ⟨[.type "enumerate", v], []⟩) (fun _ R s => H s.heap ∧
      R (.ok (.ret (.ref (s.heap.push o).objs.size))) { s with heap := (s.heap.push o).push { cls := .type "enumerate", data := .fields #[.none, .bool false, .ref s.heap.objs.size, rawInt 0, .none, .none] } }) :=
  .of_wp fun prog w A R s h => by
    obtain ⟨hp, g, d, tk, os⟩ := s; obtain ⟨h1, h⟩ := h
    have hsub := sub_enumerate
    have q1 : ∀ {A' : Around} {E : Value → Shared → Prop} {Q : Value → Shared → Prop}, Q (.ref hp.objs.size) ⟨hp.push o, g, d, tk, os⟩ → wpAny (model prog w) A' (pyIter v) Q E ⟨hp, g, d, tk, os⟩ :=
      fun q => B.iter prog w _ _ ⟨hp, g, d, tk, os⟩ _ h1 q
    wp_walk using q1
    refine wpAny_stack_any fun st => wpAny_pure ?_
    split
    · rename_i c _ _ _ _ _
      cases (c == Value.type "enumerate")
      · wp_walk using q1
        exact ⟨_, rfl, h⟩
      · wp_walk using q1
        exact ⟨_, rfl, h⟩
    · wp_walk using q1
      exact ⟨_, rfl, h⟩
theorem bk_enum_begins1 {prog : Program} {w : World} {A : Around} {E : Value → Shared → Prop} {s : Shared} {v : Value} {o : Obj} {H : Heap → Prop} {Q : Value → Shared → Prop} (B : Begins v o H) (h1 : H s.heap)
    (h : ∀ h', IsEnum h' (s.heap.objs.size + 1) s.heap.objs.size 0 .none → h'.get? s.heap.objs.size = some o → h'.objs.size = s.heap.objs.size + 2 →
      (∀ b o, s.heap.get? b = some o → h'.get? b = some o) → Q (.ref (s.heap.objs.size + 1)) { s with heap := h' }) :
    wpAny (model prog w) A (call (.type "enumerate") [v]) Q E s := by
  refine callType_new F.called_enumerate (by decide) (F.typeCall_enumerate_1 _) (F.newCall_enumerate_1 _) (fun obj => F.args_object_init_2 obj _) F.entry_enumerate_new
    (bk_enum_new1 B) ⟨h1, ?_⟩
  have hz : (s.heap.push o).objs.size = s.heap.objs.size + 1 := Heap.size_push ..
  show _ ∧ _
  rw [hz]
  have he : IsEnum ((s.heap.push o).push { cls := .type "enumerate", data := .fields #[.none, .bool false, .ref s.heap.objs.size, rawInt 0, .none, .none] }) (s.heap.objs.size + 1) s.heap.objs.size 0 .none := by
    have := Heap.get?_push_size (s.heap.push o) (o := { cls := .type "enumerate", data := .fields #[.none, .bool false, .ref s.heap.objs.size, rawInt 0, .none, .none] }) rfl
    rw [hz] at this; exact this
  refine ⟨⟨_, he, rfl⟩, h _ he (Heap.get?_push_of_some _ (Heap.get?_push_size _ B.free)) (by rw [Heap.size_push, hz]) fun b o x => Heap.get?_push_of_some _ (Heap.get?_push_of_some _ x)⟩
end PySem
namespace Bk
open PySem L2
open Evl (Ex ex_l ex_t)
def qI : Bool → Heap → Addr → Addr → Nat → Prop
  | true, h, it, a, i => h.IsListIter it a i
  | false, h, it, a, i => h.IsTupleIter it a i
def qS : Bool → Heap → Addr → Array Value → Prop
  | true, h, a, its => h.IsList a its
  | false, h, a, its => h.IsTuple a its
def SqB (K : PySem.W.Frag) : Bool → Hp → Addr → List V → Prop
  | true, H, a, xs => SqL K H a xs
  | false, H, a, xs => SqT K H a xs
def itO : Bool → Addr → Obj
  | true, a => { cls := .type "list_iterator", data := .fields #[.ref a, .int 0 0] }
  | false, a => { cls := .type "tuple_iterator", data := .fields #[.ref a, .int 0 0] }
theorem qI.at : ∀ {b : Bool} {h h' : Heap} {it a : Addr} {i : Nat}, qI b h it a i → (∀ o, h.get? it = some o → h'.get? it = some o) → qI b h' it a i
  | true, _, _, _, _, _, q, k => Heap.IsListIter.at q k
  | false, _, _, _, _, _, q, k => Heap.IsTupleIter.at q k
theorem qI.obj : ∀ {b : Bool} {h : Heap} {it a : Addr} {i : Nat}, qI b h it a i → ∃ o, h.get? it = some o ∧ ∀ v, o.data ≠ .cell v
  | true, _, _, _, _, ⟨o, e, _, d⟩ => ⟨o, e, fun v z => by rw [d] at z; cases z⟩
  | false, _, _, _, _, ⟨o, e, _, d⟩ => ⟨o, e, fun v z => by rw [d] at z; cases z⟩
theorem qI_new : ∀ (b : Bool) {h : Heap} {it a : Addr}, h.get? it = some (itO b a) → qI b h it a 0
  | true, _, _, _, e => ⟨_, e, rfl, rfl⟩
  | false, _, _, _, e => ⟨_, e, rfl, rfl⟩
theorem qS_lt : ∀ {b : Bool} {h : Heap} {a : Addr} {its : Array Value}, qS b h a its → a < h.objs.size
  | true, _, _, _, q => by obtain ⟨_, e, _⟩ := q; exact Heap.lt_size e
  | false, _, _, _, q => by obtain ⟨_, e, _⟩ := q; exact Heap.lt_size e
theorem begins_B : ∀ (b : Bool) (a : Addr) (its : Array Value), Begins (.ref a) (itO b a) (fun h => qS b h a its)
  | true, a, its => begins_list a its
  | false, a, its => begins_tuple a its
theorem draws_B {prog : Program} {w : World} {A : Around} (hh : A.handled = none) : ∀ (b : Bool) (it a : Addr) (hne : a ≠ it) (its : Array Value),
    Draws prog w A it [it, a] its.size (fun i v => its[i]? = some v) (fun i h => qI b h it a i ∧ qS b h a its)
  | true, it, a, hne, its => Draws.list hh it a hne its
  | false, it, a, hne, its => Draws.tuple hh it a hne its
section
variable {X : Cx} {pins : List (Addr × Obj)} {σ : St} {H : Hp} {s : Shared}
theorem inv_seqB (I : L2.Inv X pins σ H s) : ∀ {b : Bool} {a : Addr} {xs : List V}, SqB X.K b H a xs → ∃ its : List Value, Vals xs its ∧ qS b s.heap a its.toArray ∧ xs.length ≤ sizeLine
  | true, a, xs, h => by obtain ⟨its, r, p, z⟩ := I.list h; exact ⟨its, r, p.isList, z⟩
  | false, a, xs, h => by obtain ⟨its, r, p, z⟩ := I.tuple h; exact ⟨its, r, p, z⟩
theorem inv_seqB_inj (I : L2.Inv X pins σ H s) : ∀ {b : Bool} {a : Addr} {xs ys : List V}, SqB X.K b H a xs → SqB X.K b H a ys → xs = ys
  | true, _, _, _, h, h' => I.list_inj h h'
  | false, _, _, _, h, h' => I.tuple_inj h h'
end
def ItzB (K : PySem.W.Frag) (b1 b2 : Bool) (a b : Addr) : It :=
  ⟨fun i H => ∃ (xs ys : List V) (x y : V), SqB K b1 H a xs ∧ SqB K b2 H b ys ∧ xs[i]? = some x ∧ ys[i]? = some y,
    fun i H v H' => ∃ T x y, v = .ref T ∧ H T = none ∧ H' = upd H T (.tup [x, y]) ∧ (∀ xs, SqB K b1 H a xs → xs[i]? = some x) ∧ ∀ ys, SqB K b2 H b ys → ys[i]? = some y,
    fun i H => ∃ xs ys : List V, SqB K b1 H a xs ∧ SqB K b2 H b ys ∧ i = min xs.length ys.length⟩
theorem turn_zipB {P : Program} {w : World} {K : PySem.W.Frag} {elts : List Expr} {kk : Nat} {tpos : Pos} {b1 b2 : Bool} {a b z TI TO i1 i2 : Addr} (S : ZipSep2 z TI TO i1 i2 [i1, a] [i2, b]) (h1 : a ≠ i1) (h2 : b ≠ i2) :
    Turn P w K (.Tuple elts kk tpos) (ItzB K b1 b2 a b) [z, TI, TO, i1, i2] z
      (fun i h => IsZip h z TI TO .none ∧ IsTupOf2 h TI (.ref i1) (.ref i2) ∧ (∃ x y, IsTupOf2 h TO x y) ∧ qI b1 h i1 a i ∧ qI b2 h i2 b i) where
  mem := by simp
  obj := fun i h st c hc => by
    obtain ⟨hz, hTI, ⟨x, y, hTO⟩, q1, q2⟩ := st
    have e' : c = z ∨ c = TI ∨ c = TO ∨ c = i1 ∨ c = i2 := by simpa using hc
    rcases e' with q | q | q | q | q
    · rw [q]; exact ⟨_, hz, fun v r => nomatch r⟩
    · rw [q]; exact ⟨_, hTI, fun v r => nomatch r⟩
    · rw [q]; exact ⟨_, hTO, fun v r => nomatch r⟩
    · rw [q]; exact q1.obj
    · rw [q]; exact q2.obj
  keep := fun i h h' st k => by
    obtain ⟨hz, hTI, ⟨x, y, hTO⟩, q1, q2⟩ := st
    exact ⟨k z (by simp) _ hz, k TI (by simp) _ hTI, ⟨x, y, k TO (by simp) _ hTO⟩, q1.at fun o e => k i1 (by simp) o e, q2.at fun o e => k i2 (by simp) o e⟩
  item := by
    intro X hP hw hK hc i pins s σ H E I hf st hg
    subst hP hw hK
    obtain ⟨hz, hTI, hTO, q1, q2⟩ := st
    obtain ⟨xs, ys, x, y, hx, hy, ex, ey⟩ := hg
    obtain ⟨its1, r1, s1, z1⟩ := inv_seqB I hx
    obtain ⟨its2, r2, s2, z2⟩ := inv_seqB I hy
    have hh := I.ok.hd hc
    have WT := WalksT.zipD2 (prog := X.prog) (w := X.w) (A := X.A) S (draws_B (A := X.A.in1) hh b1 i1 a h1 its1.toArray) (draws_B (A := X.A.in1) hh b2 i2 b h2 its2.toArray)
    have l1 : i < its1.toArray.size := by rw [List.size_toArray, ← r1.length]; exact (List.getElem?_eq_some_iff.mp ex).1
    have l2 : i < its2.toArray.size := by rw [List.size_toArray, ← r2.length]; exact (List.getElem?_eq_some_iff.mp ey).1
    refine WT.item i s _ E (by omega) ⟨hz, hTI, hTO, ⟨q1, s1⟩, ⟨q2, s2⟩⟩ fun T vals h' tk hp hsz hT hm hk => ⟨_, rfl, ?_⟩
    refine WT.go elts kk tpos i T { s with heap := h', toks := tk } _ E hm fun h'' st'' hk'' => ?_
    obtain ⟨v1, v2, e1, e2, rfl⟩ := hp
    obtain ⟨u1, f1, ru1⟩ := r1.get ex
    obtain ⟨u2, f2, ru2⟩ := r2.get ey
    have g1 : u1 = v1 := by rw [List.getElem?_toArray, f1] at e1; exact Option.some.inj e1
    have g2 : u2 = v2 := by rw [List.getElem?_toArray, f2] at e2; exact Option.some.inj e2
    subst g1 g2
    obtain ⟨oT, hoT, cT, nT, dT⟩ := hT
    have hT2 : h''.get? T = some oT := hk'' T oT (WT.apart _ _ _ hm) hoT
    have new : ObjOk X.prog X.w (upd H T (.tup [x, y])) h'' T (.tup [x, y]) := ⟨by show 2 ≤ sizeLine; decide, [u1, u2], .cons ru1 (.cons ru2 .nil), ⟨_, hT2, cT, nT, dT⟩⟩
    have sub : ∀ c, c ∉ [z, TI, TO, i1, i2] → c ∉ [z, TO, i1, i2] := fun c hc hm => hc (by
      have e' : c = z ∨ c = TO ∨ c = i1 ∨ c = i2 := by simpa using hm
      rcases e' with q | q | q | q <;> simp [q])
    have I1 : L2.Inv X pins σ (upd H T (.tup [x, y])) { s with heap := h'', toks := tk } :=
      I.turnedNew (ch := [z, TI, TO, i1, i2]) (fun c o hc e => hk'' c o (sub c hc) (hk c o (sub c hc) e)) hf hsz new
    obtain ⟨w1, w2, w3, w4, w5⟩ := st''
    refine ⟨.ref T, _, I1, rfl, ⟨T, x, y, rfl, I.hok.fresh hsz, rfl, fun zs hz => by rw [inv_seqB_inj I hz hx]; exact ex, fun zs hz => by rw [inv_seqB_inj I hz hy]; exact ey⟩, ⟨w1, w2, w3, w4.1, w5.1⟩, fun c hc => ?_⟩
    obtain ⟨o, ho, _⟩ : ∃ o, s.heap.get? c = some o ∧ True := by
      have e' : c = z ∨ c = TI ∨ c = TO ∨ c = i1 ∨ c = i2 := by simpa using hc
      obtain ⟨x0, y0, hTO⟩ := hTO
      rcases e' with q | q | q | q | q
      · rw [q]; exact ⟨_, hz, trivial⟩
      · rw [q]; exact ⟨_, hTI, trivial⟩
      · rw [q]; exact ⟨_, hTO, trivial⟩
      · rw [q]; obtain ⟨o, e, _⟩ := q1.obj; exact ⟨o, e, trivial⟩
      · rw [q]; obtain ⟨o, e, _⟩ := q2.obj; exact ⟨o, e, trivial⟩
    rw [upd_ne (Nat.ne_of_lt (Nat.lt_of_lt_of_le (Heap.lt_size ho) hsz))]
    exact (hf c hc).1
  done := by
    intro X hP hw hK hc i pins s σ H E I hf st hg
    subst hP hw hK
    obtain ⟨hz, hTI, hTO, q1, q2⟩ := st
    obtain ⟨xs, ys, hx, hy, hi⟩ := hg
    obtain ⟨its1, r1, s1, z1⟩ := inv_seqB I hx
    obtain ⟨its2, r2, s2, z2⟩ := inv_seqB I hy
    have hh := I.ok.hd hc
    have WT := WalksT.zipD2 (prog := X.prog) (w := X.w) (A := X.A) S (draws_B (A := X.A.in1) hh b1 i1 a h1 its1.toArray) (draws_B (A := X.A.in1) hh b2 i2 b h2 its2.toArray)
    have hl : i = min its1.toArray.size its2.toArray.size := by rw [List.size_toArray, List.size_toArray, ← r1.length, ← r2.length]; exact hi
    subst hl
    refine WT.done s _ E ⟨hz, hTI, hTO, ⟨q1, s1⟩, ⟨q2, s2⟩⟩ fun h' tk hk => ⟨rfl, I.turnedL (ch := [z, TI, TO, i1, i2]) (fun c o hc e => hk c o (fun hm => hc ?_) e) hf⟩
    have e' : c = z ∨ c = TO ∨ c = i1 ∨ c = i2 := by simpa using hm
    rcases e' with q | q | q | q <;> simp [q]
  self := fun A i s Q E st h => wpAny_pyIter_zip st.1 h
def iZipB (K : PySem.W.Frag) (ta : TA) : TI := fun σ H R => ta σ H fun vs H1 => ∃ b1 b2 a b xs ys, vs = [.ref a, .ref b] ∧ SqB K b1 H1 a xs ∧ SqB K b2 H1 b ys ∧ R (ItzB K b1 b2 a b) H1
theorem pi_zipB {X : Cx} {e e2 : Expr} {ta : TA} {p pos tpos : Pos} {elts : List Expr} {kk : Nat} (hg : Gl X "zip") (hm : X.mg "zip" = none) (ha : PA X [e, e2] ta)
    (hs : starEach [e, e2] X.env = (false, eval e X.env) :: starEach [e2] X.env) (hpl : (backTo pos (starEach [e2] X.env)).any (·.1) = false) :
    PI X (.Tuple elts kk tpos) (.Call (.Name "zip" p) [e, e2] [] pos) (iZipB X.K ta) := by
  refine ⟨fun pins s σ H R I h => ?_⟩
  refine PyProof.Rows.Call_ (ld_blt I hg hm PyProof.Rows.boot_zip (PyProof.Rows.callWith_type1 (thn (ha.run pos pins s σ H _ I h) fun us s1 ⟨vs, H1, I1, r1, q1⟩ => ?_) hs hpl))
  obtain ⟨b1, b2, a, b, xs, ys, ex, hqx, hqy, q⟩ := q1
  subst ex
  obtain ⟨u1, u2, rfl, ru1, ru2⟩ := vals2 r1
  cases ru1
  cases ru2
  obtain ⟨its1, rv1, p1, _⟩ := inv_seqB I1 hqx
  obtain ⟨its2, rv2, p2, _⟩ := inv_seqB I1 hqy
  have la := qS_lt p1
  have lb := qS_lt p2
  refine zip_begins2 (begins_B b1 a its1.toArray) (begins_B b2 b its2.toArray) p1 p2 fun h' hz hTI hTO h1 h2 hsz hk => wpAny_pyIter_zip hz ?_
  have I2 : L2.Inv X pins σ H1 { s1 with heap := h' } := I1.kept (t' := s1.toks) hk
  refine ⟨s1.heap.objs.size + 4, [s1.heap.objs.size + 4, s1.heap.objs.size + 2, s1.heap.objs.size + 3, s1.heap.objs.size, s1.heap.objs.size + 1], _, _, H1, rfl, I2,
    turn_zipB (zip_sep2 (fun c hc => by simp at hc; rw [hc]; exact la) (fun c hc => by simp at hc; rw [hc]; exact lb)) (Nat.ne_of_lt la) (Nat.ne_of_lt (Nat.lt_succ_of_lt lb)), ⟨hz, hTI, ⟨_, _, hTO⟩, qI_new _ h1, qI_new _ h2⟩, fun c hcm => ?_, q⟩
  have e' : c = s1.heap.objs.size + 4 ∨ c = s1.heap.objs.size + 2 ∨ c = s1.heap.objs.size + 3 ∨ c = s1.heap.objs.size ∨ c = s1.heap.objs.size + 1 := by simpa using hcm
  have hle : s1.heap.objs.size ≤ c := by
    rcases e' with z | z | z | z | z
    · rw [z]; exact Nat.le_add_right _ _
    · rw [z]; exact Nat.le_add_right _ _
    · rw [z]; exact Nat.le_add_right _ _
    · rw [z]; exact Nat.le_refl _
    · rw [z]; exact Nat.le_add_right _ _
  exact I1.fpOk hle (I1.hok.fresh hle)
def IteB (K : PySem.W.Frag) (b : Bool) (a : Addr) : It :=
  ⟨fun i H => ∃ (xs : List V) (x : V), SqB K b H a xs ∧ xs[i]? = some x, fun i H v H' => ∃ T x, v = .ref T ∧ H T = none ∧ H' = upd H T (.tup [.int (i : Nat), x]) ∧ ∀ xs, SqB K b H a xs → xs[i]? = some x, fun i H => ∃ xs : List V, SqB K b H a xs ∧ xs.length = i⟩
theorem turn_enumB {P : Program} {w : World} {K : PySem.W.Frag} {elts : List Expr} {kk : Nat} {tpos : Pos} {b : Bool} {a e it : Addr} (hae : a ≠ e) (hai : a ≠ it) (hei : e ≠ it) :
    Turn P w K (.Tuple elts kk tpos) (IteB K b a) [e, it] e (fun i h => (∃ old, IsEnum h e it (0 + ((i : Nat) : Int)) old) ∧ qI b h it a i) where
  mem := by simp
  obj := fun i h st c hc => by
    obtain ⟨⟨old, he⟩, q⟩ := st
    have e' : c = e ∨ c = it := by simpa using hc
    rcases e' with z | z
    · rw [z]; exact ⟨_, he, fun v q => nomatch q⟩
    · rw [z]; exact q.obj
  keep := fun i h h' st k => let ⟨⟨old, he⟩, q⟩ := st; ⟨⟨old, k e (by simp) _ he⟩, q.at fun o z => k it (by simp) o z⟩
  item := by
    intro X hP hw hK hc i pins s σ H E I hf st hg
    subst hP hw hK
    obtain ⟨he, q⟩ := st
    obtain ⟨xs, x, hx, ex⟩ := hg
    obtain ⟨its, r, p, hz⟩ := inv_seqB I hx
    have hh := I.ok.hd hc
    have WT := WalksT.enumFrom (prog := X.prog) (w := X.w) (A := X.A) 0 (draws_B (A := X.A.in1) hh b it a hai its.toArray) e hei (by simp [hei, Ne.symm hae]) (by simp)
    have l1 : i < its.toArray.size := by rw [List.size_toArray, ← r.length]; exact (List.getElem?_eq_some_iff.mp ex).1
    refine WT.item i s _ E l1 ⟨he, q, p⟩ fun T vals h' tk hp hsz hT hm hk => ⟨_, rfl, ?_⟩
    refine WT.go elts kk tpos i T { s with heap := h', toks := tk } _ E hm fun h'' st'' hk'' => ?_
    obtain ⟨t0, v1, e1, rfl⟩ := hp
    obtain ⟨u1, f1, ru1⟩ := r.get ex
    have g1 : u1 = v1 := by rw [List.getElem?_toArray, f1] at e1; exact Option.some.inj e1
    subst g1
    obtain ⟨oT, hoT, cT, nT, dT⟩ := hT
    have hT2 : h''.get? T = some oT := hk'' T oT (WT.apart _ _ _ hm) hoT
    have e0 : (0 : Int) + (i : Int) = ((i : Nat) : Int) := Int.zero_add _
    rw [e0] at dT
    have new : ObjOk X.prog X.w (upd H T (.tup [.int (i : Nat), x])) h'' T (.tup [.int (i : Nat), x]) := ⟨by show 2 ≤ sizeLine; decide, [.int i t0, u1], .cons ⟨_, rfl⟩ (.cons ru1 .nil), ⟨_, hT2, cT, nT, dT⟩⟩
    have I1 : L2.Inv X pins σ (upd H T (.tup [.int (i : Nat), x])) { s with heap := h'', toks := tk } :=
      I.turnedNew (ch := [e, it]) (fun c o hc z => hk'' c o hc (hk c o hc z)) hf hsz new
    refine ⟨.ref T, _, I1, rfl, ⟨T, x, rfl, I.hok.fresh hsz, rfl, fun zs hz => by rw [inv_seqB_inj I hz hx]; exact ex⟩, ⟨st''.1, st''.2.1⟩, fun c hc => ?_⟩
    obtain ⟨o, ho, _⟩ : ∃ o, s.heap.get? c = some o ∧ True := by
      have e' : c = e ∨ c = it := by simpa using hc
      obtain ⟨old, he⟩ := he
      rcases e' with z | z
      · rw [z]; exact ⟨_, he, trivial⟩
      · rw [z]; obtain ⟨o, e, _⟩ := q.obj; exact ⟨o, e, trivial⟩
    rw [upd_ne (Nat.ne_of_lt (Nat.lt_of_lt_of_le (Heap.lt_size ho) hsz))]
    exact (hf c hc).1
  done := by
    intro X hP hw hK hc i pins s σ H E I hf st hg
    subst hP hw hK
    obtain ⟨he, q⟩ := st
    obtain ⟨xs, hx, hi⟩ := hg
    obtain ⟨its, r, p, hz⟩ := inv_seqB I hx
    have hh := I.ok.hd hc
    have WT := WalksT.enumFrom (prog := X.prog) (w := X.w) (A := X.A) 0 (draws_B (A := X.A.in1) hh b it a hai its.toArray) e hei (by simp [hei, Ne.symm hae]) (by simp)
    have hl : i = its.toArray.size := by rw [List.size_toArray, ← r.length]; exact hi.symm
    subst hl
    exact WT.done s _ E ⟨he, q, p⟩ fun h' tk hk => ⟨rfl, I.turnedL (ch := [e, it]) (fun c o hc z => hk c o hc z) hf⟩
  self := fun A i s Q E st h => let ⟨⟨_, he⟩, _⟩ := st; wpAny_pyIter_enum he h
def iEnumB (K : PySem.W.Frag) (ta : TA) : TI := fun σ H R => ta σ H fun vs H1 => ∃ b a xs, vs = [.ref a] ∧ SqB K b H1 a xs ∧ R (IteB K b a) H1
theorem pi_enumB {X : Cx} {e : Expr} {ta : TA} {p pos tpos : Pos} {elts : List Expr} {kk : Nat} (hg : Gl X "enumerate") (hm : X.mg "enumerate" = none) (ha : PA X [e] ta) (hs : starEach [e] X.env = [(false, eval e X.env)]) :
    PI X (.Tuple elts kk tpos) (.Call (.Name "enumerate" p) [e] [] pos) (iEnumB X.K ta) := by
  refine ⟨fun pins s σ H R I h => ?_⟩
  refine PyProof.Rows.Call_ (ld_blt I hg hm PyProof.Rows.boot_enumerate (PyProof.Rows.callWith_type1 (thn (ha.run pos pins s σ H _ I h) fun us s1 ⟨vs, H1, I1, r1, q1⟩ => ?_) hs rfl))
  obtain ⟨b, a, xs, ex, hq, q⟩ := q1
  subst ex
  obtain ⟨u, rfl, ru⟩ := vals1 r1
  cases ru
  obtain ⟨its, rv, p', hz⟩ := inv_seqB I1 hq
  have la := qS_lt p'
  refine bk_enum_begins1 (begins_B b a its.toArray) p' fun h' he hit hsz hk => wpAny_pyIter_enum he ?_
  have I2 : L2.Inv X pins σ H1 { s1 with heap := h' } := I1.kept (t' := s1.toks) hk
  refine ⟨s1.heap.objs.size + 1, [s1.heap.objs.size + 1, s1.heap.objs.size], _, _, H1, rfl, I2, turn_enumB (Nat.ne_of_lt (Nat.lt_succ_of_lt la)) (Nat.ne_of_lt la) (Nat.succ_ne_self _), ⟨⟨.none, he⟩, qI_new _ hit⟩, fun c hc => ?_, q⟩
  have e' : c = s1.heap.objs.size + 1 ∨ c = s1.heap.objs.size := by simpa using hc
  have hle : s1.heap.objs.size ≤ c := by
    rcases e' with z | z
    · rw [z]; exact Nat.le_add_right _ _
    · rw [z]; exact Nat.le_refl _
  exact I1.fpOk hle (I1.hok.fresh hle)
structure ItOk (K : PySem.W.Frag) (W : Wd) (J : It) (ds : List D) (Hk0 : Hp) : Prop where
  len : ds.length ≤ sizeLine
  go : ∀ i Hk H g, i < ds.length → Ex Hk0 Hk → Wk W g Hk H → J.go i H
  yld : ∀ i Hk H g x H' d, ds[i]? = some d → Ex Hk0 Hk → Wk W g Hk H → J.yld i H x H' → ∃ Hk', Step W Hk H Hk' H' ∧ DrawAt W g H' ∧ Rp K W Hk' d x
  stop : ∀ i Hk H g, i = ds.length → Ex Hk0 Hk → Wk W g Hk H → J.stop i H
section
variable {K : PySem.W.Frag} {W : Wd} {Hk0 : Hp}
theorem itOk_list {a : Addr} {xs : List V} {ds : List D} (hz : xs.length ≤ sizeLine) (h : Hk0 a = some (.lst xs)) (r : RpL K W Hk0 ds xs) : ItOk K W (Itl K a) ds Hk0 where
  len := by rw [← r.len]; exact hz
  go := fun i Hk H g hi e w => by
    have : i < xs.length := by rw [r.len]; exact hi
    exact ⟨xs, xs[i], SqL.of (w.ex _ _ (e _ _ h)), by simp [this]⟩
  yld := fun i Hk H g x H' d hd e w y => by
    obtain ⟨e1, hx⟩ := y
    subst e1
    obtain ⟨v, ev, rv⟩ := (r.mono e).get hd
    have e2 := hx xs (SqL.of (w.ex _ _ (e _ _ h)))
    rw [ev] at e2
    cases e2
    exact ⟨Hk, Step.refl w.ex, w.dr, rv⟩
  stop := fun i Hk H g hi e w => ⟨xs, SqL.of (w.ex _ _ (e _ _ h)), by rw [r.len, hi]; exact Nat.le_refl _⟩
theorem itOk_tup {a : Addr} {xs : List V} {ds : List D} (hz : xs.length ≤ sizeLine) (h : SqT K Hk0 a xs) (r : RpL K W Hk0 ds xs) : ItOk K W (Itt K a) ds Hk0 where
  len := by rw [← r.len]; exact hz
  go := fun i Hk H g hi e w => by
    have : i < xs.length := by rw [r.len]; exact hi
    exact ⟨xs, xs[i], ex_t w.ex (ex_t e h), by simp [this]⟩
  yld := fun i Hk H g x H' d hd e w y => by
    obtain ⟨e1, hx⟩ := y
    subst e1
    obtain ⟨v, ev, rv⟩ := (r.mono e).get hd
    have e2 := hx xs (ex_t w.ex (ex_t e h))
    rw [ev] at e2
    cases e2
    exact ⟨Hk, Step.refl w.ex, w.dr, rv⟩
  stop := fun i Hk H g hi e w => ⟨xs, ex_t w.ex (ex_t e h), by rw [r.len, hi]; exact Nat.le_refl _⟩
theorem rngD_len : ∀ (n : Nat) (a : Int), (rngD a n).length = n
  | 0, _ => rfl
  | n + 1, a => by rw [rngD, List.length_cons, rngD_len n]
theorem rngD_get : ∀ (n : Nat) (a : Int) (i : Nat) (d : D), (rngD a n)[i]? = some d → d = .int (a + i)
  | 0, _, _, _, h => by simp [rngD] at h
  | n + 1, a, 0, d, h => by simp [rngD] at h; rw [← h]; simp
  | n + 1, a, i + 1, d, h => by
    have := rngD_get n (a + 1) i d (by simpa [rngD] using h)
    rw [this]
    congr 1
    omega
theorem itOk_rng (lo : Int) (n : Nat) (hz : n ≤ 2000000) : ItOk K W (Itr lo n) (rngD lo n) Hk0 where
  len := by rw [rngD_len]; exact Nat.le_trans hz (by decide)
  go := fun i Hk H g hi e w => by rw [rngD_len] at hi; exact hi
  yld := fun i Hk H g x H' d hd e w y => by
    obtain ⟨e1, hx⟩ := y
    subst e1
    rw [rngD_get _ _ _ _ hd, hx]
    exact ⟨Hk, Step.refl w.ex, w.dr, rfl⟩
  stop := fun i Hk H g hi e w => by rw [rngD_len] at hi; exact Nat.le_of_eq hi.symm
theorem zipD_len : ∀ xs ys : List D, (zipD xs ys).length = min xs.length ys.length
  | [], _ => by simp [zipD]
  | _ :: _, [] => by simp [zipD]
  | x :: xs, y :: ys => by rw [zipD, List.length_cons, zipD_len, List.length_cons, List.length_cons]; omega
theorem zipD_get : ∀ (xs ys : List D) (i : Nat) (d : D), (zipD xs ys)[i]? = some d → ∃ x y, xs[i]? = some x ∧ ys[i]? = some y ∧ d = .tup [x, y]
  | [], _, _, _, h => by simp [zipD] at h
  | _ :: _, [], _, _, h => by simp [zipD] at h
  | x :: xs, y :: ys, 0, d, h => by simp [zipD] at h; exact ⟨x, y, rfl, rfl, h.symm⟩
  | x :: xs, y :: ys, i + 1, d, h => by simpa using zipD_get xs ys i d (by simpa [zipD] using h)
theorem enumD_len : ∀ (xs : List D) (n : Int), (enumD n xs).length = xs.length
  | [], _ => rfl
  | x :: xs, n => by rw [enumD, List.length_cons, enumD_len xs, List.length_cons]
theorem enumD_get : ∀ (xs : List D) (n : Int) (i : Nat) (d : D), (enumD n xs)[i]? = some d → ∃ x, xs[i]? = some x ∧ d = .tup [.int (n + i), x]
  | [], _, _, _, h => by simp [enumD] at h
  | x :: xs, n, 0, d, h => by simp [enumD] at h; exact ⟨x, rfl, by rw [← h]; simp⟩
  | x :: xs, n, i + 1, d, h => by
    obtain ⟨y, h1, h2⟩ := enumD_get xs (n + 1) i d (by simpa [enumD] using h)
    refine ⟨y, by simpa using h1, ?_⟩
    rw [h2]
    congr 3
    omega
theorem sqB_mono {b : Bool} {H H' : Hp} {a : Addr} {xs : List V} (e : Ex H H') (h : SqB K b H a xs) : SqB K b H' a xs := by
  cases b
  · exact ex_t e h
  · exact ex_l e h
theorem itOk_zip {b1 b2 : Bool} {a b : Addr} {xs ys : List V} {ds es : List D} (h1 : SqB K b1 Hk0 a xs) (h2 : SqB K b2 Hk0 b ys) (r1 : RpL K W Hk0 ds xs) (r2 : RpL K W Hk0 es ys) (hz : xs.length ≤ sizeLine) : ItOk K W (ItzB K b1 b2 a b) (zipD ds es) Hk0 where
  len := by rw [zipD_len, ← r1.len]; exact Nat.le_trans (Nat.min_le_left _ _) hz
  go := fun i Hk H g hi e w => by
    rw [zipD_len] at hi
    have l1 : i < xs.length := by rw [r1.len]; omega
    have l2 : i < ys.length := by rw [r2.len]; omega
    exact ⟨xs, ys, xs[i], ys[i], sqB_mono w.ex (sqB_mono e h1), sqB_mono w.ex (sqB_mono e h2), by simp [l1], by simp [l2]⟩
  yld := fun i Hk H g v H' d hd e w y => by
    obtain ⟨T, x, y, rfl, hT, rfl, hx, hy⟩ := y
    obtain ⟨dx, dy, e1, e2, rfl⟩ := zipD_get _ _ _ _ hd
    obtain ⟨v1, f1, g1⟩ := (r1.mono e).get e1
    obtain ⟨v2, f2, g2⟩ := (r2.mono e).get e2
    have k1 := hx xs (sqB_mono w.ex (sqB_mono e h1))
    have k2 := hy ys (sqB_mono w.ex (sqB_mono e h2))
    rw [f1] at k1
    rw [f2] at k2
    cases k1
    cases k2
    have s : Step W Hk H (upd Hk T (.tup [x, y])) (upd H T (.tup [x, y])) := Step.new w.ex hT
    exact ⟨_, s, w.dr.new hT, T, [x, y], rfl, SqT.of upd_same, .cons (g1.mono s.k) (.cons (g2.mono s.k) .nil)⟩
  stop := fun i Hk H g hi e w => ⟨xs, ys, sqB_mono w.ex (sqB_mono e h1), sqB_mono w.ex (sqB_mono e h2), by rw [hi, zipD_len, r1.len, r2.len]⟩
theorem itOk_enum {b : Bool} {a : Addr} {xs : List V} {ds : List D} (h1 : SqB K b Hk0 a xs) (r1 : RpL K W Hk0 ds xs) (hz : xs.length ≤ sizeLine) : ItOk K W (IteB K b a) (enumD 0 ds) Hk0 where
  len := by rw [enumD_len, ← r1.len]; exact hz
  go := fun i Hk H g hi e w => by
    rw [enumD_len] at hi
    have l1 : i < xs.length := by rw [r1.len]; omega
    exact ⟨xs, xs[i], sqB_mono w.ex (sqB_mono e h1), by simp [l1]⟩
  yld := fun i Hk H g v H' d hd e w y => by
    obtain ⟨T, x, rfl, hT, rfl, hx⟩ := y
    obtain ⟨dx, e1, rfl⟩ := enumD_get _ _ _ _ hd
    obtain ⟨v1, f1, g1⟩ := (r1.mono e).get e1
    have k1 := hx xs (sqB_mono w.ex (sqB_mono e h1))
    rw [f1] at k1
    cases k1
    have s : Step W Hk H (upd Hk T (.tup [.int (i : Nat), x])) (upd H T (.tup [.int (i : Nat), x])) := Step.new w.ex hT
    exact ⟨_, s, w.dr.new hT, T, [.int (i : Nat), x], rfl, SqT.of upd_same, .cons (by show _ = _; rw [Int.zero_add]) (.cons (g1.mono s.k) .nil)⟩
  stop := fun i Hk H g hi e w => ⟨xs, sqB_mono w.ex (sqB_mono e h1), by rw [hi, enumD_len, r1.len]⟩
/-- what is walked, from its value -/
theorem items_sq {d : D} {v : V} {ds : List D} (r : Rp K W Hk0 d v) (e : itemsD d = some ds) : ∃ b a xs, v = .ref a ∧ SqB K b Hk0 a xs ∧ RpL K W Hk0 ds xs := by
  cases d <;> (try (simp only [itemsD] at e; cases e; done))
  · simp only [itemsD, Option.some.injEq] at e
    subst e
    obtain ⟨a, xs, rfl, h1, h2⟩ := r
    exact ⟨false, a, xs, rfl, h1, h2⟩
  · simp only [itemsD, Option.some.injEq] at e
    subst e
    obtain ⟨a, xs, rfl, h1, h2⟩ := r
    exact ⟨true, a, xs, rfl, SqL.of h1, h2⟩
end
end Bk
set_option Elab.async false
set_option linter.all false
set_option maxRecDepth 100000
set_option maxHeartbeats 1000000
namespace Bk
open PySem PySem.Spec PyProof.Rows L2
open Evl (Ex ex_l ex_t)
structure FnOkG (P : Program) (w : World) (K : PySem.W.Frag) (mg : Str → Option Value) (base : Heap) (CX : CXT) (k : Nat) (f : Addr) (fd : FuncData) (ps : List Str) (sp : Sp) : Prop where
  len : ∀ vs H Q E, sp vs H Q E → vs.length = ps.length
  run : ∀ (A : Around) (outer : List Env) (s : Shared) (H : Hp) (args : Args) (us : List Value) (vs : List V) (Q : VK) (E : XK), Room k A → A.guards = some [] → Env0 P w K mg base A outer s H → BindsTo s fd args (ps.zip us) → Vals vs us → sp vs H Q E →
    codeAny (model P w) A (.call (.ref f) args) (CR CX outer P w H s Q E) s
section
variable {X : Cx} {CX : CXT} {k : Nat} {f C : Addr} {fd : FuncData} {ps : List Str} {sp : Sp} {dvs : List V} {ds : List Value} {E : XK} {x m : Str} {p pos apos : Pos} {e o : Expr} {es : List Expr} {ta : TE} {t : TA}
theorem run_fnG {pins : List (Addr × Obj)} {σ : L2.St} {H : Hp} {s : Shared} {Q : VK} {us : List Value} {vs : List V} (F : FnOkG X.prog X.w X.K X.mg X.base CX k f fd ps sp) (hr : Room k X.A) (hg : X.A.guards = some []) (hb : Binds X.K fd ps ds) (hd : Vals dvs ds) (hx : Passes CX X E)
    (I : L2.Inv X pins σ H s) (r : Vals vs us) (h : sp (vs ++ dvs) H Q E) : wpAny (model X.prog X.w) X.A (call (.ref f) us) (EP X pins σ Q) X.xe s := by
  have r2 : Vals (vs ++ dvs) (us ++ ds) := r.append hd
  have hl : (us ++ ds).length = ps.length := by rw [← r2.length]; exact F.len _ _ _ _ h
  refine wpAny_call (codeAny_mono (F.run X.A X.stack s H ⟨us, []⟩ (us ++ ds) (vs ++ dvs) Q E hr hg I.env0 (hb s us I.kIn hl) r2 h) fun r s' hq => ?_)
  cases r with
  | error e => exact hx pins σ H s e s' I hq
  | ok fl =>
    cases fl with
    | ret u => exact I.after hq
    | next => exact False.elim hq
    | brk => exact False.elim hq
    | cont => exact False.elim hq
theorem pe_callG (F : FnOkG X.prog X.w X.K X.mg X.base CX k f fd ps sp) (hr : Room k X.A) (hgd : X.A.guards = some []) (hg : Gl X x) (hm : X.mg x = some (.ref f)) (hk : PySem.W.keepIn X.K (.ref f) = true) (hb : Binds X.K fd ps ds) (hd : Vals dvs ds) (hx : Passes CX X E)
    (ha : PA X (e :: es) t) (hdb : (x == ("__debug__" : Str)) = false) (he : starEach (e :: es) X.env = (false, eval e X.env) :: starEach es X.env) (hpl : (backTo pos (starEach es X.env)).any (·.1) = false) :
    PE X (.Call (.Name x p) (e :: es) [] pos) (tCall sp dvs E t) := by
  refine ⟨fun pins s σ H Q I h => ?_⟩
  refine wpAny_Call_Name_kw (ld_glob I hg hm ?_ hdb)
  refine PySem.W.callWith_K (h₀ := X.base) I.ok.mod.kin hk (thn (ha.run pos pins s σ H _ I h) fun us s1 ⟨vs, H1, I1, r, q⟩ => ⟨I1.kIn, ?_⟩) he hpl
  exact run_fnG F hr hgd hb hd hx I1 r q
theorem pe_callG0 (F : FnOkG X.prog X.w X.K X.mg X.base CX k f fd ps sp) (hr : Room k X.A) (hgd : X.A.guards = some []) (hg : Gl X x) (hm : X.mg x = some (.ref f)) (hk : PySem.W.keepIn X.K (.ref f) = true) (hb : Binds X.K fd ps ds) (hd : Vals dvs ds) (hx : Passes CX X E)
    (hdb : (x == ("__debug__" : Str)) = false) : PE X (.Call (.Name x p) [] [] pos) (tCall sp dvs E tNil) := by
  refine ⟨fun pins s σ H Q I h => ?_⟩
  refine wpAny_Call_Name_kw (ld_glob I hg hm ?_ hdb)
  exact PySem.W.callWith_K0 I.kIn hk (run_fnG (us := []) F hr hgd hb hd hx I .nil h)
/-- what a call with keywords binds: the values as written, the keyword-only parameters last -/
def BindK (K : PySem.W.Frag) (fd : FuncData) (ps ks : List Str) : Prop := ∀ (s : Shared) (us ws : List Value), K.In s.heap → us.length + ks.length = ps.length → ws.length = ks.length → BindsTo s fd ⟨us, ks.zip ws⟩ (ps.zip (us ++ ws))
theorem bindK_of {K : PySem.W.Frag} {fd : FuncData} {ps : List Str} (h : Binds K fd ps []) : BindK K fd ps [] := fun s us ws hI hl hw => by
  have e : ws = [] := List.length_eq_zero_iff.mp hw
  subst e
  exact h s us hI (by simpa using hl)
theorem binds_of {K : PySem.W.Frag} {fd : FuncData} {ps : List Str} (h : BindK K fd ps []) : Binds K fd ps [] := fun s us hI hl => h s us [] hI (by simpa using hl) rfl
/-- f(e, .., k = v, ..) -/
def tCallG (ps ks : List Str) (sp : Sp) (E : XK) (t tk : TA) : TE := fun σ H Q => t σ H fun vs H1 => tk σ H1 fun zs H2 => vs.length + ks.length = ps.length ∧ zs.length = ks.length ∧ sp (vs ++ zs) H2 Q E
theorem pe_callKG {kws : List Keyword} {ks : List Str} {tk : TA} (F : FnOkG X.prog X.w X.K X.mg X.base CX k f fd ps sp) (hr : Room k X.A) (hgd : X.A.guards = some []) (hg : Gl X x) (hm : X.mg x = some (.ref f)) (hk : PySem.W.keepIn X.K (.ref f) = true) (hb : BindK X.K fd ps ks) (hx : Passes CX X E)
    (ha : PA X (e :: es) t) (hkw : PK X kws tk) (hall : (backToKw pos (keywordEach kws X.env)).all (·.1.isSome) = true) (hks : (backToKw pos (keywordEach kws X.env)).filterMap (·.1) = ks)
    (hdb : (x == ("__debug__" : Str)) = false) (he : starEach (e :: es) X.env = (false, eval e X.env) :: starEach es X.env)
    (hpl : ((backTo pos (starEach (e :: es) X.env)).any (·.1) || (backToKw pos (keywordEach kws X.env)).any (·.1.isNone)) = false) :
    PE X (.Call (.Name x p) (e :: es) kws pos) (tCallG ps ks sp E t tk) := by
  refine ⟨fun pins s σ H Q I h => ?_⟩
  refine wpAny_Call_Name_kw (ld_glob I hg hm ?_ hdb)
  refine PySem.W.callWith_KW (h₀ := X.base) I.ok.mod.kin hk hall (thn (ha.run pos pins s σ H _ I h) fun us s1 ⟨vs, H1, I1, r, q⟩ => ?_) hpl he
  refine thn (hkw.run pos pins s1 σ H1 _ I1 q) fun ws s2 ⟨zs, H2, I2, rz, l1, l2, q2⟩ => ⟨I2.kIn, ?_⟩
  rw [hks]
  have r2 : Vals (vs ++ zs) (us ++ ws) := r.append rz
  refine wpAny_call (codeAny_mono (F.run X.A X.stack s2 H2 ⟨us, ks.zip ws⟩ (us ++ ws) (vs ++ zs) Q E hr hgd I2.env0 (hb s2 us ws I2.kIn (by rw [← r.length]; exact l1) (by rw [← rz.length]; exact l2)) r2 q2) fun r s' hq => ?_)
  cases r with
  | error e => exact hx pins σ H2 s2 e s' I2 hq
  | ok fl =>
    cases fl with
    | ret u => exact I2.after hq
    | next => exact False.elim hq
    | brk => exact False.elim hq
    | cont => exact False.elim hq
/-- arguments in another order -/
def pikV : Option Bool → Value
  | some b => .bool b
  | none => .none
def pikX : Option Bool → V
  | some b => .bl b
  | none => .non
inductive PickV (xs : List Value) : List Pik → List Value → Prop where
  | nil : PickV xs [] []
  | at {i : Nat} {z : Value} {r : List Pik} {zs : List Value} : xs[i]? = some z → PickV xs r zs → PickV xs (.at i :: r) (z :: zs)
  | cst {b : Option Bool} {r : List Pik} {zs : List Value} : PickV xs r zs → PickV xs (.cst b :: r) (pikV b :: zs)
inductive PickX (xs : List V) : List Pik → List V → Prop where
  | nil : PickX xs [] []
  | at {i : Nat} {z : V} {r : List Pik} {zs : List V} : xs[i]? = some z → PickX xs r zs → PickX xs (.at i :: r) (z :: zs)
  | cst {b : Option Bool} {r : List Pik} {zs : List V} : PickX xs r zs → PickX xs (.cst b :: r) (pikX b :: zs)
theorem vals_get : ∀ {vs : List V} {us : List Value} {i : Nat} {v : V} {u : Value}, Vals vs us → vs[i]? = some v → us[i]? = some u → RelV v u
  | _, _, i, _, _, .nil, e, _ => by simp at e
  | _, _, 0, _, _, .cons h _, e1, e2 => by simp at e1 e2; subst e1 e2; exact h
  | _, _, i + 1, _, _, .cons _ t, e1, e2 => vals_get t (by simpa using e1) (by simpa using e2)
theorem pick_vals {vs : List V} {us : List Value} (h : Vals vs us) : ∀ {ix : List Pik} {ys : List V} {zs : List Value}, PickX vs ix ys → PickV us ix zs → Vals ys zs
  | _, _, _, .nil, .nil => .nil
  | _, _, _, .at e t, .at e' t' => .cons (vals_get h e e') (pick_vals h t t')
  | _, _, _, .cst (b := b) t, .cst t' => .cons (by cases b with | none => rfl | some b => rfl) (pick_vals h t t')
/-- what such a call binds -/
def BindP (K : PySem.W.Frag) (fd : FuncData) (ps : List Str) (n : Nat) (ks : List Str) (ix : List Pik) : Prop := ∀ (s : Shared) (us ws : List Value), K.In s.heap → us.length = n → ws.length = ks.length → ∃ zs, PickV (us ++ ws) ix zs ∧ BindsTo s fd ⟨us, ks.zip ws⟩ (ps.zip zs)
def tCallP (n : Nat) (ks : List Str) (ix : List Pik) (sp : Sp) (E : XK) (t tk : TA) : TE := fun σ H Q => t σ H fun vs H1 => tk σ H1 fun zs H2 => vs.length = n ∧ zs.length = ks.length ∧ ∃ ys, PickX (vs ++ zs) ix ys ∧ sp ys H2 Q E
section
variable {n : Nat} {kws : List Keyword} {ks : List Str} {ix : List Pik} {tk : TA}
theorem run_callP (F : FnOkG X.prog X.w X.K X.mg X.base CX k f fd ps sp) (hr : Room k X.A) (hgd : X.A.guards = some []) (hb : BindP X.K fd ps n ks ix) (hx : Passes CX X E) {pins : List (Addr × Obj)} {σ : L2.St} {H2 : Hp} {Q : VK} {s2 : Shared} {us ws : List Value} {vs zs : List V}
    (I2 : L2.Inv X pins σ H2 s2) (r : Vals vs us) (rz : Vals zs ws) (h : vs.length = n ∧ zs.length = ks.length ∧ ∃ ys, PickX (vs ++ zs) ix ys ∧ sp ys H2 Q E) : wpAny (model X.prog X.w) X.A (call (.ref f) us (ks.zip ws)) (EP X pins σ Q) X.xe s2 := by
  obtain ⟨l1, l2, ys, px, q2⟩ := h
  obtain ⟨zs', pv, bt⟩ := hb s2 us ws I2.kIn (by rw [← r.length]; exact l1) (by rw [← rz.length]; exact l2)
  refine wpAny_call (codeAny_mono (F.run X.A X.stack s2 H2 ⟨us, ks.zip ws⟩ zs' ys Q E hr hgd I2.env0 bt (pick_vals (r.append rz) px pv) q2) fun r s' hq => ?_)
  cases r with
  | error e => exact hx pins σ H2 s2 e s' I2 hq
  | ok fl =>
    cases fl with
    | ret u => exact I2.after hq
    | next => exact False.elim hq
    | brk => exact False.elim hq
    | cont => exact False.elim hq
theorem pe_callP0 (F : FnOkG X.prog X.w X.K X.mg X.base CX k f fd ps sp) (hr : Room k X.A) (hgd : X.A.guards = some []) (hg : Gl X x) (hm : X.mg x = some (.ref f)) (hk : PySem.W.keepIn X.K (.ref f) = true) (hb : BindP X.K fd ps n ks ix) (hx : Passes CX X E)
    (hkw : PK X kws tk) (hall : (backToKw pos (keywordEach kws X.env)).all (·.1.isSome) = true) (hks : (backToKw pos (keywordEach kws X.env)).filterMap (·.1) = ks)
    (hdb : (x == ("__debug__" : Str)) = false) (hpl : (backToKw pos (keywordEach kws X.env)).any (·.1.isNone) = false) :
    PE X (.Call (.Name x p) [] kws pos) (tCallP n ks ix sp E tNil tk) := by
  refine ⟨fun pins s σ H Q I h => ?_⟩
  refine wpAny_Call_Name_kw (ld_glob I hg hm ?_ hdb)
  refine PySem.W.callWith_KW0 (h₀ := X.base) I.ok.mod.kin hk hall ?_ (by show (false || _) = false; rw [hpl]; rfl)
  refine thn (hkw.run pos pins s σ H _ I h) fun ws s2 ⟨zs, H2, I2, rz, q2⟩ => ⟨I2.kIn, ?_⟩
  rw [hks]
  exact run_callP F hr hgd hb hx I2 .nil rz q2
theorem pe_callP (F : FnOkG X.prog X.w X.K X.mg X.base CX k f fd ps sp) (hr : Room k X.A) (hgd : X.A.guards = some []) (hg : Gl X x) (hm : X.mg x = some (.ref f)) (hk : PySem.W.keepIn X.K (.ref f) = true) (hb : BindP X.K fd ps n ks ix) (hx : Passes CX X E)
    (ha : PA X (e :: es) t) (hkw : PK X kws tk) (hall : (backToKw pos (keywordEach kws X.env)).all (·.1.isSome) = true) (hks : (backToKw pos (keywordEach kws X.env)).filterMap (·.1) = ks)
    (hdb : (x == ("__debug__" : Str)) = false) (he : starEach (e :: es) X.env = (false, eval e X.env) :: starEach es X.env)
    (hpl : ((backTo pos (starEach (e :: es) X.env)).any (·.1) || (backToKw pos (keywordEach kws X.env)).any (·.1.isNone)) = false) :
    PE X (.Call (.Name x p) (e :: es) kws pos) (tCallP n ks ix sp E t tk) := by
  refine ⟨fun pins s σ H Q I h => ?_⟩
  refine wpAny_Call_Name_kw (ld_glob I hg hm ?_ hdb)
  refine PySem.W.callWith_KW (h₀ := X.base) I.ok.mod.kin hk hall (thn (ha.run pos pins s σ H _ I h) fun us s1 ⟨vs, H1, I1, r, q⟩ => ?_) hpl he
  refine thn (hkw.run pos pins s1 σ H1 _ I1 q) fun ws s2 ⟨zs, H2, I2, rz, q2⟩ => ⟨I2.kIn, ?_⟩
  rw [hks]
  exact run_callP F hr hgd hb hx I2 r rz q2
end
end
theorem guards_deeper (A : Around) (env : Env) : (A.deeper env).guards = A.guards := by first | rfl | (unfold Around.deeper; rfl) | simp [Around.deeper]
theorem fn_ofG {CX : CXT} {P : Program} {w : World} {K : PySem.W.Frag} {mg : Str → Option Value} {base : Heap} {k : Nat} {f : Addr} {name qual : Str} {params : Arguments} {body : List Stmt} {scope : Scope} {dV kV doc pm cdv ct oc : Value} {an od : Option Addr}
    {osl : Array (Option Value)} {N ps : List Str} {sp : Sp} (lk : K.lookup f = some ⟨oc, od, .func (PySem.W.fnOf name qual params body scope dV kV doc pm an cdv ct), osl⟩) (hcd : PySem.W.codeIn K cdv qual = true) (S : FnScope N ps scope)
    (len : ∀ vs H Q E, sp vs H Q E → vs.length = ps.length)
    (hbody : ∀ (A : Around) (outer : List Env) (s : Shared) (H : Hp) (vs : List V) (Q : VK) (E : XK), Room k (A.deeper (envOfC qual scope s.heap.objs.size f cdv)) → (A.deeper (envOfC qual scope s.heap.objs.size f cdv)).guards = some [] → sp vs H Q E →
      ∃ t, PSs (cxOf CX P w K mg base N qual scope f cdv A outer s H E) body t ∧ t { nx := fun _ H' => Q .non H', rt := Q } (start N vs) H) :
    FnOkG P w K mg base CX (k + 1) f (PySem.W.fnOf name qual params body scope dV kV doc pm an cdv ct) ps sp := by
  refine ⟨len, fun A outer s H args us vs Q E hr hgd e0 hb r hsp => ?_⟩
  have hl := len _ _ _ _ hsp
  have KX : K.In s.heap := e0.mod.kin.keeps fun b o e => (e0.bs b o e).1
  have lim : s.heap.NoLimit := e0.mod.nolimit.keeps fun b o e => (e0.bs b o e).1
  have hkind : ∀ y ∈ ps.zip us, scope.names.lookup y.1 = some .local ∨ (scope.names.lookup y.1 = some .cell ∧ ((cellsFrom (s.heap.objs.size + 1) scope.names []).lookup y.1).isSome = true) := fun ⟨n, v⟩ hy => by
    rcases S.par n (List.of_mem_zip hy).1 with q | q
    · exact .inl q
    · exact .inr ⟨q, PySem.W.cellsFrom_some _ _ _ (.inl q)⟩
  refine codeAny_call_function hr.depth (KX _ _ lk) rfl S.co S.gen rfl (PySem.W.codeRec_of KX hcd) (hb _ _ _ _ ?_)
  refine wpAny_newFunctionEnv_cells S.kind hkind fun env he s1 x => ?_
  subst he
  refine ⟨lim.keeps x.toInCall.keep, codeAny_func ?_⟩
  obtain ⟨t, ht, hq⟩ := hbody A outer s H vs Q E (hr.deeper _) (by rw [guards_deeper]; exact hgd) hsp
  have I : L2.Inv (cxOf CX P w K mg base N qual scope f cdv A outer s H E) [] (start N vs) H s1 := inv_start S hr.hd e0 hl r x
  refine wpAny_mono (ht.run [] s1 (start N vs) H _ I hq) (fun fl s' hs => ?_) fun e s' hs => hs
  have fin : ∀ {σ' : L2.St} {H' : Hp} {v : V} {u : Value}, L2.Inv (cxOf CX P w K mg base N qual scope f cdv A outer s H E) [] σ' H' s' → RelV v u → Q v H' → CE outer P w H s Q u s' :=
    fun {σ' H' v u} J rv q => ⟨v, H', J.os, J.bare, J.base, J.hok, rv, q⟩
  cases fl with
  | ret u =>
    obtain ⟨v, σ', H', J, rv, q⟩ := hs
    exact fin J rv q
  | next =>
    obtain ⟨σ', H', J, q⟩ := hs
    exact fin (v := V.non) (u := Value.none) J rfl q
  | brk =>
    obtain ⟨_, _, _, q⟩ := hs
    exact False.elim q
  | cont =>
    obtain ⟨_, _, _, q⟩ := hs
    exact False.elim q
end Bk
set_option Elab.async false
set_option linter.all false
set_option maxRecDepth 100000
set_option maxHeartbeats 1000000
namespace Bk
open PySem L2
open Evl (Ex ex_l ex_t)
section
variable (K : PySem.W.Frag) (W : Wd) (Ew : XK)
def tE (ev : Gm → G → R D) : TE := fun σ H Q => ∃ Hk0 H0 Γ g Hk, Fr K W Hk0 H0 Γ g σ Hk H ∧ Fin W Ew Hk H (ev Γ g) fun d _ Hk' H' => ∀ v, Rp K W Hk' d v → Q v H'
def tTt (ev : Gm → G → R Bool) : TT := fun σ H Q => ∃ Hk0 H0 Γ g Hk, Fr K W Hk0 H0 Γ g σ Hk H ∧ Fin W Ew Hk H (ev Γ g) fun b _ _ H' => Q b H'
def tAa (ev : Gm → G → R (List D)) : TA := fun σ H Q => ∃ Hk0 H0 Γ g Hk, Fr K W Hk0 H0 Γ g σ Hk H ∧ Fin W Ew Hk H (ev Γ g) fun ds _ Hk' H' => ∀ vs, RpL K W Hk' ds vs → Q vs H'
def tIi (ev : Gm → G → R (List D)) : TI := fun σ H Q => ∃ Hk0 H0 Γ g Hk, Fr K W Hk0 H0 Γ g σ Hk H ∧ Fin W Ew Hk H (ev Γ g) fun ds _ Hk' H' => ∀ J, ItOk K W J ds Hk' → Q J H'
def tOo (ev : Gm → G → R (Option Int)) : TO := fun σ H Q => ∃ Hk0 H0 Γ g Hk, Fr K W Hk0 H0 Γ g σ Hk H ∧ Fin W Ew Hk H (ev Γ g) fun o _ _ H' => Q o H'
/-- a new list -/
def tFf (ev : Gm → G → R D) : TE := fun σ H Q => ∃ Hk0 H0 Γ g Hk, Fr K W Hk0 H0 Γ g σ Hk H ∧ Fin W Ew Hk H (ev Γ g) fun d _ Hk' H' =>
  ∀ p u, H p = none → Hk' p = none → H' p = some u → Ob K W Hk' d p u → Q (.ref p) H'
def tGg (t : T) : TG := fun v σ H Q => ∃ Hk0 H0 Γ g Hk d Γ', Fr K W Hk0 H0 Γ g σ Hk H ∧ Rp K W Hk d v ∧ setT t d Γ = some Γ' ∧ ∀ σ', Fr K W Hk0 H0 Γ' g σ' Hk H → wipe σ' t.vars = wipe σ t.vars → Q σ' H
def tGgs (ts : List T) : TGs := fun vs σ H Q => ∃ Hk0 H0 Γ g Hk ds Γ', Fr K W Hk0 H0 Γ g σ Hk H ∧ RpL K W Hk ds vs ∧ setTs ts ds Γ = some Γ' ∧ ∀ σ', Fr K W Hk0 H0 Γ' g σ' Hk H → wipe σ' (varsT ts) = wipe σ (varsT ts) → Q σ' H
end
section
variable {X : Cx} {W : Wd} {Ew : XK}
theorem PE.imp {e : Expr} {t t' : TE} (h : PE X e t') (i : ∀ σ H Q, t σ H Q → t' σ H Q) : PE X e t := ⟨fun pins s σ H Q I q => h.run pins s σ H Q I (i σ H Q q)⟩
theorem PT.imp {e : Expr} {t t' : TT} (h : PT X e t') (i : ∀ σ H Q, t σ H Q → t' σ H Q) : PT X e t := ⟨fun pins s σ H Q I q => h.run pins s σ H Q I (i σ H Q q)⟩
theorem PW.imp {e : Expr} {t t' : TT} (h : PW X e t') (i : ∀ σ H Q, t σ H Q → t' σ H Q) : PW X e t := ⟨fun wh pins s σ H Q I q => h.run wh pins s σ H Q I (i σ H Q q)⟩
theorem PA.imp {e : List Expr} {t t' : TA} (h : PA X e t') (i : ∀ σ H Q, t σ H Q → t' σ H Q) : PA X e t := ⟨fun pos pins s σ H Q I q => h.run pos pins s σ H Q I (i σ H Q q)⟩
theorem PO.imp {e : Option Expr} {t t' : TO} (h : PO X e t') (i : ∀ σ H Q, t σ H Q → t' σ H Q) : PO X e t := ⟨fun pins s σ H Q I q => h.run pins s σ H Q I (i σ H Q q)⟩
theorem PI.imp {tg e : Expr} {t t' : TI} (h : PI X tg e t') (i : ∀ σ H Q, t σ H Q → t' σ H Q) : PI X tg e t := ⟨fun pins s σ H Q I q => h.run pins s σ H Q I (i σ H Q q)⟩
theorem PG.imp {tg : Expr} {t t' : TG} (h : PG X tg t') (i : ∀ v σ H Q, t v σ H Q → t' v σ H Q) : PG X tg t := ⟨fun pins s σ H v u Q I r q => h.run pins s σ H v u Q I r (i v σ H Q q)⟩
theorem PGs.imp {tg : List Expr} {t t' : TGs} (h : PGs X tg t') (i : ∀ v σ H Q, t v σ H Q → t' v σ H Q) : PGs X tg t := ⟨fun pins s σ H v u Q I r q => h.run pins s σ H v u Q I r (i v σ H Q q)⟩
variable {Hk0 H0 Hk H : Hp} {Γ : Gm} {g : G} {σ : L2.St} {K : PySem.W.Frag}
/-- an expression, then the rest -/
theorem seqE {β : Type} {f : Gm → G → R D} {k : D → G → R β} {kk : β → G → Hp → Hp → Prop} {Q : VK} (fr : Fr K W Hk0 H0 Γ g σ Hk H) (h : Fin W Ew Hk H ((f Γ g).bind k) kk)
    (hq : ∀ v d g' Hk' H', Fr K W Hk0 H0 Γ g' σ Hk' H' → Step W Hk H Hk' H' → Rp K W Hk' d v → Fin W Ew Hk' H' (k d g') kk → Q v H') : tE K W Ew f σ H Q :=
  ⟨Hk0, H0, Γ, g, Hk, fr, h.bind.mono fun d g' Hk' H' s dr kq v r => hq v d g' Hk' H' (fr.step s dr) s r kq⟩
theorem seqT {β : Type} {f : Gm → G → R Bool} {k : Bool → G → R β} {kk : β → G → Hp → Hp → Prop} {Q : Bool → Hp → Prop} (fr : Fr K W Hk0 H0 Γ g σ Hk H) (h : Fin W Ew Hk H ((f Γ g).bind k) kk)
    (hq : ∀ b g' Hk' H', Fr K W Hk0 H0 Γ g' σ Hk' H' → Step W Hk H Hk' H' → Fin W Ew Hk' H' (k b g') kk → Q b H') : tTt K W Ew f σ H Q :=
  ⟨Hk0, H0, Γ, g, Hk, fr, h.bind.mono fun d g' Hk' H' s dr kq => hq d g' Hk' H' (fr.step s dr) s kq⟩
theorem seqA {β : Type} {f : Gm → G → R (List D)} {k : List D → G → R β} {kk : β → G → Hp → Hp → Prop} {Q : List V → Hp → Prop} (fr : Fr K W Hk0 H0 Γ g σ Hk H) (h : Fin W Ew Hk H ((f Γ g).bind k) kk)
    (hq : ∀ vs ds g' Hk' H', Fr K W Hk0 H0 Γ g' σ Hk' H' → Step W Hk H Hk' H' → RpL K W Hk' ds vs → Fin W Ew Hk' H' (k ds g') kk → Q vs H') : tAa K W Ew f σ H Q :=
  ⟨Hk0, H0, Γ, g, Hk, fr, h.bind.mono fun d g' Hk' H' s dr kq v r => hq v d g' Hk' H' (fr.step s dr) s r kq⟩
theorem seqO {β : Type} {f : Gm → G → R (Option Int)} {k : Option Int → G → R β} {kk : β → G → Hp → Hp → Prop} {Q : Option Int → Hp → Prop} (fr : Fr K W Hk0 H0 Γ g σ Hk H) (h : Fin W Ew Hk H ((f Γ g).bind k) kk)
    (hq : ∀ o g' Hk' H', Fr K W Hk0 H0 Γ g' σ Hk' H' → Step W Hk H Hk' H' → Fin W Ew Hk' H' (k o g') kk → Q o H') : tOo K W Ew f σ H Q :=
  ⟨Hk0, H0, Γ, g, Hk, fr, h.bind.mono fun d g' Hk' H' s dr kq => hq d g' Hk' H' (fr.step s dr) s kq⟩
theorem seqI {β : Type} {f : Gm → G → R (List D)} {k : List D → G → R β} {kk : β → G → Hp → Hp → Prop} {Q : It → Hp → Prop} (fr : Fr K W Hk0 H0 Γ g σ Hk H) (h : Fin W Ew Hk H ((f Γ g).bind k) kk)
    (hq : ∀ J ds g' Hk' H', Fr K W Hk0 H0 Γ g' σ Hk' H' → Step W Hk H Hk' H' → ItOk K W J ds Hk' → Fin W Ew Hk' H' (k ds g') kk → Q J H') : tIi K W Ew f σ H Q :=
  ⟨Hk0, H0, Γ, g, Hk, fr, h.bind.mono fun d g' Hk' H' s dr kq v r => hq v d g' Hk' H' (fr.step s dr) s r kq⟩
theorem Fin.now {α : Type} {a : α} {kk : α → G → Hp → Hp → Prop} (fr : Fr K W Hk0 H0 Γ g σ Hk H) (h : Fin W Ew Hk H (.ok a g) kk) : kk a g Hk H := h Hk H (Step.refl fr.wk.ex) fr.wk.dr
variable {a b c : Expr} {pos : Pos} {fa fb fc : Gm → G → R D}
theorem e_cst {d : D} {v : V} {e : Expr} (h : PE X e (tC v)) (r : ∀ H, Rp X.K W H d v) : PE X e (tE X.K W Ew fun _ g => .ok d g) := PE.imp h fun σ H Q ⟨Hk0, H0, Γ, g, Hk, fr, h⟩ => Fin.now fr h v (r _)
theorem e_var {i : Nat} {e : Expr} (h : PE X e (tVar i)) : PE X e (tE X.K W Ew fun Γ g => match Γ[i]? with | some (.val d) => .ok d g | _ => .st) := PE.imp h fun σ H Q ⟨Hk0, H0, Γ, g, Hk, fr, h⟩ => by
  obtain ⟨os, sl, _⟩ := fr.sl
  cases e1 : Γ[i]? with
  | none => simp only [e1] at h; exact h.elim
  | some s =>
    cases s with
    | no => simp only [e1] at h; exact h.elim
    | own d => simp only [e1] at h; exact h.elim
    | val d =>
      simp only [e1] at h
      obtain ⟨v, ev, rv⟩ := sl.val_at e1
      exact ⟨v, ev, Fin.now fr h v rv⟩
theorem e_bin (o : Op) (ha : PE X a (tE X.K W Ew fa)) (hb : PE X b (tE X.K W Ew fb)) : PE X (.BinOp a (opOf o) b pos) (tE X.K W Ew fun Γ g => (fa Γ g).bind fun x g => (fb Γ g).bind fun y g => lift (opD o x y) g) :=
  PE.imp (pe_op (op_D o) ha hb) fun σ H Q ⟨Hk0, H0, Γ, g, Hk, fr, h⟩ => seqE fr h fun v d g1 Hk1 H1 fr1 s1 r1 h1 => seqE fr1 h1 fun v2 d2 g2 Hk2 H2 fr2 s2 r2 h2 => by
    obtain ⟨z, ez, hz⟩ := h2.lift
    exact ⟨g2, Hk2, d, d2, z, fr2.wk, r1.mono s2.k, r2, ez, fun v3 Hk3 H3 s3 dr3 r3 => hz Hk3 H3 s3 dr3 v3 r3⟩
theorem e_cmp (hu : X.A.units + 64 < cLine) (hw : W.w = X.w) (o : Cm) (ha : PE X a (tE X.K W Ew fa)) (hb : PE X b (tE X.K W Ew fb)) (hm : behindInMarks (cmOf o) b = false) :
    PE X (.Compare a [cmOf o] [b] pos) (tE X.K W Ew fun Γ g => (fa Γ g).bind fun x g => (fb Γ g).bind fun y g => lift ((cmpD o x y).map .bl) g) :=
  PE.imp (pe_cmpR (cmp_D hu hw o) ha hb hm) fun σ H Q ⟨Hk0, H0, Γ, g, Hk, fr, h⟩ => seqE fr h fun v d g1 Hk1 H1 fr1 s1 r1 h1 => seqE fr1 h1 fun v2 d2 g2 Hk2 H2 fr2 s2 r2 h2 => by
    obtain ⟨z, ez, hz⟩ := h2.lift
    exact ⟨g2, Hk2, d, d2, z, fr2.wk, r1.mono s2.k, r2, ez, fun v3 Hk3 H3 s3 dr3 r3 => hz Hk3 H3 s3 dr3 v3 r3⟩
theorem bl_of {Q : VK} {r : R D} {kk : Bool → G → Hp → Hp → Prop} (h : Fin W Ew Hk H (blR r) kk) : Fin W Ew Hk H r fun d g' Hk' H' => ∃ b, d = .bl b ∧ kk b g' Hk' H' := by
  have h' := Fin.bind (r := r) h
  refine h'.mono fun d g' Hk' H' s dr hd => ?_
  cases d with
  | bl b => exact ⟨b, rfl, hd Hk' H' (Step.refl s.kh) dr⟩
  | _ => exact hd.elim
/-- an expression as a test, by its value -/
theorem t_val {e : Expr} (h : PE X e (tE X.K W Ew fa)) (he : ∀ whole, isTrue e X.env whole = (do let v ← whole; standAt e.pos; holding [v] (truthy v))) : PT X e (tTt X.K W Ew fun Γ g => blR (fa Γ g)) :=
  PT.imp (pt_val h he) fun σ H Q ⟨Hk0, H0, Γ, g, Hk, fr, h⟩ => ⟨Hk0, H0, Γ, g, Hk, fr, (bl_of (Q := fun _ _ => True) h).mono fun d g' Hk' H' s dr ⟨b, e, hb⟩ v rv => by
    subst e
    exact ⟨b, rv, hb⟩⟩
theorem t_cmp (hu : X.A.units + 64 < cLine) (hw : W.w = X.w) (o : Cm) (ha : PE X a (tE X.K W Ew fa)) (hb : PE X b (tE X.K W Ew fb)) (hm : behindInMarks (cmOf o) b = false) :
    PT X (.Compare a [cmOf o] [b] pos) (tTt X.K W Ew fun Γ g => blR ((fa Γ g).bind fun x g => (fb Γ g).bind fun y g => lift ((cmpD o x y).map .bl) g)) :=
  PT.imp (pt_cmpR (cmp_D hu hw o) ha hb hm) fun σ H Q ⟨Hk0, H0, Γ, g, Hk, fr, h⟩ => by
    have h := bl_of (Q := fun _ _ => True) h
    show (tOp (rD X.K W fun a b => (cmpD o a b).map .bl) (tE X.K W Ew fa) (tE X.K W Ew fb)) σ H fun x H1 => ∃ c, x = .bl c ∧ Q c H1
    refine seqE fr h fun v d g1 Hk1 H1 fr1 s1 r1 h1 => seqE fr1 h1 fun v2 d2 g2 Hk2 H2 fr2 s2 r2 h2 => ?_
    obtain ⟨z, ez, hz⟩ := h2.lift
    refine ⟨g2, Hk2, d, d2, z, fr2.wk, r1.mono s2.k, r2, ez, fun v3 Hk3 H3 s3 dr3 r3 => ?_⟩
    obtain ⟨b, e, hb⟩ := hz Hk3 H3 s3 dr3
    subst e
    exact ⟨b, r3, hb⟩
theorem e_neg (ha : PE X a (tE X.K W Ew fa)) : PE X (.UnaryOp .USub a pos) (tE X.K W Ew fun Γ g => (fa Γ g).bind fun x g => match x with | .int i => .ok (.int (-i)) g | _ => .st) :=
  PE.imp (pe_un un_neg ha) fun σ H Q ⟨Hk0, H0, Γ, g, Hk, fr, h⟩ => seqE fr h fun v d g1 Hk1 H1 fr1 s1 r1 h1 => by
    cases d with
    | int i => exact ⟨i, r1, Fin.now fr1 h1 _ rfl⟩
    | _ => exact h1.elim
def chnR (o p : Cm) (fa fb fc : Gm → G → R D) : Gm → G → R D := fun Γ g => (fa Γ g).bind fun x g => (fb Γ g).bind fun y g => (lift (cmpD o x y) g).bind fun k g =>
      if k then (fc Γ g).bind fun z g => lift ((cmpD p y z).map .bl) g else .ok (.bl false) g
theorem e_chn (hu : X.A.units + 64 < cLine) (hw : W.w = X.w) (o p : Cm) (ha : PE X a (tE X.K W Ew fa)) (hb : PE X b (tE X.K W Ew fb)) (hc : PE X c (tE X.K W Ew fc)) (hm : lastMarks [cmOf o, cmOf p] [b, c] = false) :
    PE X (.Compare a [cmOf o, cmOf p] [b, c] pos) (tE X.K W Ew (chnR o p fa fb fc)) :=
  PE.imp (pe_chain (cmp_D hu hw o) (cmp_D hu hw p) ha hb hc hm) fun σ H Q ⟨Hk0, H0, Γ, g, Hk, fr, h⟩ => seqE fr h fun v d g1 Hk1 H1 fr1 s1 r1 h1 => seqE fr1 h1 fun v2 d2 g2 Hk2 H2 fr2 s2 r2 h2 => by
    obtain ⟨k, ek, hk⟩ := h2.bind.lift
    refine ⟨g2, Hk2, d, d2, .bl k, fr2.wk, r1.mono s2.k, r2, (by show Option.map D.bl (cmpD o d d2) = _; rw [ek]; rfl), fun v3 Hk3 H3 s3 dr3 r3 => ⟨k, r3, ?_⟩⟩
    have h3 := hk Hk3 H3 s3 dr3
    have fr3 := fr2.step s3 dr3
    cases k with
    | false => exact iteF (Fin.now fr3 h3 _ rfl)
    | true =>
      refine iteT (seqE fr3 h3 fun v4 d4 g4 Hk4 H4 fr4 s4 r4 h4 => ?_)
      obtain ⟨z, ez, hz⟩ := h4.lift
      exact ⟨g4, Hk4, d2, d4, z, fr4.wk, (r2.mono s3.k).mono s4.k, r4, ez, fun v5 Hk5 H5 s5 dr5 r5 => hz Hk5 H5 s5 dr5 v5 r5⟩
theorem t_chn (hu : X.A.units + 64 < cLine) (hw : W.w = X.w) (o p : Cm) (ha : PE X a (tE X.K W Ew fa)) (hb : PE X b (tE X.K W Ew fb)) (hc : PE X c (tE X.K W Ew fc)) (hm : lastMarks [cmOf o, cmOf p] [b, c] = false) :
    PT X (.Compare a [cmOf o, cmOf p] [b, c] pos) (tTt X.K W Ew fun Γ g => blR (chnR o p fa fb fc Γ g)) :=
  PT.imp (pt_chain (cmp_D hu hw o) (cmp_D hu hw p) ha hb hc hm) fun σ H Q ⟨Hk0, H0, Γ, g, Hk, fr, h⟩ => by
    have h := bl_of (Q := fun _ _ => True) h
    show (tChain (rD X.K W fun a b => (cmpD o a b).map .bl) (rD X.K W fun a b => (cmpD p a b).map .bl) (tE X.K W Ew fa) (tE X.K W Ew fb) (tE X.K W Ew fc)) σ H fun x H1 => ∃ c, x = .bl c ∧ Q c H1
    unfold chnR at h
    refine seqE fr h fun v d g1 Hk1 H1 fr1 s1 r1 h1 => seqE fr1 h1 fun v2 d2 g2 Hk2 H2 fr2 s2 r2 h2 => ?_
    obtain ⟨k, ek, hk⟩ := h2.bind.lift
    refine ⟨g2, Hk2, d, d2, .bl k, fr2.wk, r1.mono s2.k, r2, (by show Option.map D.bl (cmpD o d d2) = _; rw [ek]; rfl), fun v3 Hk3 H3 s3 dr3 r3 => ⟨k, r3, ?_⟩⟩
    have h3 := hk Hk3 H3 s3 dr3
    have fr3 := fr2.step s3 dr3
    cases k with
    | false =>
      obtain ⟨b, e, hb⟩ := Fin.now fr3 h3
      cases e
      exact iteF ⟨false, rfl, hb⟩
    | true =>
      refine iteT (seqE fr3 h3 fun v4 d4 g4 Hk4 H4 fr4 s4 r4 h4 => ?_)
      obtain ⟨z, ez, hz⟩ := h4.lift
      refine ⟨g4, Hk4, d2, d4, z, fr4.wk, (r2.mono s3.k).mono s4.k, r4, ez, fun v5 Hk5 H5 s5 dr5 r5 => ?_⟩
      obtain ⟨b, e, hb⟩ := hz Hk5 H5 s5 dr5
      subst e
      exact ⟨b, r5, hb⟩
def andR (fa fb : Gm → G → R D) : Gm → G → R D := fun Γ g => (blR (fa Γ g)).bind fun k g => if k then (blR (fb Γ g)).bind fun j g => .ok (.bl j) g else .ok (.bl false) g
def orR (fa fb : Gm → G → R D) : Gm → G → R D := fun Γ g => (blR (fa Γ g)).bind fun k g => if k then .ok (.bl true) g else (blR (fb Γ g)).bind fun j g => .ok (.bl j) g
/-- a bool's expression, then the rest -/
theorem seqB {β : Type} {f : Gm → G → R D} {k : Bool → G → R β} {kk : β → G → Hp → Hp → Prop} {Q : VK} (fr : Fr K W Hk0 H0 Γ g σ Hk H) (h : Fin W Ew Hk H ((blR (f Γ g)).bind k) kk)
    (hq : ∀ b g' Hk' H', Fr K W Hk0 H0 Γ g' σ Hk' H' → Step W Hk H Hk' H' → Fin W Ew Hk' H' (k b g') kk → Q (.bl b) H') : tE K W Ew f σ H Q :=
  ⟨Hk0, H0, Γ, g, Hk, fr, (bl_of (Q := Q) h.bind).mono fun d g' Hk' H' s dr ⟨b, e, hb⟩ v rv => by
    subst e
    rw [show v = .bl b from rv]
    exact hq b g' Hk' H' (fr.step s dr) s hb⟩
theorem e_and {rest : List Expr} (ha : PE X a (tE X.K W Ew fa)) (hb : PE X (.BoolOp .And (b :: rest) pos) (tE X.K W Ew fb)) : PE X (.BoolOp .And (a :: b :: rest) pos) (tE X.K W Ew (andR fa fb)) :=
  PE.imp (pe_and ha hb) fun σ H Q ⟨Hk0, H0, Γ, g, Hk, fr, h⟩ => seqB fr h fun k g1 Hk1 H1 fr1 s1 h1 => ⟨k, rfl, by
    cases k with
    | false => exact iteF (Fin.now fr1 h1 _ rfl)
    | true => exact iteT (seqB fr1 h1 fun j g2 Hk2 H2 fr2 s2 h2 => Fin.now fr2 h2 _ rfl)⟩
theorem e_or {rest : List Expr} (ha : PE X a (tE X.K W Ew fa)) (hb : PE X (.BoolOp .Or (b :: rest) pos) (tE X.K W Ew fb)) : PE X (.BoolOp .Or (a :: b :: rest) pos) (tE X.K W Ew (orR fa fb)) :=
  PE.imp (pe_or ha hb) fun σ H Q ⟨Hk0, H0, Γ, g, Hk, fr, h⟩ => seqB fr h fun k g1 Hk1 H1 fr1 s1 h1 => ⟨k, rfl, by
    cases k with
    | true => exact iteT (Fin.now fr1 h1 _ rfl)
    | false => exact iteF (seqB fr1 h1 fun j g2 Hk2 H2 fr2 s2 h2 => Fin.now fr2 h2 _ rfl)⟩
theorem e_not (ha : PE X a (tE X.K W Ew fa)) : PE X (.UnaryOp .Not a pos) (tE X.K W Ew fun Γ g => (blR (fa Γ g)).bind fun k g => .ok (.bl (!k)) g) :=
  PE.imp (pe_not ha) fun σ H Q ⟨Hk0, H0, Γ, g, Hk, fr, h⟩ => seqB fr h fun k g1 Hk1 H1 fr1 s1 h1 => ⟨k, rfl, Fin.now fr1 h1 _ rfl⟩
/-- tests -/
theorem w_and {rest : List Expr} (ha : PT X a (tTt X.K W Ew fun Γ g => blR (fa Γ g))) (hb : PW X (.BoolOp .And (b :: rest) pos) (tTt X.K W Ew fun Γ g => blR (fb Γ g))) : PW X (.BoolOp .And (a :: b :: rest) pos) (tTt X.K W Ew fun Γ g => blR (andR fa fb Γ g)) :=
  PW.imp (pw_and ha hb) fun σ H Q ⟨Hk0, H0, Γ, g, Hk, fr, h⟩ => by
    have h := bl_of (Q := fun _ _ => True) h
    unfold andR at h
    refine seqT (f := fun Γ g => blR (fa Γ g)) fr h fun k g1 Hk1 H1 fr1 s1 h1 => ?_
    cases k with
    | false =>
      obtain ⟨b, e, hb⟩ := Fin.now fr1 h1
      cases e
      exact iteF hb
    | true =>
      refine iteT (seqT (f := fun Γ g => blR (fb Γ g)) fr1 h1 fun j g2 Hk2 H2 fr2 s2 h2 => ?_)
      obtain ⟨b, e, hb⟩ := Fin.now fr2 h2
      cases e
      exact hb
theorem w_or {rest : List Expr} (ha : PT X a (tTt X.K W Ew fun Γ g => blR (fa Γ g))) (hb : PW X (.BoolOp .Or (b :: rest) pos) (tTt X.K W Ew fun Γ g => blR (fb Γ g))) : PW X (.BoolOp .Or (a :: b :: rest) pos) (tTt X.K W Ew fun Γ g => blR (orR fa fb Γ g)) :=
  PW.imp (pw_or ha hb) fun σ H Q ⟨Hk0, H0, Γ, g, Hk, fr, h⟩ => by
    have h := bl_of (Q := fun _ _ => True) h
    unfold orR at h
    refine seqT (f := fun Γ g => blR (fa Γ g)) fr h fun k g1 Hk1 H1 fr1 s1 h1 => ?_
    cases k with
    | true =>
      obtain ⟨b, e, hb⟩ := Fin.now fr1 h1
      cases e
      exact iteT hb
    | false =>
      refine iteF (seqT (f := fun Γ g => blR (fb Γ g)) fr1 h1 fun j g2 Hk2 H2 fr2 s2 h2 => ?_)
      obtain ⟨b, e, hb⟩ := Fin.now fr2 h2
      cases e
      exact hb
theorem t_not (ha : PT X a (tTt X.K W Ew fun Γ g => blR (fa Γ g))) : PT X (.UnaryOp .Not a pos) (tTt X.K W Ew fun Γ g => blR ((blR (fa Γ g)).bind fun k g => .ok (.bl (!k)) g)) :=
  PT.imp (pt_not ha) fun σ H Q ⟨Hk0, H0, Γ, g, Hk, fr, h⟩ => by
    have h := bl_of (Q := fun _ _ => True) h
    refine seqT (f := fun Γ g => blR (fa Γ g)) fr h fun k g1 Hk1 H1 fr1 s1 h1 => ?_
    obtain ⟨b, e, hb⟩ := Fin.now fr1 h1
    cases e
    exact hb
def ifeR (fc fa fb : Gm → G → R D) : Gm → G → R D := fun Γ g => (blR (fc Γ g)).bind fun k g => if k then fa Γ g else fb Γ g
theorem e_ife (hc : PT X c (tTt X.K W Ew fun Γ g => blR (fc Γ g))) (ha : PE X a (tE X.K W Ew fa)) (hb : PE X b (tE X.K W Ew fb)) : PE X (.IfExp c a b pos) (tE X.K W Ew (ifeR fc fa fb)) :=
  PE.imp (pe_ifExp hc ha hb) fun σ H Q ⟨Hk0, H0, Γ, g, Hk, fr, h⟩ => seqT (f := fun Γ g => blR (fc Γ g)) fr h fun k g1 Hk1 H1 fr1 s1 h1 => by
    cases k with
    | true => exact iteT ⟨Hk0, H0, Γ, g1, Hk1, fr1, h1⟩
    | false => exact iteF ⟨Hk0, H0, Γ, g1, Hk1, fr1, h1⟩
theorem DrawAt.unk_of {p : Addr} (_ : DrawAt W g H) (w : Wk W g Hk H) (hp : H p = none) : Hk p = none := by
  cases q : Hk p with
  | none => rfl
  | some o => rw [w.ex p o q] at hp; cases hp
/-- what is new may be told at once -/
theorem f_tell {e : Expr} (h : PE X e (tFf X.K W Ew fa)) (hl : ∀ Γ g d g', fa Γ g = .ok d g' → isOb d = true) : PE X e (tE X.K W Ew fa) := PE.imp h fun σ H Q ⟨Hk0, H0, Γ, g, Hk, fr, h⟩ => ⟨Hk0, H0, Γ, g, Hk, fr, by
  cases r : fa Γ g with
  | ok d g' =>
    rw [r] at h
    intro Hk' H' s dr p u hp hk hp' rl
    exact h _ H' (s.tell hp hp') dr (.ref p) ((rl.mono (Evl.Ex.new hk)).rp upd_same)
  | ex c ds g' => rw [r] at h; exact h
  | st => rw [r] at h; exact h⟩
variable {es : List Expr} {fs : Gm → G → R (List D)}
theorem a_nil : PA X [] (tAa X.K W Ew fun _ g => .ok [] g) := PA.imp pa_nil fun σ H Q ⟨Hk0, H0, Γ, g, Hk, fr, h⟩ => Fin.now fr h [] rfl
theorem a_cons (ha : PE X a (tE X.K W Ew fa)) (hs : PA X es (tAa X.K W Ew fs)) (hn : starEach (a :: es) X.env = (false, eval a X.env) :: starEach es X.env) :
    PA X (a :: es) (tAa X.K W Ew fun Γ g => (fa Γ g).bind fun x g => (fs Γ g).bind fun xs g => .ok (x :: xs) g) :=
  PA.imp (pa_cons ha hs hn) fun σ H Q ⟨Hk0, H0, Γ, g, Hk, fr, h⟩ => seqE fr h fun v d g1 Hk1 H1 fr1 s1 r1 h1 => seqA fr1 h1 fun vs ds g2 Hk2 H2 fr2 s2 r2 h2 => Fin.now fr2 h2 _ (.cons (r1.mono s2.k) r2)
theorem Fin.monoE {α : Type} {r : R α} {k k' : α → G → Hp → Hp → Prop} (h : Fin W Ew Hk H r k) (hk : ∀ a g Hk' H', r = .ok a g → Step W Hk H Hk' H' → DrawAt W g H' → k a g Hk' H' → k' a g Hk' H') : Fin W Ew Hk H r k' := by
  cases r with
  | ok a g => exact fun Hk' H' s d => hk a g Hk' H' rfl s d (h Hk' H' s d)
  | ex c ds g => exact h
  | st => exact h
theorem seqAE {β : Type} {f : Gm → G → R (List D)} {k : List D → G → R β} {kk : β → G → Hp → Hp → Prop} {Q : List V → Hp → Prop} (fr : Fr K W Hk0 H0 Γ g σ Hk H) (h : Fin W Ew Hk H ((f Γ g).bind k) kk)
    (hq : ∀ vs ds g' Hk' H', f Γ g = .ok ds g' → Fr K W Hk0 H0 Γ g' σ Hk' H' → Step W Hk H Hk' H' → RpL K W Hk' ds vs → Fin W Ew Hk' H' (k ds g') kk → Q vs H') : tAa K W Ew f σ H Q :=
  ⟨Hk0, H0, Γ, g, Hk, fr, h.bind.monoE fun d g' Hk' H' e s dr kq v r => hq v d g' Hk' H' e (fr.step s dr) s r kq⟩
theorem e_tup {x1 : Nat} (hlen : ∀ Γ g ds g', fs Γ g = .ok ds g' → ds.length ≤ 1000000) (hs : PA X es (tAa X.K W Ew fs)) : PE X (.Tuple es x1 pos) (tE X.K W Ew fun Γ g => (fs Γ g).bind fun xs g => .ok (.tup xs) g) :=
  PE.imp (pe_tup hs) fun σ H Q ⟨Hk0, H0, Γ, g, Hk, fr, h⟩ => seqAE fr h fun vs ds g1 Hk1 H1 e fr1 s1 r1 h1 => ⟨size_le (by rw [r1.len]; exact hlen _ _ _ _ e), new_tup fr1.wk r1 fun v Hk' H' s dr r => h1 Hk' H' s dr v r⟩
/-- a display of a list, new -/
theorem f_lst (hlen : ∀ Γ g ds g', fs Γ g = .ok ds g' → ds.length ≤ 1000000) (hs : PA X es (tAa X.K W Ew fs)) : PE X (.List es pos) (tFf X.K W Ew fun Γ g => (fs Γ g).bind fun xs g => .ok (.lst xs) g) :=
  PE.imp (pe_lst hs) fun σ H Q ⟨Hk0, H0, Γ, g, Hk, fr, h⟩ => seqAE fr h fun vs ds g1 Hk1 H1 e fr1 s1 r1 h1 => ⟨size_le (by rw [r1.len]; exact hlen _ _ _ _ e), fun p hp => by
    have s2 : Step W Hk1 H1 Hk1 (upd H1 p (.lst vs)) := Step.hid fr1.wk.ex hp
    have hp0 : H p = none := by
      cases q : H p with
      | none => rfl
      | some o => obtain ⟨o', h'⟩ := s1.t p o q; rw [hp] at h'; cases h'
    exact h1 Hk1 _ s2 (fr1.wk.dr.new hp) p _ hp0 (fr1.wk.dr.unk_of fr1.wk hp) upd_same ⟨vs, rfl, r1⟩⟩
end
end Bk
set_option Elab.async false
set_option linter.all false
set_option maxRecDepth 100000
set_option maxHeartbeats 2000000
namespace Bk
open PySem L2
open Evl (Ex ex_l ex_t)
/-- the keys of the dict at d, in their order -/
def Itkx (d : Addr) (o : Obj) (xs : List (NestedKey × Addr × V)) : It :=
  ⟨fun i H => H d = some (ObX d o) ∧ i < xs.length, fun i H x H' => H' = H ∧ ∃ y, xs[i]? = some y ∧ x = V.ref y.2.1, fun i H => H d = some (ObX d o) ∧ xs.length ≤ i⟩
section
variable {P : Program} {w w' : World} {K : PySem.W.Frag} {tg : Expr} {d : Addr} {o : Obj} {es : Array DictEntry} {ep : Nat}
theorem turn_keysX {xs : List (NestedKey × Addr × V)} (it : Addr) (hod : o.data = .dict es ep) (hsz : es.size = xs.length) (ent : ∀ (i : Nat) (x : NestedKey × Addr × V), xs[i]? = some x → ∃ en : DictEntry, es[i]? = some en ∧ en.key = .ref x.2.1 ∧ RelV x.2.2 en.val) :
    Turn P w K tg (Itkx d o xs) [it] it (fun i h => h.IsKeyIter it d i xs.length ep) where
  mem := by simp
  obj := fun i h st b hb => by
    have e : b = it := by simpa using hb
    subst e
    obtain ⟨oi, e, c, dd⟩ := st
    exact ⟨oi, e, fun v z => by rw [dd] at z; cases z⟩
  keep := fun i h h' st k => st.at fun oi e => k it (by simp) oi e
  item := by
    intro X hP hw hK hc i pins s σ H E I hf st hg
    subst hP hw hK
    obtain ⟨hd, hi⟩ := hg
    obtain ⟨f0, f1, f2, f3, f4, f5⟩ := hf it (by simp)
    have hgd := obX_at I.hok hd
    obtain ⟨x, hx⟩ : ∃ p, xs[i]? = some p := ⟨xs[i], List.getElem?_eq_getElem hi⟩
    obtain ⟨en, hen, hkey, _⟩ := ent i x hx
    refine next_key_item st hgd hod hsz hen fun h' st' sb => ?_
    have I1 : L2.Inv X pins σ H { s with heap := h' } := I.turned (t' := s.toks) (fun b ob hb e => (sb.2 b hb).trans e) f0 f1 f3 f4 f5
    obtain ⟨oi, e, c, dd⟩ := id st'
    exact ⟨en.key, rfl, go_of (s := { s with heap := h' }) e c dd (by decide) ⟨.ref x.2.1, H, I1, hkey, ⟨rfl, x, hx, rfl⟩, st', fun b hb => (hf b hb).1⟩⟩
  done := by
    intro X hP hw hK hc i pins s σ H E I hf st hg
    subst hP hw hK
    obtain ⟨hd, hi⟩ := hg
    obtain ⟨f0, f1, f2, f3, f4, f5⟩ := hf it (by simp)
    exact next_key_end (I.ok.hd hc) st (obX_at I.hok hd) hod hsz hi fun h' eb => ⟨rfl, I.turned (t' := s.toks) (fun b ob hb e => eb b ob hb e) f0 f1 f3 f4 f5⟩
  self := fun A i s Q E st h => by
    refine wpAny_pyIter_slot st.typeIs F.slot_dict_keyiterator_iter (wpAny_call_entry F.slot_dict_keyiterator_iter st.typeIs F.entry_dict_keyiterator_iter ?_ (F.args_dict_keyiterator_iter_1 _))
    show wpAny _ _ (ret (.ref it)) _ _ s
    exact wpAny_pure ⟨_, rfl, "dict_keyiterator", _, st.typeIs, F.slot_dict_keyiterator_next.lookup, h⟩
end
def iKeysX (td : TE) : TI := fun σ H R => td σ H fun x H1 => ∃ d o xs w, x = .ref d ∧ (d == sysModules) = false ∧ H1 d = some (ObX d o) ∧ DcIs w o xs ∧ R (Itkx d o xs) H1
theorem pi_keysX {X : Cx} {tg e : Expr} {td : TE} (he : PE X e td) : PI X tg e (iKeysX td) := by
  refine ⟨fun pins s σ H R I h => ?_⟩
  refine thn (he.run pins s σ H _ I h) fun u s1 ⟨x, H1, I1, rx, d, o, xs, w, ex, hs, hd, dc, q⟩ => ?_
  subst ex
  obtain rfl : u = Value.ref d := rx
  obtain ⟨h1, es, ep, h2, h3, h4⟩ := dc_entries dc
  refine iter_keys hs (obX_at I1.hok hd) h1 h2 (pi_one (tk := s1.toks) I1 _ (turn_keysX _ h2 h3 h4) ⟨_, Heap.get?_push_size _ rfl, rfl, ?_⟩ q)
  rw [h3] <;> rfl
theorem itOk_keys {K : PySem.W.Frag} {W : Wd} {Hk0 : Hp} {d : Addr} {o : Obj} {xs : List (NestedKey × Addr × V)} {ks : List D} (hz : ks.length ≤ sizeLine) (h : Hk0 d = some (ObX d o)) (r : RpL K W Hk0 ks (xs.map fun x => V.ref x.2.1)) : ItOk K W (Itkx d o xs) ks Hk0 := by
  have hl : xs.length = ks.length := by rw [← r.len, List.length_map]
  exact {
    len := hz
    go := fun i Hk H g hi e w => ⟨w.ex _ _ (e _ _ h), by rw [hl]; exact hi⟩
    yld := fun i Hk H g x H' d' hd e w y => by
      obtain ⟨e1, z, hz', hx⟩ := y
      subst e1
      obtain ⟨v, ev, rv⟩ := (r.mono e).get hd
      rw [List.getElem?_map, hz'] at ev
      cases ev
      subst hx
      exact ⟨Hk, Step.refl w.ex, w.dr, rv⟩
    stop := fun i Hk H g hi e w => ⟨w.ex _ _ (e _ _ h), by rw [hl, hi]; exact Nat.le_refl _⟩ }
end Bk
set_option Elab.async false
set_option linter.all false
set_option maxRecDepth 100000
set_option maxHeartbeats 2000000
namespace Bk
open PySem L2 PySem.Spec
open Evl (Ex ex_l ex_t)
/-- the pairs of the dict at d, in their order, in new pairs -/
def Itix (d : Addr) (o : Obj) (xs : List (NestedKey × Addr × V)) : It :=
  ⟨fun i H => H d = some (ObX d o) ∧ i < xs.length, fun i H x H' => ∃ T y, xs[i]? = some y ∧ x = V.ref T ∧ H T = none ∧ H' = upd H T (.tup [V.ref y.2.1, y.2.2]), fun i H => H d = some (ObX d o) ∧ xs.length ≤ i⟩
section
variable {P : Program} {w w' : World} {K : PySem.W.Frag} {d : Addr} {o : Obj} {es : Array DictEntry} {ep : Nat}
theorem turn_itemsX {xs : List (NestedKey × Addr × V)} {elts : List Expr} {kk : Nat} {tpos : Pos} (it : Addr) (hex : o.ExactDict) (hod : o.data = .dict es ep) (hsz : es.size = xs.length) (ent : ∀ (i : Nat) (x : NestedKey × Addr × V), xs[i]? = some x → ∃ en : DictEntry, es[i]? = some en ∧ en.key = .ref x.2.1 ∧ RelV x.2.2 en.val) :
    Turn P w K (.Tuple elts kk tpos) (Itix d o xs) [it] it (fun i h => ∃ ok ov, IsItemIter h it d i xs.length ep ok ov) where
  mem := by simp
  obj := fun i h st b hb => by
    have e : b = it := by simpa using hb
    subst e
    obtain ⟨ok, ov, e⟩ := st
    exact ⟨_, e, fun v z => nomatch z⟩
  keep := fun i h h' st k => let ⟨ok, ov, e⟩ := st; ⟨ok, ov, k it (by simp) _ e⟩
  item := by
    intro X hP hw hK hc i pins s σ H E I hf st hg
    subst hP hw hK
    obtain ⟨hd, hi⟩ := hg
    have hgd := obX_at I.hok hd
    have hraw : s.heap.DictRaw d es ep := ⟨o, hgd, hex, hod⟩
    obtain ⟨x, hx⟩ : ∃ p, xs[i]? = some p := ⟨xs[i], List.getElem?_eq_getElem hi⟩
    obtain ⟨en, hen, hkey, hval⟩ := ent i x hx
    obtain ⟨ok, ov, he⟩ := st
    rw [← hsz] at he
    have hlt : it < s.heap.objs.size := Heap.lt_size he
    have hi2 : i < es.size := by rw [hsz]; exact hi
    have een : es[i] = en := by rw [Array.getElem?_eq_getElem hi2] at hen; exact Option.some.inj hen
    refine wpAny_pyNext_items_item_raw he hraw hi2 fun h' ho hT hz hk => ?_
    rw [een, hkey] at ho hT
    refine ⟨_, rfl, wpAny_letOwnedTupleGo_items (s := { s with heap := h' }) ho fun h'' he' sb => ?_⟩
    have hT2 : h''.get? s.heap.objs.size = some { cls := .type "tuple", data := .seq #[.ref x.2.1, en.val] } := (sb.2 _ (Nat.ne_of_gt hlt)).trans hT
    have new : ObjOk X.prog X.w (upd H s.heap.objs.size (.tup [V.ref x.2.1, x.2.2])) h'' s.heap.objs.size (.tup [V.ref x.2.1, x.2.2]) :=
      ⟨by show 2 ≤ sizeLine; decide, [.ref x.2.1, en.val], .cons rfl (.cons hval .nil), ⟨_, hT2, rfl, _, rfl⟩⟩
    have I1 : L2.Inv X pins σ (upd H s.heap.objs.size (.tup [V.ref x.2.1, x.2.2])) { s with heap := h'' } :=
      I.turnedNew (t' := s.toks) (ch := [it]) (fun b ob hb e => (sb.2 b (by simpa using hb)).trans (hk b ob (by simpa using hb) e)) hf (Nat.le_refl _) new
    refine ⟨.ref s.heap.objs.size, _, I1, rfl, ⟨_, x, hx, rfl, I.hok.fresh (Nat.le_refl _), rfl⟩, ⟨.ref x.2.1, en.val, ?_⟩, fun b hb => ?_⟩
    · rw [← hsz]; exact he'
    · have e : b = it := by simpa using hb
      rw [e, upd_ne (Nat.ne_of_lt hlt)]
      exact (hf it (by simp)).1
  done := by
    intro X hP hw hK hc i pins s σ H E I hf st hg
    subst hP hw hK
    obtain ⟨hd, hi⟩ := hg
    obtain ⟨f0, f1, f2, f3, f4, f5⟩ := hf it (by simp)
    have hraw : s.heap.DictRaw d es ep := ⟨o, obX_at I.hok hd, hex, hod⟩
    obtain ⟨ok, ov, he⟩ := st
    rw [← hsz] at he
    exact wpAny_pyNext_items_end_raw (I.ok.hd hc) he hraw (by rw [hsz]; exact hi) fun h' eb => ⟨rfl, I.turned (t' := s.toks) (fun b ob hb e => eb b ob hb e) f0 f1 f3 f4 f5⟩
  self := fun A i s Q E st h => let ⟨_, _, e⟩ := st; PySem.W.kcp_self e h
end
def iItemsX (td : TE) : TI := fun σ H R => td σ H fun x H1 => ∃ d o xs w, x = .ref d ∧ (d == sysModules) = false ∧ H1 d = some (ObX d o) ∧ DcIs w o xs ∧ R (Itix d o xs) H1
theorem pi_itemsX {X : Cx} {e : Expr} {td : TE} {elts : List Expr} {kk : Nat} {tpos apos cpos : Pos} (he : PE X e td) (hbase : attributeBase e "items" X.env (eval e X.env) = eval e X.env) (hline : (apos.endLine == cpos.line) = true) :
    PI X (.Tuple elts kk tpos) (.Call (.Attribute e "items" apos) [] [] cpos) (iItemsX td) := by
  refine ⟨fun pins s σ H R I h => ?_⟩
  refine wpAny_Call_method (T := "dict") (id := "dict.items") hbase rfl hline F.plainAttrs_dict F.slot_dict_items F.type_dict_items (thn (he.run pins s σ H _ I h) fun u s1 ⟨x, H1, I1, rx, d, o, xs, w, ex, hs, hd, dc, q⟩ => ?_)
  subst ex
  obtain rfl : u = Value.ref d := rx
  obtain ⟨h1, es, ep, h2, h3, h4⟩ := dc_entries dc
  have hraw : s1.heap.DictRaw d es ep := ⟨o, obX_at I1.hok hd, h1, h2⟩
  refine ⟨hraw.typeIs, fun ob z => ?_, ?_⟩
  · cases z
    exact ⟨o, obX_at I1.hok hd, h1.2.1⟩
  have I2 : L2.Inv X pins σ H1 { s1 with heap := s1.heap.push { cls := .type "dict_items", data := .fields #[.ref d] } } := I1.kept (t' := s1.toks) fun b ob q => Heap.get?_push_of_some _ q
  have fin : wpAny (model X.prog X.w) X.A (pyIter (.ref s1.heap.objs.size)) (PIE X pins σ (.Tuple elts kk tpos) R) X.xe { s1 with heap := s1.heap.push { cls := .type "dict_items", data := .fields #[.ref d] } } := by
    refine wpAny_pyIter_items_raw (d := d) ⟨_, Heap.get?_push_size _ rfl, rfl, rfl⟩ (hraw.at fun o z => Heap.get?_push_of_some _ z) (pi_one (tk := s1.toks) I2 _ (turn_itemsX _ h1 h2 h3 h4) ⟨.none, .none, ?_⟩ q)
    rw [← h3]
    exact Heap.get?_push_size _ rfl
  show wpAny _ _ (callWith cpos (.builtin "dict.items") [.ref d] [] []) _ X.xe s1
  exact method_meetsIn F.slot_dict_items F.entry_dict_items rfl (PySem.evalArgs_none ⟨rfl, hraw.typeIs, F.args_dict_items_1 _, _, meets_dict_items_raw d hs, ⟨_, _, hraw⟩, fin⟩)
theorem itOk_items {K : PySem.W.Frag} {W : Wd} {Hk0 : Hp} {d : Addr} {o : Obj} {xs : List (NestedKey × Addr × V)} {ks vs : List D} (hz : ks.length ≤ sizeLine) (h : Hk0 d = some (ObX d o)) (r : RpL K W Hk0 ks (xs.map fun x => V.ref x.2.1)) (r2 : RpL K W Hk0 vs (xs.map fun x => x.2.2)) : ItOk K W (Itix d o xs) (zipD ks vs) Hk0 := by
  have hl : xs.length = ks.length := by rw [← r.len, List.length_map]
  have hl2 : xs.length = vs.length := by rw [← r2.len, List.length_map]
  exact {
    len := by rw [zipD_len]; exact Nat.le_trans (Nat.min_le_left _ _) hz
    go := fun i Hk H g hi e w => ⟨w.ex _ _ (e _ _ h), by rw [zipD_len] at hi; omega⟩
    yld := fun i Hk H g x H' d' hd e w y => by
      obtain ⟨T, z, hz', rfl, hT, rfl⟩ := y
      obtain ⟨dx, dy, e1, e2, rfl⟩ := zipD_get _ _ _ _ hd
      obtain ⟨v1, f1, g1⟩ := (r.mono e).get e1
      obtain ⟨v2, f2, g2⟩ := (r2.mono e).get e2
      rw [List.getElem?_map, hz'] at f1 f2
      cases f1
      cases f2
      have s : Step W Hk H (upd Hk T (.tup [V.ref z.2.1, z.2.2])) (upd H T (.tup [V.ref z.2.1, z.2.2])) := Step.new w.ex hT
      exact ⟨_, s, w.dr.new hT, T, [V.ref z.2.1, z.2.2], rfl, SqT.of upd_same, .cons (g1.mono s.k) (.cons (g2.mono s.k) .nil)⟩
    stop := fun i Hk H g hi e w => ⟨w.ex _ _ (e _ _ h), by rw [hi, zipD_len]; omega⟩ }
end Bk
set_option Elab.async false
set_option linter.all false
set_option maxRecDepth 100000
set_option maxHeartbeats 1000000
namespace Bk
open PySem L2
open Evl (Ex ex_l ex_t)
section
variable {X : Cx} {W : Wd} {Ew : XK} {Hk0 H0 Hk H : Hp} {Γ : Gm} {g : G} {σ : L2.St} {K : PySem.W.Frag}
variable {a b c : Expr} {pos : Pos} {fa fb fc : Gm → G → R D} {es : List Expr} {fs : Gm → G → R (List D)}
theorem e_idx (hu : X.A.units + 64 < cLine) (hw : W.w = X.w) (ha : PE X a (tE X.K W Ew fa)) (hb : PE X b (tE X.K W Ew fb)) (hs : PlainIx b) : PE X (.Subscript a b pos) (tE X.K W Ew fun Γ g => (fa Γ g).bind fun x g => (fb Γ g).bind fun y g => lift (idxD x y) g) :=
  PE.imp (pe_ix (ix_D hu hw) ha hb hs) fun σ H Q ⟨Hk0, H0, Γ, g, Hk, fr, h⟩ => seqE fr h fun v d g1 Hk1 H1 fr1 s1 r1 h1 => seqE fr1 h1 fun v2 d2 g2 Hk2 H2 fr2 s2 r2 h2 => by
    obtain ⟨z, ez, hz⟩ := h2.lift
    exact ⟨g2, Hk2, d, d2, z, fr2.wk, r1.mono s2.k, r2, ez, fun v3 Hk3 H3 s3 dr3 r3 => hz Hk3 H3 s3 dr3 v3 r3⟩
theorem o_none : PO X none (tOo X.K W Ew fun _ g => .ok none g) := PO.imp po_none fun σ H Q ⟨Hk0, H0, Γ, g, Hk, fr, h⟩ => Fin.now fr h
theorem o_some (ha : PE X a (tE X.K W Ew fa)) : PO X (some a) (tOo X.K W Ew fun Γ g => (fa Γ g).bind fun x g => match x with | .int i => .ok (some i) g | _ => .st) :=
  PO.imp (po_some ha) fun σ H Q ⟨Hk0, H0, Γ, g, Hk, fr, h⟩ => seqE fr h fun v d g1 Hk1 H1 fr1 s1 r1 h1 => by
    cases d with
    | int i => exact ⟨i, r1, Fin.now fr1 h1⟩
    | _ => exact h1.elim
theorem e_sl {lo hi : Option Expr} {fl fh : Gm → G → R (Option Int)} {p2 : Pos} (ha : PE X a (tE X.K W Ew fa)) (hl : PO X lo (tOo X.K W Ew fl)) (hh : PO X hi (tOo X.K W Ew fh)) :
    PE X (.Subscript a (.Slice lo hi none p2) pos) (tE X.K W Ew fun Γ g => (fa Γ g).bind fun x g => (fl Γ g).bind fun l g => (fh Γ g).bind fun h g => lift (slD x l h) g) :=
  PE.imp (pe_slice sl_D ha hl hh) fun σ H Q ⟨Hk0, H0, Γ, g, Hk, fr, h⟩ => seqE fr h fun v d g1 Hk1 H1 fr1 s1 r1 h1 => seqO fr1 h1 fun l g2 Hk2 H2 fr2 s2 h2 => seqO fr2 h2 fun u g3 Hk3 H3 fr3 s3 h3 => by
    obtain ⟨z, ez, hz⟩ := h3.lift
    exact ⟨g3, Hk3, d, z, fr3.wk, (r1.mono s2.k).mono s3.k, ez, fun v4 Hk4 H4 s4 dr4 r4 => hz Hk4 H4 s4 dr4 v4 r4⟩
/-- a def's promise -/
def spD (K : PySem.W.Frag) (W : Wd) (ps : List Str) (dn : List D → G → R D) : Sp := fun vs H Q E => vs.length = ps.length ∧ ∃ ds g Hk, Wk W g Hk H ∧ RpL K W Hk ds vs ∧ Fin W E Hk H (dn ds g) fun d _ Hk' H' => ∀ v, Rp K W Hk' d v → Q v H'
theorem nst {α : Type} {r : R α} {k : α → G → Hp → Hp → Prop} (h : Fin W Ew Hk H r k) : r ≠ .st := fun e => by subst e; exact h
theorem e_call {CX : CXT} {k : Nat} {f : Addr} {fd : FuncData} {ps : List Str} {x : Str} {p : Pos} {dn : List D → G → R D} (F : FnOkG X.prog X.w X.K X.mg X.base CX k f fd ps (spD X.K W ps dn)) (hr : Room k X.A) (hgd : X.A.guards = some [])
    (hg : Gl X x) (hm : X.mg x = some (.ref f)) (hk : PySem.W.keepIn X.K (.ref f) = true) (hb : Binds X.K fd ps []) (hx : Passes CX X Ew) (hln : ∀ ds g, dn ds g ≠ .st → ds.length = ps.length)
    (ha : PA X (a :: es) (tAa X.K W Ew fs)) (hdb : (x == ("__debug__" : Str)) = false) (he : starEach (a :: es) X.env = (false, eval a X.env) :: starEach es X.env) (hpl : (backTo pos (starEach es X.env)).any (·.1) = false) :
    PE X (.Call (.Name x p) (a :: es) [] pos) (tE X.K W Ew fun Γ g => (fs Γ g).bind fun xs g => dn xs g) :=
  PE.imp (pe_callG F hr hgd hg hm hk hb .nil hx ha hdb he hpl) fun σ H Q ⟨Hk0, H0, Γ, g, Hk, fr, h⟩ => seqA fr h fun vs ds g1 Hk1 H1 fr1 s1 r1 h1 => by
    rw [List.append_nil]
    exact ⟨by rw [r1.len]; exact hln _ _ (nst h1), ds, g1, Hk1, fr1.wk, r1, h1⟩
theorem e_call0 {CX : CXT} {k : Nat} {f : Addr} {fd : FuncData} {ps : List Str} {x : Str} {p : Pos} {dn : List D → G → R D} (F : FnOkG X.prog X.w X.K X.mg X.base CX k f fd ps (spD X.K W ps dn)) (hr : Room k X.A) (hgd : X.A.guards = some [])
    (hg : Gl X x) (hm : X.mg x = some (.ref f)) (hk : PySem.W.keepIn X.K (.ref f) = true) (hb : Binds X.K fd ps []) (hx : Passes CX X Ew) (hln : ∀ ds g, dn ds g ≠ .st → ds.length = ps.length) (hdb : (x == ("__debug__" : Str)) = false) :
    PE X (.Call (.Name x p) [] [] pos) (tE X.K W Ew fun Γ g => R.bind (R.ok [] g) fun xs g => dn xs g) :=
  PE.imp (pe_callG0 F hr hgd hg hm hk hb .nil hx hdb) fun σ H Q ⟨Hk0, H0, Γ, g, Hk, fr, h⟩ => by
    have h' : Fin W Ew Hk H (dn [] g) _ := h
    exact ⟨by rw [← hln _ _ (nst h')]; rfl, [], g, Hk, fr.wk, rfl, h'⟩
theorem e_biB {x : Str} {id : String} {p : Pos} {f : List D → Option D} (hc : CallR X (.builtin id) (rBi X.K W f)) (hg : Gl X x) (hm : X.mg x = none) (hv : bootBuiltins x = some (.builtin id)) (ha : PA X (a :: es) (tAa X.K W Ew fs))
    (hn : x ≠ "__name__") (hdb : (x == ("__debug__" : Str)) = false) (he : starEach (a :: es) X.env = (false, eval a X.env) :: starEach es X.env) (hpl : (backTo pos (starEach es X.env)).any (·.1) = false) :
    PE X (.Call (.Name x p) (a :: es) [] pos) (tE X.K W Ew fun Γ g => (fs Γ g).bind fun xs g => lift (f xs) g) :=
  PE.imp (pe_callB hc hg hm hv ha hn hdb he hpl) fun σ H Q ⟨Hk0, H0, Γ, g, Hk, fr, h⟩ => seqA fr h fun vs ds g1 Hk1 H1 fr1 s1 r1 h1 => by
    obtain ⟨z, ez, hz⟩ := h1.lift
    exact ⟨g1, Hk1, ds, z, fr1.wk, r1, ez, fun v3 Hk3 H3 s3 dr3 r3 => hz Hk3 H3 s3 dr3 v3 r3⟩
theorem e_biT {x : Str} {id : String} {p : Pos} {f : List D → Option D} (hc : CallR X (.type id) (rBi X.K W f)) (hg : Gl X x) (hm : X.mg x = none) (hv : bootBuiltins x = some (.type id)) (ha : PA X (a :: es) (tAa X.K W Ew fs))
    (hn : x ≠ "__name__") (hdb : (x == ("__debug__" : Str)) = false) (he : starEach (a :: es) X.env = (false, eval a X.env) :: starEach es X.env) (hpl : (backTo pos (starEach es X.env)).any (·.1) = false) :
    PE X (.Call (.Name x p) (a :: es) [] pos) (tE X.K W Ew fun Γ g => (fs Γ g).bind fun xs g => lift (f xs) g) :=
  PE.imp (pe_callTy hc hg hm hv ha hn hdb he hpl) fun σ H Q ⟨Hk0, H0, Γ, g, Hk, fr, h⟩ => seqA fr h fun vs ds g1 Hk1 H1 fr1 s1 r1 h1 => by
    obtain ⟨z, ez, hz⟩ := h1.lift
    exact ⟨g1, Hk1, ds, z, fr1.wk, r1, ez, fun v3 Hk3 H3 s3 dr3 r3 => hz Hk3 H3 s3 dr3 v3 r3⟩
def tyN : Ty → String
  | .int => "int"
  | .bool => "bool"
  | .str => "str"
  | .tuple => "tuple"
  | .list => "list"
def tyS : D → String
  | .non => "NoneType"
  | .bl _ => "bool"
  | .int _ => "int"
  | .str _ => "str"
  | .tup _ => "tuple"
  | .lst _ => "list"
  | .m => "dict"
  | .scr _ => "list"
  | .dct _ _ => "dict"
  | .fn => "function"
  | .exc _ _ => "object"
  | .dks _ _ => "dict"
theorem sqL_ty {a : Addr} {xs : List V} (h : SqL K H a xs) : TyX K H (.ref a) (.type "list") := by
  rcases h with (h | ⟨o, h⟩) | ⟨o, its, n, h, hc, _⟩
  · exact .base (.lst h)
  · exact .base (.frz h)
  · exact .kList h hc
theorem sqT_ty {a : Addr} {xs : List V} (h : SqT K H a xs) : TyX K H (.ref a) (.type "tuple") := by
  rcases h with (h | ⟨o, h⟩) | ⟨o, its, n, h, hc, _⟩
  · exact .base (.tup h)
  · exact .fTuple h
  · exact .kTuple h hc
/-- a value's type: dicts of ours, too -/
def TyY (K : PySem.W.Frag) (H : Hp) (x : V) (t : Value) : Prop := TyX K H x t ∨ ∃ a o, x = .ref a ∧ t = .type "dict" ∧ H a = some (ObX a o) ∧ o.cls = .type "dict"
theorem rp_ty {d : D} {v : V} (r : Rp K W H d v) (hm : ∀ ts, isiD ts d ≠ none) : TyY K H v (.type (tyS d)) := by
  cases d with
  | non => rw [show v = _ from r]; exact .inl (.base .non)
  | bl b => rw [show v = _ from r]; exact .inl (.base (.bl b))
  | int i => rw [show v = _ from r]; exact .inl (.base (.int i))
  | str x => rw [show v = _ from r]; exact .inl (.base (.str x))
  | tup ds => obtain ⟨a, xs, rfl, h1, _⟩ := r; exact .inl (sqT_ty h1)
  | lst ds => obtain ⟨a, xs, rfl, h1, _⟩ := r; exact .inl (.base (.lst h1))
  | m => exact absurd rfl (hm [])
  | dct _ _ => obtain ⟨a, o, xs, rfl, h1, _, ⟨ys, _, h2, _⟩, _⟩ := r; exact .inr ⟨a, o, rfl, rfl, h1, h2.1⟩
  | fn => exact absurd rfl (hm [])
  | exc _ _ => exact absurd rfl (hm [])
  | dks _ _ => exact absurd rfl (hm [])
  | scr ns => obtain ⟨a, rfl, h1⟩ := r; exact .inl (sqL_ty h1)
theorem kit_one (t : Ty) (d : D) (hm : ∀ ts, isiD ts d ≠ none) : PySem.W.kitOne K (.type (tyS d)) (.type (tyN t)) = some (isI t d) := by
  cases d <;> (try exact absurd rfl (hm [])) <;> cases t <;> exact kit_ty (by simp only [tyS, tyN, isI]; decide +kernel)
theorem isiD_any (ts : List Ty) (d : D) (b : Bool) (h : isiD ts d = some b) : b = ts.any (isI · d) := by
  cases d <;> simp only [isiD, Option.some.injEq] at h <;> first | exact h.symm | cases h
theorem isi_some {ts : List Ty} {d : D} {b : Bool} (h : isiD ts d = some b) : ∀ ts', isiD ts' d ≠ none := by
  intro ts' e
  cases d with
  | m => simp only [isiD] at h; cases h
  | fn => simp only [isiD] at h; cases h
  | exc _ _ => simp only [isiD] at h; cases h
  | dks _ _ => simp only [isiD] at h; cases h
  | _ => simp only [isiD] at e; cases e
theorem kit_any (d : D) (hm : ∀ ts, isiD ts d ≠ none) : ∀ ts : List Ty, PySem.W.kitAny K (.type (tyS d)) (ts.map fun t => .type (tyN t)) = some (ts.any (isI · d))
  | [] => rfl
  | t :: ts => by
    rw [List.map_cons, List.any_cons]
    refine kitAny_cons (kit_one t d hm) (fun e => ?_) (fun e => ?_)
    · rw [e, Bool.false_or]; exact kit_any d hm ts
    · rw [e, Bool.true_or]
def rIsiY (K : PySem.W.Frag) : List V → Hp → VK → Prop := fun xs H Q => ∃ (x c : V) (t u : Value) (b : Bool), xs = [x, c] ∧ ClsV c u ∧ TyY K H x t ∧ PySem.W.kitOne K t u = some b ∧ Q (.bl b) H
def rIsiYT (K : PySem.W.Frag) : List V → Hp → VK → Prop := fun xs H Q => ∃ (x : V) (tp : Addr) (cs : List V) (t : Value) (us : List Value) (b : Bool), xs = [x, .ref tp] ∧ H tp = some (.tup cs) ∧ Paired ClsV cs us ∧ TyY K H x t ∧ PySem.W.kitAny K t us = some b ∧ Q (.bl b) H
theorem kit_ofY {pins : List (Addr × Obj)} {σ : L2.St} {s : Shared} {x : V} {u t : Value} (I : L2.Inv X pins σ H s) (rx : RelV x u) (ty : TyY X.K H x t) : ∃ P : Heap → Prop, PySem.W.KitX X.K u t P ∧ P s.heap ∧ u ≠ .builtin "__main__.__loader__#opaque" := by
  rcases ty with ty | ⟨a, o, rfl, rfl, h1, h2⟩
  · exact kit_of I rx ty
  · cases (show u = Value.ref a from rx)
    exact ⟨_, PySem.W.kitx_dict, ⟨o, obX_at I.hok h1, h2⟩, fun z => nomatch z⟩
theorem call_isiY : CallR X (.builtin "isinstance") (rIsiY X.K) := by
  intro pins s σ H xs us Q I r ⟨x, c, t, u, b, e0, kc, ty, ek, q⟩
  subst e0
  obtain ⟨w1, w2, rfl, r1, r2⟩ := vals2 r
  obtain rfl := kc.eq r2
  obtain ⟨P, Z, pz, hx⟩ := kit_ofY I r1 ty
  exact PySem.W.kia_one Z I.kIn pz ek hx fun tk => ⟨.bl b, H, I.tok tk, rfl, q⟩
theorem call_isiYT : CallR X (.builtin "isinstance") (rIsiYT X.K) := by
  intro pins s σ H xs us Q I r ⟨x, tp, cs, t, ws, b, e0, eT, kc, ty, ek, q⟩
  subst e0
  obtain ⟨w1, w2, rfl, r1, r2⟩ := vals2 r
  obtain rfl : w2 = Value.ref tp := r2
  obtain ⟨P, Z, pz, hx⟩ := kit_ofY I r1 ty
  have ot : ObjOk X.prog X.w H s.heap tp (.tup cs) := I.hok tp _ eT
  obtain ⟨-, its, rv, ⟨oc, od, dt, sl⟩, g1, g2, n, g3⟩ := ot
  obtain rfl := ClsV.all kc rv
  dsimp only at g2 g3
  subst g2 g3
  exact PySem.W.kia_tup Z I.kIn pz g1 ek hx fun tk => ⟨.bl b, H, I.tok tk, rfl, q⟩
/-- isinstance(a, T) -/
theorem e_isi1 {p p2 : Pos} {t : Ty} {tx : Str} (ha : PE X a (tE X.K W Ew fa)) (ht : PE X b (tC (.ty (tyN t)))) (hg : Gl X "isinstance") (hm : X.mg "isinstance" = none)
    (he : starEach [a, b] X.env = (false, eval a X.env) :: starEach [b] X.env) (he2 : starEach [b] X.env = (false, eval b X.env) :: starEach [] X.env) (hpl : (backTo pos (starEach [b] X.env)).any (·.1) = false) :
    PE X (.Call (.Name "isinstance" p) [a, b] [] pos) (tE X.K W Ew fun Γ g => (fa Γ g).bind fun x g => lift ((isiD [t] x).map .bl) g) :=
  PE.imp (pe_callB call_isiY hg hm (by decide +kernel) (pa_cons ha (pa_cons ht pa_nil he2) he) (by decide) (by decide) he hpl) fun σ H Q ⟨Hk0, H0, Γ, g, Hk, fr, h⟩ => seqE fr h fun v d g1 Hk1 H1 fr1 s1 r1 h1 => by
    obtain ⟨z, ez, hz⟩ := h1.lift
    obtain ⟨k, ek, rfl⟩ := Option.map_eq_some_iff.mp ez
    refine ⟨v, .ty (tyN t), _, _, k, rfl, .ty _, rp_ty (r1.mono fr1.wk.ex) (isi_some ek), ?_, hz Hk1 H1 (Step.refl fr1.wk.ex) fr1.wk.dr _ rfl⟩
    rw [kit_one t d (isi_some ek), isiD_any _ _ _ ek]
    simp
/-- isinstance(a, (T, U)) -/
theorem e_isi2 {p : Pos} {t u : Ty} {tc : TA} (ha : PE X a (tE X.K W Ew fa)) (ht : PE X b (tTup fun _ H Q => Q [.ty (tyN t), .ty (tyN u)] H)) (hg : Gl X "isinstance") (hm : X.mg "isinstance" = none)
    (he : starEach [a, b] X.env = (false, eval a X.env) :: starEach [b] X.env) (he2 : starEach [b] X.env = (false, eval b X.env) :: starEach [] X.env) (hpl : (backTo pos (starEach [b] X.env)).any (·.1) = false) :
    PE X (.Call (.Name "isinstance" p) [a, b] [] pos) (tE X.K W Ew fun Γ g => (fa Γ g).bind fun x g => lift ((isiD [t, u] x).map .bl) g) :=
  PE.imp (pe_callB call_isiYT hg hm (by decide +kernel) (pa_cons ha (pa_cons ht pa_nil he2) he) (by decide) (by decide) he hpl) fun σ H Q ⟨Hk0, H0, Γ, g, Hk, fr, h⟩ => seqE fr h fun v d g1 Hk1 H1 fr1 s1 r1 h1 => by
    obtain ⟨z, ez, hz⟩ := h1.lift
    obtain ⟨k, ek, rfl⟩ := Option.map_eq_some_iff.mp ez
    refine ⟨by show 2 ≤ sizeLine; decide, fun q hq => ?_⟩
    have s2 : Step W Hk1 H1 (upd Hk1 q (.tup [.ty (tyN t), .ty (tyN u)])) (upd H1 q (.tup [.ty (tyN t), .ty (tyN u)])) := Step.new fr1.wk.ex hq
    have dr2 := fr1.wk.dr.new (o := .tup [.ty (tyN t), .ty (tyN u)]) hq
    refine ⟨v, q, _, _, [t, u].map fun t => .type (tyN t), k, rfl, upd_same, .cons (.ty _) (.cons (.ty _) .nil), rp_ty ((r1.mono s2.k).mono s2.kh) (isi_some ek), ?_, hz _ _ s2 dr2 _ rfl⟩
    rw [kit_any d (isi_some ek), isiD_any _ _ _ ek]
def drawR (x y : D) (g : G) : R D := match x, y with
      | .m, .int lim => if 0 < lim ∧ lim < 2 ^ 4000 ∧ g.spot < 2 ^ 60 then .ok (.int (g.draw lim).1) (g.draw lim).2 else .st
      | _, _ => .st
/-- what `_law_draw` promises -/
def spDraw (W : Wd) : Sp := fun vs H Q _ => ∃ (lim : Int) (g : G) (Hk : Hp), vs = [.ref W.am, .int lim] ∧ Wk W g Hk H ∧ 0 < lim ∧ lim < 2 ^ 4000 ∧ g.spot < 2 ^ 60 ∧
  ∀ H', Step W Hk H Hk H' → DrawAt W (g.draw lim).2 H' → Q (.int (g.draw lim).1) H'
theorem e_draw {CX : CXT} {k : Nat} {f : Addr} {fd : FuncData} {ps : List Str} {x : Str} {p : Pos} (F : FnOkG X.prog X.w X.K X.mg X.base CX k f fd ps (spDraw W)) (hr : Room k X.A) (hgd : X.A.guards = some [])
    (hg : Gl X x) (hm : X.mg x = some (.ref f)) (hk : PySem.W.keepIn X.K (.ref f) = true) (hb : Binds X.K fd ps []) (hx : Passes CX X Ew)
    (ha : PE X a (tE X.K W Ew fa)) (hbb : PE X b (tE X.K W Ew fb)) (hdb : (x == ("__debug__" : Str)) = false) (he : starEach [a, b] X.env = (false, eval a X.env) :: starEach [b] X.env) (he2 : starEach [b] X.env = (false, eval b X.env) :: starEach [] X.env) (hpl : (backTo pos (starEach [b] X.env)).any (·.1) = false) :
    PE X (.Call (.Name x p) [a, b] [] pos) (tE X.K W Ew fun Γ g => (fa Γ g).bind fun x g => (fb Γ g).bind fun y g => drawR x y g) :=
  PE.imp (pe_callG F hr hgd hg hm hk hb .nil hx (pa_cons ha (pa_cons hbb pa_nil he2) he) hdb he hpl) fun σ H Q ⟨Hk0, H0, Γ, g, Hk, fr, h⟩ => seqE fr h fun v d g1 Hk1 H1 fr1 s1 r1 h1 => seqE fr1 h1 fun v2 d2 g2 Hk2 H2 fr2 s2 r2 h2 => by
    show spDraw W ([v, v2] ++ []) H2 Q Ew
    rw [List.append_nil]
    cases d <;> (try exact h2.elim)
    cases d2 <;> (try exact h2.elim)
    rename_i lim
    have h2' : Fin W Ew Hk2 H2 (if 0 < lim ∧ lim < 2 ^ 4000 ∧ g2.spot < 2 ^ 60 then R.ok (D.int (g2.draw lim).1) (g2.draw lim).2 else R.st) _ := h2
    by_cases hc : 0 < lim ∧ lim < 2 ^ 4000 ∧ g2.spot < 2 ^ 60
    · rw [if_pos hc] at h2'
      rw [show v = _ from r1, show v2 = _ from r2]
      exact ⟨lim, g2, Hk2, rfl, fr2.wk, hc.1, hc.2.1, hc.2.2, fun H' s dr => h2' Hk2 H' s dr _ rfl⟩
    · rw [if_neg hc] at h2'
      exact h2'.elim
variable {tg : Expr}
/-- lengths are within the line -/
theorem PI.inv {e : Expr} {wi : TI} (h : PI X tg e wi) : PI X tg e (fun σ H R => wi σ H fun J H' => (∀ b a xs, SqB X.K b H' a xs → xs.length ≤ sizeLine) → R J H') :=
  ⟨fun pins s σ H R I q => thn (h.run pins s σ H _ I q) fun v s1 h1 => thn h1 fun itv s2 ⟨it, fp, tn, J, H', e, I2, T, t0, f, r⟩ => ⟨it, fp, tn, J, H', e, I2, T, t0, f, r fun b a xs hq => (inv_seqB I2 hq).choose_spec.2.2⟩⟩
theorem i_seq (ha : PE X a (tE X.K W Ew fa)) : PI X tg a (tIi X.K W Ew fun Γ g => (fa Γ g).bind fun x g => lift (seqD x) g) := by
  refine ⟨fun pins s σ H R I h => ?_⟩
  obtain ⟨Hk0, H0, Γ, g, Hk, fr, h⟩ := h
  dsimp only at h
  cases e : fa Γ g with
  | st => rw [e] at h; exact h.elim
  | ex c ds g' =>
    refine (PI.inv (pi_tup (tg := tg) ha)).run pins s σ H R I ⟨Hk0, H0, Γ, g, Hk, fr, ?_⟩
    rw [e] at h ⊢
    exact h
  | ok d g' =>
    cases d <;> (try (rw [e] at h; exact h.elim))
    · refine (PI.inv (pi_tup (tg := tg) ha)).run pins s σ H R I ⟨Hk0, H0, Γ, g, Hk, fr, ?_⟩
      rw [e] at h ⊢
      intro Hk' H' s' dr v rv
      obtain ⟨a, xs, rfl, h1, h2⟩ := rv
      exact ⟨a, rfl, ⟨xs, ex_t s'.kh h1⟩, fun hz => h Hk' H' s' dr _ (itOk_tup (hz false a xs (ex_t s'.kh h1)) h1 h2)⟩
    · refine (PI.inv (pi_list (tg := tg) ha)).run pins s σ H R I ⟨Hk0, H0, Γ, g, Hk, fr, ?_⟩
      rw [e] at h ⊢
      intro Hk' H' s' dr v rv
      obtain ⟨a, xs, rfl, h1, h2⟩ := rv
      exact ⟨a, rfl, ⟨xs, SqL.of (s'.kh _ _ h1)⟩, fun hz => h Hk' H' s' dr _ (itOk_list (hz true a xs (SqL.of (s'.kh _ _ h1))) h1 h2)⟩
    · rename_i ks vs
      refine (pi_keysX (tg := tg) ha).run pins s σ H R I ⟨Hk0, H0, Γ, g, Hk, fr, ?_⟩
      rw [e] at h ⊢
      have h' : Fin W Ew Hk H (lift (if ks.length ≤ 1000000 then some ks else none) g') fun ds _ Hk' H' => ∀ J, ItOk X.K W J ds Hk' → R J H' := h
      by_cases hz : ks.length ≤ 1000000
      · rw [if_pos hz] at h'
        intro Hk' H' s' dr v rv
        obtain ⟨a, o, xs, rfl, h1, h2, h3, h4, h5, h6, h7⟩ := rv
        exact ⟨a, o, xs, W.w, rfl, h2, s'.kh _ _ h1, h3, h' Hk' H' s' dr _ (itOk_keys (size_le hz) h1 h6)⟩
      · rw [if_neg hz] at h'
        exact h'.elim
theorem i_rng1 {p : Pos} (hg : Gl X "range") (hm : X.mg "range" = none) (ha : PE X a (tE X.K W Ew fa)) (hs : starEach [a] X.env = (false, eval a X.env) :: starEach [] X.env) :
    PI X tg (.Call (.Name "range" p) [a] [] pos) (tIi X.K W Ew fun Γ g => (fa Γ g).bind fun x g => match x with | .int i => if -1000000 ≤ i ∧ i ≤ 1000000 then .ok (rngD 0 i.toNat) g else .st | _ => .st) :=
  PI.imp (pi_range1 hg hm (pa_cons ha pa_nil hs) hs) fun σ H Q ⟨Hk0, H0, Γ, g, Hk, fr, h⟩ => seqE fr h fun v d g1 Hk1 H1 fr1 s1 r1 h1 => by
    cases d <;> (try exact h1.elim)
    rename_i i
    have h1' : Fin W Ew Hk1 H1 (if -1000000 ≤ i ∧ i ≤ 1000000 then R.ok (rngD 0 i.toNat) g1 else R.st) _ := h1
    by_cases hc : -1000000 ≤ i ∧ i ≤ 1000000
    · rw [if_pos hc] at h1'
      rw [show v = .int i from r1]
      exact ⟨i, rfl, by omega, by omega, Fin.now fr1 h1' _ (itOk_rng 0 i.toNat (by omega))⟩
    · rw [if_neg hc] at h1'
      exact h1'.elim
theorem i_rng2 {p : Pos} (hg : Gl X "range") (hm : X.mg "range" = none) (ha : PE X a (tE X.K W Ew fa)) (hb : PE X b (tE X.K W Ew fb)) (hs : starEach [a, b] X.env = (false, eval a X.env) :: starEach [b] X.env) (hs2 : starEach [b] X.env = (false, eval b X.env) :: starEach [] X.env) :
    PI X tg (.Call (.Name "range" p) [a, b] [] pos) (tIi X.K W Ew fun Γ g => (fa Γ g).bind fun x g => (fb Γ g).bind fun y g => match x, y with
      | .int i, .int j => if (-1000000 ≤ i ∧ i ≤ 1000000) ∧ -1000000 ≤ j ∧ j ≤ 1000000 then .ok (rngD i (j - i).toNat) g else .st
      | _, _ => .st) :=
  PI.imp (pi_range2 hg hm (pa_cons ha (pa_cons hb pa_nil hs2) hs) (by rw [hs, hs2]; rfl) hs2) fun σ H Q ⟨Hk0, H0, Γ, g, Hk, fr, h⟩ => seqE fr h fun v d g1 Hk1 H1 fr1 s1 r1 h1 => seqE fr1 h1 fun v2 d2 g2 Hk2 H2 fr2 s2 r2 h2 => by
    cases d <;> (try exact h2.elim)
    cases d2 <;> (try exact h2.elim)
    rename_i i j
    have h1' : Fin W Ew Hk2 H2 (if (-1000000 ≤ i ∧ i ≤ 1000000) ∧ -1000000 ≤ j ∧ j ≤ 1000000 then R.ok (rngD i (j - i).toNat) g2 else R.st) _ := h2
    by_cases hc : (-1000000 ≤ i ∧ i ≤ 1000000) ∧ -1000000 ≤ j ∧ j ≤ 1000000
    · rw [if_pos hc] at h1'
      rw [show v = .int i from r1, show v2 = .int j from r2]
      exact ⟨i, j, rfl, by omega, Fin.now fr2 h1' _ (itOk_rng i (j - i).toNat (by omega))⟩
    · rw [if_neg hc] at h1'
      exact h1'.elim
theorem i_zip {p tpos : Pos} {elts : List Expr} {kk : Nat} (hg : Gl X "zip") (hm : X.mg "zip" = none) (ha : PE X a (tE X.K W Ew fa)) (hb : PE X b (tE X.K W Ew fb)) (hs : starEach [a, b] X.env = (false, eval a X.env) :: starEach [b] X.env) (hs2 : starEach [b] X.env = (false, eval b X.env) :: starEach [] X.env)
    (hpl : (backTo pos (starEach [b] X.env)).any (·.1) = false) :
    PI X (.Tuple elts kk tpos) (.Call (.Name "zip" p) [a, b] [] pos) (tIi X.K W Ew fun Γ g => (fa Γ g).bind fun x g => (fb Γ g).bind fun y g => match itemsD x, itemsD y with
      | some xs, some ys => .ok (zipD xs ys) g
      | _, _ => .st) :=
  PI.imp (PI.inv (pi_zipB hg hm (pa_cons ha (pa_cons hb pa_nil hs2) hs) hs hpl)) fun σ H Q ⟨Hk0, H0, Γ, g, Hk, fr, h⟩ => seqE fr h fun v d g1 Hk1 H1 fr1 s1 r1 h1 => seqE fr1 h1 fun v2 d2 g2 Hk2 H2 fr2 s2 r2 h2 => by
    cases e1 : itemsD d with
    | none => rw [e1] at h2; exact h2.elim
    | some xs =>
      cases e2 : itemsD d2 with
      | none => rw [e1, e2] at h2; exact h2.elim
      | some ys =>
        rw [e1, e2] at h2
        obtain ⟨b1, a1, vs1, rfl, q1, l1⟩ := items_sq (r1.mono s2.k) e1
        obtain ⟨b2, a2, vs2, rfl, q2, l2⟩ := items_sq r2 e2
        exact ⟨b1, b2, a1, a2, vs1, vs2, rfl, sqB_mono fr2.wk.ex q1, sqB_mono fr2.wk.ex q2, fun hz => Fin.now fr2 h2 _ (itOk_zip q1 q2 l1 l2 (hz _ _ _ (sqB_mono fr2.wk.ex q1)))⟩
theorem i_enum {p tpos : Pos} {elts : List Expr} {kk : Nat} (hg : Gl X "enumerate") (hm : X.mg "enumerate" = none) (ha : PE X a (tE X.K W Ew fa)) (hs : starEach [a] X.env = (false, eval a X.env) :: starEach [] X.env) :
    PI X (.Tuple elts kk tpos) (.Call (.Name "enumerate" p) [a] [] pos) (tIi X.K W Ew fun Γ g => (fa Γ g).bind fun x g => match itemsD x with
      | some xs => .ok (enumD 0 xs) g
      | _ => .st) :=
  PI.imp (PI.inv (pi_enumB hg hm (pa_cons ha pa_nil hs) hs)) fun σ H Q ⟨Hk0, H0, Γ, g, Hk, fr, h⟩ => seqE fr h fun v d g1 Hk1 H1 fr1 s1 r1 h1 => by
    cases e1 : itemsD d with
    | none => rw [e1] at h1; exact h1.elim
    | some xs =>
      rw [e1] at h1
      obtain ⟨b1, a1, vs1, rfl, q1, l1⟩ := items_sq r1 e1
      exact ⟨b1, a1, vs1, rfl, sqB_mono fr1.wk.ex q1, fun hz => Fin.now fr1 h1 _ (itOk_enum q1 l1 (hz _ _ _ (sqB_mono fr1.wk.ex q1)))⟩
theorem i_items {tpos apos cpos : Pos} {elts : List Expr} {kk : Nat} (ha : PE X a (tE X.K W Ew fa)) (hbase : attributeBase a "items" X.env (eval a X.env) = eval a X.env) (hline : (apos.endLine == cpos.line) = true) :
    PI X (.Tuple elts kk tpos) (.Call (.Attribute a "items" apos) [] [] cpos) (tIi X.K W Ew fun Γ g => (fa Γ g).bind fun x g => match x with
      | .dct ks vs => if ks.length ≤ 1000000 then .ok (zipD ks vs) g else .st
      | _ => .st) :=
  PI.imp (pi_itemsX ha hbase hline) fun σ H Q ⟨Hk0, H0, Γ, g, Hk, fr, h⟩ => seqE fr h fun v d g1 Hk1 H1 fr1 s1 r1 h1 => by
    cases d <;> (try exact h1.elim)
    rename_i ks vs
    have h' : Fin W Ew Hk1 H1 (if ks.length ≤ 1000000 then R.ok (zipD ks vs) g1 else R.st) fun ds _ Hk' H' => ∀ J, ItOk X.K W J ds Hk' → Q J H' := h1
    by_cases hz : ks.length ≤ 1000000
    · rw [if_pos hz] at h'
      obtain ⟨a, o, xs, rfl, h1, h2, h3, h4, h5, h6, h7⟩ := r1
      exact ⟨a, o, xs, W.w, rfl, h2, fr1.wk.ex _ _ h1, h3, Fin.now fr1 h' _ (itOk_items (size_le hz) h1 h6 h7)⟩
    · rw [if_neg hz] at h'
      exact h'.elim
theorem wipe_append (σ : L2.St) : ∀ (u v : List Nat), wipe σ (u ++ v) = wipe (wipe σ v) u
  | [], v => rfl
  | i :: u, v => by rw [List.cons_append, wipe, wipe, wipe_append σ u v]
theorem set_none_comm (σ : L2.St) (i j : Nat) : (σ.set i none).set j none = (σ.set j none).set i none := by
  by_cases h : i = j
  · subst h; rfl
  · exact List.set_comm _ _ h
theorem wipe_set (σ : L2.St) (i : Nat) : ∀ (v : List Nat), wipe (σ.set i none) v = (wipe σ v).set i none
  | [] => rfl
  | j :: v => by rw [wipe, wipe, wipe_set σ i v, set_none_comm]
theorem wipe_comm (σ : L2.St) : ∀ (u v : List Nat), wipe (wipe σ v) u = wipe (wipe σ u) v
  | [], v => rfl
  | i :: u, v => by rw [wipe, wipe, wipe_set, wipe_comm σ u v]
theorem g_var {i : Nat} {x : Str} {p : Pos} (h : PG X (.Name x p) (gName i)) : PG X (.Name x p) (tGg X.K W (.var i)) := PG.imp h fun v σ H Q ⟨Hk0, H0, Γ, g, Hk, d, Γ', fr, r, e, q⟩ => by
  simp only [setT] at e
  split at e
  · cases e
    refine q _ (fr.set r) ?_
    show (σ.set i (some v)).set i none = σ.set i none
    rw [List.set_set]
  · cases e
theorem g_tup {ts : List T} {k n : Nat} (hc : X.calm = true) (h : PGs X es (tGgs X.K W ts)) (hn : (assignEach es X.env).length = n) (hst : (assignEach es X.env).findIdx? (·.1) = none) (hl : ts.length = n) : PG X (.Tuple es k pos) (tGg X.K W (.tup ts)) :=
  PG.imp (pg_tup hc h hn hst) fun v σ H Q ⟨Hk0, H0, Γ, g, Hk, d, Γ', fr, r, e, q⟩ => by
    cases d <;> (try (simp only [setT] at e; cases e; done))
    rename_i ds
    obtain ⟨a, xs, rfl, h1, h2⟩ := r
    simp only [setT] at e
    refine ⟨a, xs, rfl, ex_t fr.wk.ex h1, ?_, Hk0, H0, Γ, g, Hk, ds, Γ', fr, h2, e, fun σ' fr' hw => q σ' fr' hw⟩
    rw [h2.len, ← hl]
    have : ∀ (ts : List T) (ds : List D) (Γ Γ' : Gm), setTs ts ds Γ = some Γ' → ds.length = ts.length := by
      intro ts
      induction ts with
      | nil => intro ds Γ Γ' e; cases ds with | nil => rfl | cons _ _ => simp only [setTs] at e; cases e
      | cons t ts ih =>
        intro ds Γ Γ' e
        cases ds with
        | nil => simp only [setTs] at e; cases e
        | cons d ds =>
          simp only [setTs, Option.bind_eq_some_iff] at e
          obtain ⟨Γ1, _, e2⟩ := e
          rw [List.length_cons, List.length_cons, ih ds Γ1 Γ' e2]
    exact this ts ds Γ Γ' e
theorem gs_nil : PGs X [] (tGgs X.K W []) := PGs.imp pgs_nil fun vs σ H Q ⟨Hk0, H0, Γ, g, Hk, ds, Γ', fr, r, e, q⟩ => by
  cases ds with
  | nil => simp only [setTs, Option.some.injEq] at e; subst e; exact ⟨r, q σ fr rfl⟩
  | cons _ _ => simp only [setTs] at e; cases e
theorem gs_cons {t : T} {ts : List T} (h1 : PG X a (tGg X.K W t)) (h2 : PGs X es (tGgs X.K W ts)) (hs : (assignEach (a :: es) X.env).map (·.2) = assign a X.env :: (assignEach es X.env).map (·.2)) : PGs X (a :: es) (tGgs X.K W (t :: ts)) :=
  PGs.imp (pgs_cons h1 h2 hs) fun vs σ H Q ⟨Hk0, H0, Γ, g, Hk, ds, Γ', fr, r, e, q⟩ => by
    cases ds with
    | nil => simp only [setTs] at e; cases e
    | cons d ds =>
      simp only [setTs, Option.bind_eq_some_iff] at e
      obtain ⟨Γ1, e1, e2⟩ := e
      obtain ⟨v, vr, rfl, r1, r2⟩ := r
      refine ⟨v, vr, rfl, Hk0, H0, Γ, g, Hk, d, Γ1, fr, r1, e1, fun σ1 fr1 w1 => ⟨Hk0, H0, Γ1, g, Hk, ds, Γ', fr1, r2, e2, fun σ2 fr2 w2 => q σ2 fr2 ?_⟩⟩
      show wipe σ2 (t.vars ++ varsT ts) = wipe σ (t.vars ++ varsT ts)
      rw [wipe_append, wipe_append, w2, wipe_comm, w1, wipe_comm]
end
end Bk
set_option Elab.async false
set_option linter.all false
set_option maxRecDepth 100000
set_option maxHeartbeats 1000000
namespace Bk
open PySem L2
open Evl (Ex ex_l ex_t)
theorem wipe_idem (σ : L2.St) : ∀ (v : List Nat), wipe (wipe σ v) v = wipe σ v
  | [] => rfl
  | i :: v => by
    show (wipe ((wipe σ v).set i none) v).set i none = (wipe σ v).set i none
    rw [wipe_set, wipe_idem σ v, List.set_set]
def lcF (t : T) (fe : Gm → G → R D) (cf : Gm → G → R Bool) (Γ : Gm) : D → G → R (Option D) := fun x g => (lift (setT t x (wipeG Γ t.vars)) g).bind fun Γ' g =>
  (cf Γ' g).bind fun k g => if k then (fe Γ' g).bind fun y g => .ok (some y) g else .ok none g
theorem nox_ok {α : Type} {r : R α} {β : Type} {k : α → G → R β} {b : β} {g : G} (h : r.nox.bind k = .ok b g) : ∃ a g1, r = .ok a g1 ∧ k a g1 = .ok b g := by
  cases r with
  | ok a g1 => exact ⟨a, g1, rfl, h⟩
  | ex _ _ _ => cases h
  | st => cases h
theorem bind_ok {α : Type} {r : R α} {β : Type} {k : α → G → R β} {b : β} {g : G} (h : r.bind k = .ok b g) : ∃ a g1, r = .ok a g1 ∧ k a g1 = .ok b g := by
  cases r with
  | ok a g1 => exact ⟨a, g1, rfl, h⟩
  | ex _ _ _ => cases h
  | st => cases h
theorem lift_ok {α : Type} {o : Option α} {g g' : G} {a : α} (h : lift o g = .ok a g') : o = some a ∧ g = g' := by
  cases o with
  | none => cases h
  | some x => cases h; exact ⟨rfl, rfl⟩
theorem lcR_noex {f : D → G → R (Option D)} : ∀ {xs : List D} {g : G} {c : Nat} {ds : List D} {g' : G}, lcR f xs g ≠ .ex c ds g'
  | [], _, _, _, _, h => by cases h
  | x :: xs, g, c, ds, g', h => by
    unfold lcR at h
    cases e : f x g with
    | ok o g1 =>
      rw [e] at h
      have h' : (lcR f xs g1).bind _ = .ex c ds g' := h
      cases e2 : lcR f xs g1 with
      | ok ys g2 => rw [e2] at h'; cases h'
      | ex c' ds' g2 => exact lcR_noex e2
      | st => rw [e2] at h'; cases h'
    | ex _ _ _ => rw [e] at h; cases h
    | st => rw [e] at h; cases h
theorem lcR_cons {f : D → G → R (Option D)} {x : D} {xs : List D} {g g' : G} {zs : List D} (h : lcR f (x :: xs) g = .ok zs g') : ∃ o g1 ys, f x g = .ok o g1 ∧ lcR f xs g1 = .ok ys g' ∧ zs = (match o with | some y => y :: ys | none => ys) := by
  unfold lcR at h
  obtain ⟨o, g1, e1, h⟩ := nox_ok h
  obtain ⟨ys, g2, e2, h⟩ := bind_ok h
  cases h
  exact ⟨o, g1, ys, e1, e2, rfl⟩
section
variable {X : Cx} {W : Wd} {Ew : XK} {Hk0 H0 Hk H : Hp} {Γ : Gm} {g : G} {σ : L2.St} {K : PySem.W.Frag}
theorem Fin.of_ok {α : Type} {r : R α} {a : α} {k : α → G → Hp → Hp → Prop} (e : r = .ok a g) (h : ∀ Hk' H', Step W Hk H Hk' H' → DrawAt W g H' → k a g Hk' H') : Fin W Ew Hk H r k := by
  rw [e]; exact h
theorem none_back {Hk' H' : Hp} {p : Addr} (s : Step W Hk H Hk' H') (h : H' p = none) : H p = none := by
  cases q : H p with
  | none => rfl
  | some o => obtain ⟨o', h'⟩ := s.t p o q; rw [h] at h'; cases h'
theorem ts_nil : PTs X [] (tTt X.K W Ew fun _ g => .ok true g) := ⟨fun pins s σ H Q I ⟨Hk0, H0, Γ, g, Hk, fr, h⟩ => pts_nil.run pins s σ H Q I (Fin.now fr h)⟩
theorem f_lc {elt tg iter : Expr} {ifs : List Expr} {scope : Scope} {own : List (Str × Nat)} {t : T} {fi : Gm → G → R (List D)} {fe : Gm → G → R D} {cf : Gm → G → R Bool}
    (hc : X.calm = true) (hN : X.N.Nodup) (hi : PI X tg iter (tIi X.K W Ew fi)) (ok : BlkOk X.N X.env.scope scope own) (hown : own.map (·.2) = t.vars)
    (hg : ∀ (s : Shared) (H : Hp) (C : Addr) (cl : List (Str × Addr)) (fp : List Addr), PG (X.blk s H scope (compEnvC scope cl C X.env) fp) tg (tGg X.K W t))
    (ht : ∀ (s : Shared) (H : Hp) (C : Addr) (cl : List (Str × Addr)) (fp : List Addr), PTs (X.blk s H scope (compEnvC scope cl C X.env) fp) ifs (tTt X.K W E0 cf))
    (he : ∀ (s : Shared) (H : Hp) (C : Addr) (cl : List (Str × Addr)) (fp : List Addr), PE (X.blk s H scope (compEnvC scope cl C X.env) fp) elt (tE X.K W E0 fe))
    (hs : ∀ x, foldedSetIterable iter X.env x = pure x) :
    (∀ σ H Q, (tFf X.K W Ew fun Γ g => (fi Γ g).bind fun xs g => (lcR (lcF t fe cf Γ) xs g).bind fun ys g => .ok (.lst ys) g) σ H Q → tLc (tIi X.K W Ew fi) (tGg X.K W t) (tTt X.K W E0 cf) (tE X.K W E0 fe) (own.map (·.2)) σ H Q) := by
  intro σ H Q ⟨Hk0, H0, Γ, g, Hk, fr, h⟩
  rw [hown]
  refine seqI fr h fun J ds g1 Hk1 H1 fr1 s1 io h1 => fun Dl hD => ?_
  generalize hF : lcF t fe cf Γ = F at h1
  cases e : lcR F ds g1 with
  | st => rw [e] at h1; exact h1.elim
  | ex c ds' g' => exact absurd e lcR_noex
  | ok zs gE =>
    rw [e] at h1
    have hout : W.out Dl := ex_upd_out fr1.wk.dr hD
    have hk1 : Hk1 Dl = none := DrawAt.unk_of fr1.wk.dr fr1.wk hD
    have hD0 : H Dl = none := none_back s1 hD
    let Inv0 : Nat → Hp → Prop := fun i H' => i ≤ ds.length ∧ ∃ g Hk acc ys zs', Step W Hk1 H1 Hk H' ∧ DrawAt W g H' ∧ H' Dl = some (.lst acc) ∧ Hk Dl = none ∧ RpL X.K W Hk ys acc ∧ acc.length ≤ i ∧ lcR F (ds.drop i) g = .ok zs' gE ∧ ys ++ zs' = zs
    refine ⟨fun i m H' => m = ds.length - i ∧ Inv0 i H', ⟨ds.length, by simp, Nat.zero_le _, g1, Hk1, [], [], zs, Step.hid fr1.wk.ex hD, fr1.wk.dr.new hD, upd_same, hk1, rfl, Nat.le_refl _, e, rfl⟩, ?_⟩
    rintro i m H' ⟨rfl, hi, g2, Hk2, acc, ys, zs', st, dr, hDl, hkD, ry, hl, el, ez⟩
    have wk2 : Wk W g2 Hk2 H' := fr1.wk.step st dr
    by_cases hlt : i < ds.length
    · refine .inr ⟨io.go i Hk2 H' g2 hlt st.k wk2, Inv0 (i + 1), fun H3 q => ⟨ds.length - (i + 1), by omega, rfl, q⟩, fun x H3 y => ?_⟩
      have hd : ds[i]? = some ds[i] := by simp [hlt]
      obtain ⟨Hk3, s3, dr3, rx⟩ := io.yld i Hk2 H' g2 x H3 ds[i] hd st.k wk2 y
      rw [List.drop_eq_getElem_cons hlt] at el
      obtain ⟨o, g4, ys', ef, er, ezs⟩ := lcR_cons el
      subst hF
      unfold lcF at ef
      obtain ⟨Γ', g5, e5, ef⟩ := bind_ok ef
      obtain ⟨e5', e5''⟩ := lift_ok e5
      subst e5''
      obtain ⟨k, g6, e6, ef⟩ := bind_ok ef
      have st3 := st.trans s3
      refine ⟨Hk0, H0, wipeG Γ t.vars, g2, Hk3, ds[i], Γ', (fr1.wipe t.vars).step st3 dr3, rx, e5', fun σ' fr' hw => ⟨by rw [hw, wipe_idem], Hk0, H0, Γ', g2, Hk3, fr', Fin.of_ok e6 fun Hk4 H4 s4 dr4 => ?_⟩⟩
      have h3D : H3 Dl = some (.lst acc) := s3.h _ _ hDl hout
      have h4D : H4 Dl = some (.lst acc) := s4.h _ _ h3D hout
      have k3D : Hk3 Dl = none := s3.unk hkD hDl
      have k4D : Hk4 Dl = none := s4.unk k3D h3D
      cases k with
      | false =>
        cases ef
        refine iteF ⟨hlt, _, Hk4, acc, ys, ys', st3.trans s4, dr4, h4D, k4D, (ry.mono s3.k).mono s4.k, by omega, er, ?_⟩
        rw [← ez, ezs]
      | true =>
        simp only [if_true] at ef
        obtain ⟨yv, g7, e7, ef⟩ := bind_ok ef
        cases ef
        refine iteT ⟨Hk0, H0, Γ', g6, Hk4, fr'.step s4 dr4, Fin.of_ok e7 fun Hk5 H5 s5 dr5 v rv => ⟨acc, s5.h _ _ h4D hout, ?_, hlt, g4, Hk5, acc ++ [v], ys ++ [yv], ys', ?_, dr5.upd hout (nc_lst (s5.h _ _ h4D hout)), upd_same, s5.unk k4D h4D, ?_, ?_, er, ?_⟩⟩
        · have := io.len; omega
        · exact ((st3.trans s4).trans s5).mut hD (s5.unk k4D h4D)
        · exact (((ry.mono s3.k).mono s4.k).mono s5.k).append (.cons rv .nil)
        · simp; omega
        · rw [← ez, ezs, List.append_assoc]; rfl
    · have hi' : i = ds.length := by omega
      subst hi'
      rw [List.drop_length] at el
      cases el
      refine .inl ⟨io.stop _ Hk2 H' _ rfl st.k wk2, ?_⟩
      rw [List.append_nil] at ez
      subst ez
      exact h1 Hk2 H' st dr Dl _ hD0 hkD hDl ⟨acc, rfl, ry⟩
end
end Bk
set_option Elab.async false
set_option linter.all false
set_option maxRecDepth 100000
set_option maxHeartbeats 2000000
namespace Bk
open PySem L2
open Evl (Ex ex_l ex_t)
section
variable {X : Cx} {W : Wd} {Ew : XK} {Hk0 H0 Hk H : Hp} {Γ : Gm} {g : G} {σ : L2.St} {K : PySem.W.Frag}
theorem RpL.set : ∀ {ds : List D} {vs : List V} (j : Nat) {d : D} {v : V}, RpL K W H ds vs → Rp K W H d v → RpL K W H (ds.set j d) (vs.set j v)
  | [], vs, j, d, v, h, r => by rw [show vs = [] from h]; exact rfl
  | e :: ds, vs, 0, d, v, h, r => by
    obtain ⟨y, ys, rfl, h1, h2⟩ := h
    exact ⟨v, ys, rfl, r, h2⟩
  | e :: ds, vs, j + 1, d, v, h, r => by
    obtain ⟨y, ys, rfl, h1, h2⟩ := h
    exact ⟨y, ys.set j v, rfl, h1, RpL.set j h2 r⟩
theorem RpL.rev {ds : List D} {vs : List V} (h : RpL K W H ds vs) : RpL K W H ds.reverse vs.reverse := by
  induction ds generalizing vs with
  | nil => rw [show vs = [] from h]; exact rfl
  | cons d ds ih =>
    obtain ⟨y, ys, rfl, h1, h2⟩ := h
    rw [List.reverse_cons, List.reverse_cons]
    exact (ih h2).append (.cons h1 .nil)
theorem RpL.dropLast {ds : List D} {vs : List V} (h : RpL K W H ds vs) : RpL K W H ds.dropLast vs.dropLast := by
  rw [List.dropLast_eq_take, List.dropLast_eq_take, h.len]
  exact h.take _
/-- a new list, at an end -/
theorem fin_own {Hs Hk2 H2 : Hp} {Q : VK} {zs : List D} {acc : List V} {p : Addr} (fr : Fr K W Hk0 H0 Γ g σ Hk2 H2) (h : Fin W Ew Hk2 H2 (R.ok (D.lst zs) g) fun d _ Hk' H' => ∀ p u, Hs p = none → Hk' p = none → H' p = some u → Ob K W Hk' d p u → Q (.ref p) H')
    (hp : H2 p = none) (r : RpL K W Hk2 zs acc) (hs : Hs p = none) : Q (.ref p) (upd H2 p (.lst acc)) :=
  h Hk2 _ (Step.hid fr.wk.ex hp) (fr.wk.dr.new hp) p _ hs (fr.wk.dr.unk_of fr.wk hp) upd_same ⟨acc, rfl, r⟩
variable {a b : Expr} {es : List Expr} {pos : Pos} {fa fb : Gm → G → R D} {fs : Gm → G → R (List D)}
def catR (fa fb : Gm → G → R D) : Gm → G → R D := fun Γ g => (fa Γ g).bind fun x g => (fb Γ g).bind fun y g => match x, y with
      | .lst xs, .lst ys => if xs.length + ys.length ≤ 1000000 then .ok (.lst (xs ++ ys)) g else .st
      | _, _ => .st
theorem f_cat (ha : PE X a (tE X.K W Ew fa)) (hb : PE X b (tE X.K W Ew fb)) : PE X (.BinOp a .Add b pos) (tFf X.K W Ew (catR fa fb)) :=
  PE.imp (pe_op op_cat ha hb) fun σ H Q ⟨Hk0, H0, Γ, g, Hk, fr, h⟩ => seqE fr h fun v d g1 Hk1 H1 fr1 s1 r1 h1 => seqE fr1 h1 fun v2 d2 g2 Hk2 H2 fr2 s2 r2 h2 => by
    cases d <;> (try exact h2.elim)
    cases d2 <;> (try exact h2.elim)
    rename_i xs ys
    obtain ⟨a, vs, rfl, q1, q2⟩ := r1
    obtain ⟨b, us, rfl, q3, q4⟩ := r2
    have h2' : Fin W Ew Hk2 H2 (if xs.length + ys.length ≤ 1000000 then R.ok (D.lst (xs ++ ys)) g2 else R.st) _ := h2
    by_cases hz : xs.length + ys.length ≤ 1000000
    · rw [if_pos hz] at h2'
      exact ⟨a, b, vs, us, rfl, rfl, fr2.wk.ex _ _ (s2.k _ _ q1), fr2.wk.ex _ _ q3, size_le (by rw [q2.len, q4.len]; exact hz), fun p hp => fin_own fr2 h2' hp ((q2.mono s2.k).append q4) (none_back s1 (none_back s2 hp))⟩
    · rw [if_neg hz] at h2'; exact h2'.elim
theorem cat_shape {Γ : Gm} {g g' : G} {d : D} (h : catR fa fb Γ g = .ok d g') : isOb d = true := by
  unfold catR at h
  obtain ⟨x, g1, _, h⟩ := bind_ok h
  obtain ⟨y, g2, _, h⟩ := bind_ok h
  cases x <;> (try (cases h; done))
  cases y <;> (try (cases h; done))
  dsimp only at h
  split at h
  · cases h; rfl
  · cases h
def revR (fa : Gm → G → R D) : Gm → G → R D := fun Γ g => (fa Γ g).bind fun x g => match x with
      | .lst xs => .ok (.lst xs.reverse) g
      | _ => .st
theorem f_rev {k : Nat} {p1 p2 p3 : Pos} (ha : PE X a (tE X.K W Ew fa)) : PE X (.Subscript a (.Slice none none (some (.UnaryOp .USub (.Constant (.int 1) k p1) p2)) p3) pos) (tFf X.K W Ew (revR fa)) :=
  PE.imp (pe_revL ha) fun σ H Q ⟨Hk0, H0, Γ, g, Hk, fr, h⟩ => seqE fr h fun v d g1 Hk1 H1 fr1 s1 r1 h1 => by
    cases d <;> (try exact h1.elim)
    rename_i xs
    obtain ⟨a, vs, rfl, q1, q2⟩ := r1
    exact ⟨a, vs, rfl, SqL.of (fr1.wk.ex _ _ q1), fun p hp => fin_own fr1 h1 hp q2.rev (none_back s1 hp)⟩
theorem rev_shape {Γ : Gm} {g g' : G} {d : D} (h : revR fa Γ g = .ok d g') : isOb d = true := by
  unfold revR at h
  obtain ⟨x, g1, _, h⟩ := bind_ok h
  cases x <;> (try (cases h; done))
  cases h; rfl
def rBiF (K : PySem.W.Frag) (W : Wd) (f : List D → Option D) : List V → Hp → VK → Prop := fun vs H Q => ∃ g Hk ds zs, Wk W g Hk H ∧ RpL K W Hk ds vs ∧ f ds = some (.lst zs) ∧ ∀ p acc, H p = none → RpL K W Hk zs acc → Q (.ref p) (upd H p (.lst acc))
theorem list_shape : ∀ (ds : List D) (d : D), biD .list ds = some d → ∃ zs, d = .lst zs
  | [.lst xs], d, e => by simp only [biD, Option.some.injEq] at e; exact ⟨_, e.symm⟩
  | [.tup xs], d, e => by simp only [biD, Option.some.injEq] at e; exact ⟨_, e.symm⟩
  | [.str _], _, e => by simp [biD] at e
  | [.non], _, e => by simp [biD] at e
  | [.bl _], _, e => by simp [biD] at e
  | [.int _], _, e => by simp [biD] at e
  | [.m], _, e => by simp [biD] at e
  | [.scr _], _, e => by simp [biD] at e
  | [.dct ks _], d, e => by
    simp only [biD] at e
    split at e
    · cases e; exact ⟨_, rfl⟩
    · cases e
  | [], _, e => by simp [biD] at e
  | _ :: _ :: _, _, e => by simp [biD] at e
theorem sortd_shape : ∀ (ds : List D) (d : D), biD .sortd ds = some d → ∃ zs, d = .lst zs
  | [.lst xs], d, e => by
    simp only [biD] at e
    split at e
    · cases e; exact ⟨_, rfl⟩
    · cases e
  | [.tup xs], d, e => by
    simp only [biD] at e
    split at e
    · cases e; exact ⟨_, rfl⟩
    · cases e
  | [.str _], _, e => by simp [biD] at e
  | [.non], _, e => by simp [biD] at e
  | [.bl _], _, e => by simp [biD] at e
  | [.int _], _, e => by simp [biD] at e
  | [.m], _, e => by simp [biD] at e
  | [.scr _], _, e => by simp [biD] at e
  | [.dct _ _], _, e => by simp [biD] at e
  | [], _, e => by simp [biD] at e
  | _ :: _ :: _, _, e => by simp [biD] at e
theorem sort_shape : ∀ (ds : List D) (d : D), biD .sorted ds = some d → ∃ zs, d = .lst zs
  | [.lst xs], d, e => by
    simp only [biD, Option.map_eq_some_iff] at e
    obtain ⟨_, _, e⟩ := e
    exact ⟨_, e.symm⟩
  | [.tup xs], d, e => by
    simp only [biD, Option.map_eq_some_iff] at e
    obtain ⟨_, _, e⟩ := e
    exact ⟨_, e.symm⟩
  | [.str _], _, e => by simp [biD] at e
  | [.non], _, e => by simp [biD] at e
  | [.bl _], _, e => by simp [biD] at e
  | [.int _], _, e => by simp [biD] at e
  | [.m], _, e => by simp [biD] at e
  | [.scr _], _, e => by simp [biD] at e
  | [.dct _ _], _, e => by simp [biD] at e
  | [], _, e => by simp [biD] at e
  | _ :: _ :: _, _, e => by simp [biD] at e
theorem call_listF (hc : X.calm = true) : CallR X (.type "list") (rBiF X.K W (biD .list)) := by
  intro pins s σ H vs us Q I rv h
  obtain ⟨g, Hk, ds, zs, w, r, e, q⟩ := h
  match ds, e with
  | [.lst xs], e =>
    obtain ⟨x, rfl, a, ys, rfl, h1, h2⟩ := len1 r
    simp only [biD, Option.some.injEq, D.lst.injEq] at e
    subst e
    exact call_list_of pins s σ H _ us Q I rv ⟨a, ys, rfl, .inl (SqL.of (w.ex _ _ h1)), fun p hp => q p ys hp h2⟩
  | [.tup xs], e =>
    obtain ⟨x, rfl, a, ys, rfl, h1, h2⟩ := len1 r
    simp only [biD, Option.some.injEq, D.lst.injEq] at e
    subst e
    exact call_list_of pins s σ H _ us Q I rv ⟨a, ys, rfl, .inr (ex_t w.ex h1), fun p hp => q p ys hp h2⟩
  | [.str _], e => simp [biD] at e
  | [.non], e => simp [biD] at e
  | [.bl _], e => simp [biD] at e
  | [.int _], e => simp [biD] at e
  | [.m], e => simp [biD] at e
  | [.scr _], e => simp [biD] at e
  | [.dct ks ws], e =>
    obtain ⟨x, rfl, a, o, xs, rfl, h1, h2, h3, h4, h5, h6, h7⟩ := len1 r
    simp only [biD] at e
    split at e
    · rename_i hz
      simp only [Option.some.injEq, D.lst.injEq] at e
      subst e
      rw [Vals.ref1 rv]
      have hl := h6.len
      rw [List.length_map] at hl
      exact call_listX hc I h2 (w.ex _ _ h1) h3 (size_le (by rw [hl]; exact hz)) fun p hp => q p _ hp h6
    · cases e
  | [], e => simp [biD] at e
  | _ :: _ :: _, e => simp [biD] at e
theorem call_sortdF (hu : X.A.units + 66 < cLine) : CallR X (.builtin "sorted") (rBiF X.K W (biD .sortd)) := by
  intro pins s σ H vs us Q I rv h
  obtain ⟨g, Hk, ds, zs, w, r, e, q⟩ := h
  match ds, e with
  | [.lst xs], e =>
    obtain ⟨x, rfl, a, ys, rfl, h1, h2⟩ := len1 r
    simp only [biD] at e
    split at e
    · rename_i hk
      simp only [Bool.and_eq_true] at hk
      cases e
      rw [Vals.ref1 rv]
      exact call_sortd hu I w.ex (SqL.of (w.ex _ _ h1)) h2 hk.1 hk.2 fun p acc hp ra => q p acc hp ra
    · cases e
  | [.tup xs], e =>
    obtain ⟨x, rfl, a, ys, rfl, h1, h2⟩ := len1 r
    simp only [biD] at e
    split at e
    · rename_i hk
      simp only [Bool.and_eq_true] at hk
      cases e
      rw [Vals.ref1 rv]
      exact call_sortdT hu I w.ex (ex_t w.ex h1) h2 hk.1 hk.2 fun p acc hp ra => q p acc hp ra
    · cases e
  | [.str _], e => simp [biD] at e
  | [.non], e => simp [biD] at e
  | [.bl _], e => simp [biD] at e
  | [.int _], e => simp [biD] at e
  | [.m], e => simp [biD] at e
  | [.scr _], e => simp [biD] at e
  | [.dct _ _], e => simp [biD] at e
  | [], e => simp [biD] at e
  | _ :: _ :: _, e => simp [biD] at e
theorem call_sortF : CallR X (.builtin "sorted") (rBiF X.K W (biD .sorted)) := by
  intro pins s σ H vs us Q I rv h
  obtain ⟨g, Hk, ds, zs, w, r, e, q⟩ := h
  match ds, e with
  | [.lst xs], e =>
    obtain ⟨x, rfl, a, ys, rfl, h1, h2⟩ := len1 r
    simp only [biD, Option.map_eq_some_iff, D.lst.injEq] at e
    obtain ⟨ns, en, rfl⟩ := e
    rw [h2.ints en] at h1
    refine cr_sortedI pins s σ H _ us Q I rv ⟨a, ns, rfl, SqL.of (w.ex _ _ h1), fun ns' p hp hs hn => ?_⟩
    have e : ns' = sortI ns := PySem.W.ksm_same (hp.trans (sortI_perm ns).symm) hs (sortI_sorted ns)
    rw [e]
    exact q p _ hn (RpL.ofInts _)
  | [.tup xs], e =>
    obtain ⟨x, rfl, a, ys, rfl, h1, h2⟩ := len1 r
    simp only [biD, Option.map_eq_some_iff, D.lst.injEq] at e
    obtain ⟨ns, en, rfl⟩ := e
    rw [h2.ints en] at h1
    refine cr_sortT pins s σ H _ us Q I rv ⟨a, ns, rfl, ex_t w.ex h1, fun ns' p hp hs hn => ?_⟩
    have e : ns' = sortI ns := PySem.W.ksm_same (hp.trans (sortI_perm ns).symm) hs (sortI_sorted ns)
    rw [e]
    exact q p _ hn (RpL.ofInts _)
  | [.str _], e => simp [biD] at e
  | [.non], e => simp [biD] at e
  | [.bl _], e => simp [biD] at e
  | [.int _], e => simp [biD] at e
  | [.m], e => simp [biD] at e
  | [.scr _], e => simp [biD] at e
  | [.dct _ _], e => simp [biD] at e
  | [], e => simp [biD] at e
  | _ :: _ :: _, e => simp [biD] at e
theorem f_biB {x : Str} {id : String} {p : Pos} {f : List D → Option D} (hl : ∀ ds d, f ds = some d → ∃ zs, d = .lst zs) (hc : CallR X (.builtin id) (rBiF X.K W f)) (hg : Gl X x) (hm : X.mg x = none) (hv : bootBuiltins x = some (.builtin id)) (ha : PA X (a :: es) (tAa X.K W Ew fs))
    (hn : x ≠ "__name__") (hdb : (x == ("__debug__" : Str)) = false) (he : starEach (a :: es) X.env = (false, eval a X.env) :: starEach es X.env) (hpl : (backTo pos (starEach es X.env)).any (·.1) = false) :
    PE X (.Call (.Name x p) (a :: es) [] pos) (tFf X.K W Ew fun Γ g => (fs Γ g).bind fun xs g => lift (f xs) g) :=
  PE.imp (pe_callB hc hg hm hv ha hn hdb he hpl) fun σ H Q ⟨Hk0, H0, Γ, g, Hk, fr, h⟩ => seqA fr h fun vs ds g1 Hk1 H1 fr1 s1 r1 h1 => by
    cases ez : f ds with
    | none => rw [ez] at h1; exact h1.elim
    | some z =>
      obtain ⟨zs, rfl⟩ := hl _ _ ez
      rw [ez] at h1
      exact ⟨g1, Hk1, ds, zs, fr1.wk, r1, ez, fun p acc hp r => fin_own fr1 h1 hp r (none_back s1 hp)⟩
theorem f_biT {x : Str} {id : String} {p : Pos} {f : List D → Option D} (hl : ∀ ds d, f ds = some d → ∃ zs, d = .lst zs) (hc : CallR X (.type id) (rBiF X.K W f)) (hg : Gl X x) (hm : X.mg x = none) (hv : bootBuiltins x = some (.type id)) (ha : PA X (a :: es) (tAa X.K W Ew fs))
    (hn : x ≠ "__name__") (hdb : (x == ("__debug__" : Str)) = false) (he : starEach (a :: es) X.env = (false, eval a X.env) :: starEach es X.env) (hpl : (backTo pos (starEach es X.env)).any (·.1) = false) :
    PE X (.Call (.Name x p) (a :: es) [] pos) (tFf X.K W Ew fun Γ g => (fs Γ g).bind fun xs g => lift (f xs) g) :=
  PE.imp (pe_callTy hc hg hm hv ha hn hdb he hpl) fun σ H Q ⟨Hk0, H0, Γ, g, Hk, fr, h⟩ => seqA fr h fun vs ds g1 Hk1 H1 fr1 s1 r1 h1 => by
    cases ez : f ds with
    | none => rw [ez] at h1; exact h1.elim
    | some z =>
      obtain ⟨zs, rfl⟩ := hl _ _ ez
      rw [ez] at h1
      exact ⟨g1, Hk1, ds, zs, fr1.wk, r1, ez, fun p acc hp r => fin_own fr1 h1 hp r (none_back s1 hp)⟩
def lrng1R (fa : Gm → G → R D) : Gm → G → R D := fun Γ g => (fa Γ g).bind fun x g => match x with | .int i => if -1000000 ≤ i ∧ i ≤ 1000000 then .ok (.lst (rngD 0 i.toNat)) g else .st | _ => .st
theorem f_lrng1 {p pos2 pr : Pos} (hc : X.calm = true) (hg : Gl X "list") (hm : X.mg "list" = none) (hg2 : Gl X "range") (hm2 : X.mg "range" = none) (ha : PE X a (tE X.K W Ew fa)) (na : starEach [a] X.env = (false, eval a X.env) :: starEach [] X.env) :
    PE X (.Call (.Name "list" p) [.Call (.Name "range" pr) [a] [] pos2] [] pos) (tFf X.K W Ew (lrng1R fa)) :=
  PE.imp (pe_listRg hc hg hm (prg_1 hg2 hm2 ha na)) fun σ H Q ⟨Hk0, H0, Γ, g, Hk, fr, h⟩ => seqE fr h fun v d g1 Hk1 H1 fr1 s1 r1 h1 => by
    cases d <;> (try exact h1.elim)
    rename_i i
    have h1' : Fin W Ew Hk1 H1 (if -1000000 ≤ i ∧ i ≤ 1000000 then R.ok (D.lst (rngD 0 i.toNat)) g1 else R.st) _ := h1
    by_cases hz : -1000000 ≤ i ∧ i ≤ 1000000
    · rw [if_pos hz] at h1'
      refine ⟨i, r1, ⟨by omega, by omega, by omega, by omega, by omega⟩, fun p hp => fin_own fr1 h1' hp ?_ (none_back s1 hp)⟩
      have e : (i - 0).toNat = i.toNat := by rw [Int.sub_zero]
      unfold rgV
      rw [e]
      exact rg_rel _ _
    · rw [if_neg hz] at h1'; exact h1'.elim
theorem lrng1_shape {Γ : Gm} {g g' : G} {d : D} (h : lrng1R fa Γ g = .ok d g') : isOb d = true := by
  unfold lrng1R at h
  obtain ⟨x, g1, _, h⟩ := bind_ok h
  cases x <;> (try (cases h; done))
  dsimp only at h
  split at h
  · cases h; rfl
  · cases h
def lrng2R (fa fb : Gm → G → R D) : Gm → G → R D := fun Γ g => (fa Γ g).bind fun x g => (fb Γ g).bind fun y g => match x, y with
      | .int i, .int j => if (-1000000 ≤ i ∧ i ≤ 1000000) ∧ -1000000 ≤ j ∧ j ≤ 1000000 then .ok (.lst (rngD i (j - i).toNat)) g else .st
      | _, _ => .st
theorem f_lrng2 {p pos2 pr : Pos} (hc : X.calm = true) (hg : Gl X "list") (hm : X.mg "list" = none) (hg2 : Gl X "range") (hm2 : X.mg "range" = none) (ha : PE X a (tE X.K W Ew fa)) (hb : PE X b (tE X.K W Ew fb))
    (na : starEach [a, b] X.env = (false, eval a X.env) :: starEach [b] X.env) (nb : starEach [b] X.env = (false, eval b X.env) :: starEach [] X.env) (hp : (backTo pos2 (starEach [b] X.env)).any (·.1) = false) :
    PE X (.Call (.Name "list" p) [.Call (.Name "range" pr) [a, b] [] pos2] [] pos) (tFf X.K W Ew (lrng2R fa fb)) :=
  PE.imp (pe_listRg hc hg hm (prg_2 hg2 hm2 ha hb na nb hp)) fun σ H Q ⟨Hk0, H0, Γ, g, Hk, fr, h⟩ => seqE fr h fun v d g1 Hk1 H1 fr1 s1 r1 h1 => seqE fr1 h1 fun v2 d2 g2 Hk2 H2 fr2 s2 r2 h2 => by
    cases d <;> (try exact h2.elim)
    cases d2 <;> (try exact h2.elim)
    rename_i i j
    have h2' : Fin W Ew Hk2 H2 (if (-1000000 ≤ i ∧ i ≤ 1000000) ∧ -1000000 ≤ j ∧ j ≤ 1000000 then R.ok (D.lst (rngD i (j - i).toNat)) g2 else R.st) _ := h2
    by_cases hz : (-1000000 ≤ i ∧ i ≤ 1000000) ∧ -1000000 ≤ j ∧ j ≤ 1000000
    · rw [if_pos hz] at h2'
      refine ⟨i, j, r1, r2, ⟨by omega, by omega, by omega, by omega, by omega⟩, fun p hp => fin_own fr2 h2' hp ?_ (none_back s1 (none_back s2 hp))⟩
      unfold rgV
      exact rg_rel _ _
    · rw [if_neg hz] at h2'; exact h2'.elim
theorem lrng2_shape {Γ : Gm} {g g' : G} {d : D} (h : lrng2R fa fb Γ g = .ok d g') : isOb d = true := by
  unfold lrng2R at h
  obtain ⟨x, g1, _, h⟩ := bind_ok h
  obtain ⟨y, g2, _, h⟩ := bind_ok h
  cases x <;> (try (cases h; done))
  cases y <;> (try (cases h; done))
  dsimp only at h
  split at h
  · cases h; rfl
  · cases h
def idxOR (i : Nat) (fb : Gm → G → R D) : Gm → G → R D := fun Γ g => match Γ[i]? with
      | some (.own d) => (fb Γ g).bind fun y g => lift (idxD d y) g
      | _ => .st
/-- an item of what stands at p -/
def rIO (K : PySem.W.Frag) (W : Wd) : R2 := fun x y H Q => (∃ (p : Addr) (xs : List V) (i : Int) (v : V), x = .ref p ∧ y = .int i ∧ SqL K H p xs ∧ atI xs i = some v ∧ Q v H) ∨
  ∃ (p : Addr) (ks vs : List D) (k d : D) (Hk : Hp), x = .ref p ∧ Ex Hk H ∧ DAt K W Hk H p ks vs ∧ Rp K W Hk k y ∧ okK k = true ∧ getK (keyD k) ks vs = some d ∧ ∀ v, Rp K W Hk d v → Q v H
theorem ix_O (hu : X.A.units + 64 < cLine) (hw : W.w = X.w) : IxR X (rIO X.K W) := by
  intro value slice pins s σ H x y v u Q I rx ry h hs
  rcases h with h | ⟨p, ks, vs, k, d, Hk, rfl, ex, h1, h2, h3, h4, q⟩
  · exact ix_list value slice pins s σ H x y v u Q I rx ry h hs
  · have e2 : v = Value.ref p := rx
    subst e2
    exact ix_dct hu hw I ex h1 h2 h3 ry h4 hs fun v' w' s' I' q1 q2 => ⟨v', H, I', q2, q v' q1⟩
theorem e_idxO (hu : X.A.units + 64 < cLine) (hw : W.w = X.w) {i : Nat} (hv : PE X a (tVar i)) (hb : PE X b (tE X.K W Ew fb)) (hs : PlainIx b) : PE X (.Subscript a b pos) (tE X.K W Ew (idxOR i fb)) :=
  PE.imp (pe_ix (ix_O hu hw) hv hb hs) fun σ H Q ⟨Hk0, H0, Γ, g, Hk, fr, h⟩ => by
    obtain ⟨os, sl, nd, ho⟩ := fr.sl
    unfold idxOR at h
    cases e1 : Γ[i]? with
    | none => simp only [e1] at h; exact h.elim
    | some s0 =>
      cases s0 with
      | no => simp only [e1] at h; exact h.elim
      | val _ => simp only [e1] at h; exact h.elim
      | own d =>
        obtain ⟨p, u, h2, hm, h4, h5⟩ := sl.obj_at e1
        simp only [e1] at h
        refine ⟨.ref p, h2, seqE fr h fun v2 d2 g2 Hk2 H2 fr2 s2 r2 h2' => ?_⟩
        obtain ⟨z, ez, hz⟩ := h2'.lift
        have h4' := s2.h _ _ h4 (ho p hm).2.2
        cases d <;> (try exact h5.elim)
        · obtain ⟨xs, e3, h5⟩ := h5
          subst e3
          cases d2 <;> (try (simp only [idxD] at ez; cases ez; done))
          rename_i k
          obtain ⟨v, ev, rv⟩ := at_rel h5 ez
          exact .inl ⟨p, xs, k, v, rfl, r2, SqL.of h4', ev, hz Hk2 H2 (Step.refl fr2.wk.ex) fr2.wk.dr v (rv.mono s2.k)⟩
        · obtain ⟨o, xs, e3, q1, q2, q3, q4, q5, q6⟩ := h5
          subst e3
          obtain ⟨ok, hg⟩ := idxD_dct ez
          exact .inr ⟨p, _, _, d2, z, Hk2, rfl, fr2.wk.ex, ⟨o, xs, h4', q1, q2, q3, q4, q5.mono s2.k, q6.mono s2.k⟩, r2, ok, hg, fun v rv => hz Hk2 H2 (Step.refl fr2.wk.ex) fr2.wk.dr v rv⟩
def inOR (neg : Bool) (fa : Gm → G → R D) (i : Nat) : Gm → G → R D := fun Γ g => (fa Γ g).bind fun k g => match Γ[i]? with
      | some (.own (.dct ks vs)) => if okK k then .ok (.bl (if neg then !(getK (keyD k) ks vs).isSome else (getK (keyD k) ks vs).isSome)) g else .st
      | _ => .st
def rInO (K : PySem.W.Frag) (W : Wd) (neg : Bool) : R2 := fun x y H Q => ∃ (p : Addr) (ks vs : List D) (k : D) (Hk : Hp), y = .ref p ∧ Ex Hk H ∧ DAt K W Hk H p ks vs ∧ Rp K W Hk k x ∧ okK k = true ∧ Q (.bl (if neg then !(getK (keyD k) ks vs).isSome else (getK (keyD k) ks vs).isSome)) H
def inOp : Bool → CmpOp
  | true => .NotIn
  | false => .In
theorem op_inO (hu : X.A.units + 64 < cLine) (hw : W.w = X.w) : ∀ neg : Bool, OpR X (compareOp (inOp neg)) (rInO X.K W neg)
  | false => by
    intro pins s σ H x y v u Q I rx ry h
    obtain ⟨p, ks, vs, k, Hk, rfl, ex, h1, h2, h3, q⟩ := h
    have e2 : u = Value.ref p := ry
    subst e2
    exact n_in hu I ex hw h1 h2 h3 rx fun s' I' => ⟨.bl _, H, I', rfl, q⟩
  | true => by
    intro pins s σ H x y v u Q I rx ry h
    obtain ⟨p, ks, vs, k, Hk, rfl, ex, h1, h2, h3, q⟩ := h
    have e2 : u = Value.ref p := ry
    subst e2
    exact n_notIn hu I ex hw h1 h2 h3 rx fun s' I' => ⟨.bl _, H, I', rfl, q⟩
theorem in_read {i : Nat} {neg : Bool} {kk : D → G → Hp → Hp → Prop} {Q : VK} {σ : L2.St} {H : Hp} {Γ : Gm} {g : G} {Hk Hk0 H0 : Hp} (fr : Fr X.K W Hk0 H0 Γ g σ Hk H) (h : Fin W Ew Hk H (inOR neg fa i Γ g) kk) (hq : ∀ b g' Hk' H', kk (.bl b) g' Hk' H' → Q (.bl b) H') : tOp (rInO X.K W neg) (tE X.K W Ew fa) (tVar i) σ H Q :=
  seqE fr h fun v d g1 Hk1 H1 fr1 s1 r1 h1 => by
    obtain ⟨os, sl, nd, ho⟩ := fr1.sl
    cases e1 : Γ[i]? with
    | none => simp only [e1] at h1; exact h1.elim
    | some s0 =>
      cases s0 with
      | no => simp only [e1] at h1; exact h1.elim
      | val _ => simp only [e1] at h1; exact h1.elim
      | own d0 =>
        obtain ⟨p, u, h2, hm, h4, h5⟩ := sl.obj_at e1
        simp only [e1] at h1
        cases d0 <;> (try exact h1.elim)
        rename_i ks vs
        obtain ⟨o, xs, e3, q1, q2, q3, q4, q5, q6⟩ := h5
        subst e3
        by_cases hk : okK d = true
        · simp only [hk, if_true] at h1
          exact ⟨.ref p, h2, p, ks, vs, d, Hk1, rfl, fr1.wk.ex, ⟨o, xs, h4, q1, q2, q3, q4, q5, q6⟩, r1, hk, hq _ _ _ _ (Fin.now fr1 h1)⟩
        · simp only [hk, if_false] at h1
          exact h1.elim
theorem e_inO (hu : X.A.units + 64 < cLine) (hw : W.w = X.w) {i : Nat} {neg : Bool} (ha : PE X a (tE X.K W Ew fa)) (hv : PE X b (tVar i)) (hm : behindInMarks (inOp neg) b = false) : PE X (.Compare a [inOp neg] [b] pos) (tE X.K W Ew (inOR neg fa i)) :=
  PE.imp (pe_cmpR (op_inO hu hw neg) ha hv hm) fun σ H Q ⟨Hk0, H0, Γ, g, Hk, fr, h⟩ => in_read fr h fun b g' Hk' H' q => q _ rfl
theorem t_inO (hu : X.A.units + 64 < cLine) (hw : W.w = X.w) {i : Nat} {neg : Bool} (ha : PE X a (tE X.K W Ew fa)) (hv : PE X b (tVar i)) (hm : behindInMarks (inOp neg) b = false) : PT X (.Compare a [inOp neg] [b] pos) (tTt X.K W Ew fun Γ g => blR (inOR neg fa i Γ g)) :=
  PT.imp (pt_cmpR (op_inO hu hw neg) ha hv hm) fun σ H Q ⟨Hk0, H0, Γ, g, Hk, fr, h⟩ => by
    have h := bl_of (Q := fun _ _ => True) h
    show tOp (rInO X.K W neg) (tE X.K W Ew fa) (tVar i) σ H fun x H1 => ∃ c, x = .bl c ∧ Q c H1
    exact in_read fr h fun b g' Hk' H' ⟨b', e, q⟩ => ⟨b, rfl, by cases e; exact q⟩
def lenOR (i : Nat) : Gm → G → R D := fun Γ g => match Γ[i]? with
      | some (.own (.dct ks vs)) => if ks.length ≤ 1000000 then .ok (.int ks.length) g else .st
      | some (.own (.lst xs)) => if xs.length ≤ 1000000 then .ok (.int xs.length) g else .st
      | _ => .st
def rLenO (K : PySem.W.Frag) (W : Wd) : List V → Hp → VK → Prop := fun xs H Q => (∃ p ys, xs = [.ref p] ∧ (SqL K H p ys ∨ SqT K H p ys) ∧ Q (.int ys.length) H) ∨ ∃ (p : Addr) (ks vs : List D) (Hk : Hp), xs = [.ref p] ∧ Ex Hk H ∧ DAt K W Hk H p ks vs ∧ ks.length ≤ 1000000 ∧ Q (.int ks.length) H
theorem call_lenO (hw : W.w = X.w) : CallR X (.builtin "len") (rLenO X.K W) := by
  intro pins s σ H vs us Q I rv h
  rcases h with h | h
  · exact call_len_seq pins s σ H vs us Q I rv h
  obtain ⟨p, ks, ws, Hk, rfl, ex, ⟨o, xs, h1, h2, h3, h4, h5, h6, h7⟩, hl, q⟩ := h
  rw [Vals.ref1 rv]
  obtain ⟨ys, t, dd⟩ := dict_of I ex hw h1 h3 h4 h5 h6
  have e : (pairsH ys).length = ks.length := by
    rw [pairsH_length, ← trip_len t, ← List.length_map (f := fun x : NestedKey × Addr × V => x.1), h4, keysD_len]
  refine PyProof.Rows.call_len_slot (n := (pairsH ys).length) (T := "dict") dd.typeIs PySem.F.slot_dict_len (fun Q' hq => len_keyed h2 ⟨ys, dd, rfl⟩ hq) (by omega) (by rw [e]; omega) ?_
  rw [e]
  exact ⟨.int _, H, I.tok _, ⟨_, rfl⟩, q⟩
theorem e_lenO (hw : W.w = X.w) {i : Nat} {x : Str} {p p2 : Pos} (hv : PE X (.Name x p2) (tVar i)) (hg : Gl X "len") (hm : X.mg "len" = none) : PE X (.Call (.Name "len" p) [.Name x p2] [] pos) (tE X.K W Ew (lenOR i)) :=
  PE.imp (pe_callB (call_lenO (W := W) hw) hg hm (by decide +kernel) (pa_cons hv pa_nil)) fun σ H Q ⟨Hk0, H0, Γ, g, Hk, fr, h⟩ => by
    obtain ⟨os, sl, nd, ho⟩ := fr.sl
    unfold lenOR at h
    cases e1 : Γ[i]? with
    | none => simp only [e1] at h; exact h.elim
    | some s0 =>
      cases s0 with
      | no => simp only [e1] at h; exact h.elim
      | val _ => simp only [e1] at h; exact h.elim
      | own d0 =>
        obtain ⟨p, u, h2, hm, h4, h5⟩ := sl.obj_at e1
        simp only [e1] at h
        cases d0 <;> (try exact h.elim)
        · rename_i ds
          obtain ⟨xs, e3, e5⟩ := h5
          subst e3
          by_cases hk : ds.length ≤ 1000000
          · simp only [hk, if_true] at h
            refine ⟨.ref p, h2, .inl ⟨p, xs, rfl, .inl (SqL.of h4), ?_⟩⟩
            rw [e5.len]
            exact Fin.now fr h _ rfl
          · simp only [hk, if_false] at h
            exact h.elim
        rename_i ks vs
        obtain ⟨o, xs, e3, q1, q2, q3, q4, q5, q6⟩ := h5
        subst e3
        by_cases hk : ks.length ≤ 1000000
        · simp only [hk, if_true] at h
          exact ⟨.ref p, h2, .inr ⟨p, ks, vs, Hk, rfl, fr.wk.ex, ⟨o, xs, h4, q1, q2, q3, q4, q5, q6⟩, hk, Fin.now fr h _ rfl⟩⟩
        · simp only [hk, if_false] at h
          exact h.elim
/-- the object of {} -/
def dObj0 : Obj := { cls := .type "dict", data := .dict #[] }
theorem dc_nil (w : World) : DcIs w dObj0 [] := ⟨[], .nil, ⟨rfl, rfl, rfl⟩, List.nodup_nil, #[], 0, rfl, rfl⟩
def tDNewX : TE := fun _ H Q => ∀ p, H p = none → (p == sysModules) = false → Q (.ref p) (upd H p (ObX p dObj0))
theorem pe_dnewX : PE X (.Dict [] [] pos) tDNewX := ⟨fun pins s σ H Q I h =>
  wpAny_Dict_empty ⟨.ref s.heap.objs.size, _, I.laid (a := s.heap.objs.size) (o := ObX s.heap.objs.size dObj0) (t' := s.toks) (fun _ _ q => Heap.get?_push_of_some _ q) (Nat.le_refl _) (obX_ok (Heap.get?_push_size _ rfl)), rfl,
    h _ (I.hok.fresh (Nat.le_refl _)) (beq_eq_false_iff_ne.mpr (Ne.symm (Nat.ne_of_lt I.big)))⟩⟩
theorem f_dnil : PE X (.Dict [] [] pos) (tFf X.K W Ew fun _ g => .ok (.dct [] []) g) :=
  PE.imp pe_dnewX fun σ H Q ⟨Hk0, H0, Γ, g, Hk, fr, h⟩ p hp hs =>
    h Hk _ (Step.hid fr.wk.ex hp) (fr.wk.dr.new hp) p _ hp (fr.wk.dr.unk_of fr.wk hp) upd_same ⟨dObj0, [], rfl, hs, dc_nil _, rfl, rfl, rfl, rfl⟩
/-- {k: v} -/
def tDOne (X : Cx) (W : Wd) (tk tv : TE) : TE := fun σ H Q => ∀ p, H p = none → (p == sysModules) = false → tk σ (upd H p (ObX p dObj0)) fun x H1 => tv σ H1 fun y H2 => H2 p = some (ObX p dObj0) ∧
  ∃ Hk d, Ex Hk H2 ∧ Rp X.K W Hk d x ∧ okK d = true ∧ ∀ o a, x = .ref a → DcIs X.w o [(keyD d, a, y)] → Q (.ref p) (upd H2 p (ObX p o))
theorem pe_done {k v : Expr} {tk tv : TE} (hu : X.A.units + 64 < cLine) (hk : PE X k tk) (hv : PE X v tv) : PE X (.Dict [some k] [v] pos) (tDOne X W tk tv) := by
  refine ⟨fun pins s σ H Q I q => ?_⟩
  have hn := I.hok.fresh (Nat.le_refl s.heap.objs.size)
  have I1 := I.laid (a := s.heap.objs.size) (o := ObX s.heap.objs.size dObj0) (h' := s.heap.push dObj0) (t' := s.toks) (fun _ _ q => Heap.get?_push_of_some _ q) (Nat.le_refl _) (obX_ok (Heap.get?_push_size _ rfl))
  have hp : (s.heap.objs.size == sysModules) = false := beq_eq_false_iff_ne.mpr (Ne.symm (Nat.ne_of_lt I.big))
  have hpl := pairTrees_length [some k] [v] X.env pos rfl rfl
  rw [arm_eval_Dict, zip_pairTrees [some k] [v] X.env pos rfl rfl, dictDisplay_pairs _ (by intro e; rw [e] at hpl; cases hpl) (by rw [hpl, List.length_singleton]; decide)]
  refine wpAny_bind (wpAny_standAt (wpAny_bind (wpAny_subDictH (knd := nestedKind X.prog X.w) (by show X.A.units + 8 < cLine; omega) (by rw [hpl, List.length_singleton]; decide)
    (thn ((pps_cons hk hv pps_nil).run pins _ σ _ (fun ps H2 => match ps with | [(x, y)] => (H2 s.heap.objs.size = some (ObX s.heap.objs.size dObj0) ∧ ∃ Hk d, Ex Hk H2 ∧ Rp X.K W Hk d x ∧ okK d = true ∧ ∀ o a, x = .ref a → DcIs X.w o [(keyD d, a, y)] → Q (.ref s.heap.objs.size) (upd H2 s.heap.objs.size (ObX s.heap.objs.size o))) | _ => False) I1 (q _ hn hp)) fun ws s2 ⟨ps, H2, I2, rel, q2⟩ => ?_))))
  cases rel with
  | nil => exact q2.elim
  | @cons p0 w0 _ _ r0 rel =>
    cases rel with
    | cons _ _ => exact q2.elim
    | nil =>
    obtain ⟨e1, Hk, d, ex, rd, ok, q3⟩ := q2
    obtain ⟨a, g1, g2, g3⟩ := rp_is I2 ex rd ok r0.1
    have hd : s2.heap.DictOfH (nestedKind X.prog X.w) s.heap.objs.size [] := ⟨dObj0, #[], 0, obX_at I2.hok e1, ⟨rfl, rfl, rfl⟩, rfl, rfl, fun _ hx => by simp at hx, List.nodup_nil⟩
    refine ⟨[(keyD d, a, w0.2)], ⟨g2, rfl, g3, trivial⟩, hd, fun h' tk hd' hs => wpAny_pure ?_⟩
    obtain ⟨o, es, ep, z1, z2, z3, z4, _, z5⟩ := hd'
    refine ⟨.ref s.heap.objs.size, _, d_write I2 (by rw [e1]; exact True.intro) hs ⟨o, z1⟩ (obX_ok z1), rfl, q3 o a g1 ?_⟩
    exact ⟨[(keyD d, a, w0.2)], .cons ⟨rfl, rfl, r0.2⟩ .nil, z2, by simp, es, ep, z3, z4⟩
def doneR (fa fb : Gm → G → R D) : Gm → G → R D := fun Γ g => (fa Γ g).bind fun k g => (fb Γ g).bind fun v g => if okK k then .ok (.dct [k] [v]) g else .st
theorem f_done (hu : X.A.units + 64 < cLine) (hw : W.w = X.w) (ha : PE X a (tE X.K W Ew fa)) (hb : PE X b (tE X.K W Ew fb)) : PE X (.Dict [some a] [b] pos) (tFf X.K W Ew (doneR fa fb)) :=
  PE.imp (pe_done (W := W) hu ha hb) fun σ H Q ⟨Hk0, H0, Γ, g, Hk, fr, h⟩ p hp hs => by
    have s0 : Step W Hk H Hk (upd H p (ObX p dObj0)) := Step.hid fr.wk.ex hp
    have out := ex_upd_out fr.wk.dr hp
    have fr0 := fr.step s0 (fr.wk.dr.upd out (nc_none hp) (by intro ps z; unfold ObX at z; cases z))
    have k0 := fr.wk.dr.unk_of fr.wk hp
    unfold doneR at h
    refine ⟨Hk0, H0, Γ, g, Hk, fr0, ?_⟩
    cases ea : fa Γ g with
    | st => rw [ea] at h; exact h.elim
    | ex c ds g1 => rw [ea] at h; exact fun Hk' H' cls dx s d x => h Hk' H' cls dx (s0.trans s) d x
    | ok d g1 =>
      rw [ea] at h
      intro Hk1 H1 s1 dr1 v r1
      have fr1 := fr0.step s1 dr1
      refine ⟨Hk0, H0, Γ, g1, Hk1, fr1, ?_⟩
      have h' : Fin W Ew Hk H ((fb Γ g1).bind fun v g => if okK d then .ok (.dct [d] [v]) g else .st) fun d _ Hk' H' => ∀ p u, H p = none → Hk' p = none → H' p = some u → Ob X.K W Hk' d p u → Q (.ref p) H' := h
      cases eb : fb Γ g1 with
      | st => rw [eb] at h'; exact h'.elim
      | ex c ds g2 => rw [eb] at h'; exact fun Hk' H' cls dx s d x => h' Hk' H' cls dx ((s0.trans s1).trans s) d x
      | ok d2 g2 =>
        rw [eb] at h'
        intro Hk2 H2 s2 dr2 v2 r2
        have h'' : Fin W Ew Hk H (if okK d then .ok (.dct [d] [d2]) g2 else .st) fun d _ Hk' H' => ∀ p u, H p = none → Hk' p = none → H' p = some u → Ob X.K W Hk' d p u → Q (.ref p) H' := h'
        have p1 : H1 p = some (ObX p dObj0) := s1.h _ _ upd_same out
        have p2 : H2 p = some (ObX p dObj0) := s2.h _ _ p1 out
        have n2 : Hk2 p = none := s2.unk (s1.unk k0 upd_same) p1
        by_cases hk : okK d = true
        · rw [if_pos hk] at h''
          refine ⟨p2, Hk2, d, s2.kh, r1.mono s2.k, hk, fun o a ea dc => ?_⟩
          subst ea
          have r1' : Rp X.K W Hk2 d (.ref a) := r1.mono s2.k
          exact h'' Hk2 _ (((s0.trans s1).trans s2).mut hp n2) (dr2.upd out (nc_obX p2 rfl)) p _ hp n2 upd_same ⟨o, [(keyD d, a, v2)], rfl, hs, by rw [hw]; exact dc, rfl, by simp [hk], .cons r1' .nil, .cons r2 .nil⟩
        · rw [if_neg hk] at h''
          exact h''.elim
theorem done_shape {Γ : Gm} {g g' : G} {d : D} (h : doneR fa fb Γ g = .ok d g') : isOb d = true := by
  unfold doneR at h
  obtain ⟨x, g1, _, h⟩ := bind_ok h
  obtain ⟨y, g2, _, h⟩ := bind_ok h
  split at h
  · cases h; rfl
  · cases h
def rNil (neg : Bool) : R2 := fun x y H Q => ∃ p q xs, x = .ref p ∧ y = .ref q ∧ H p = some (.lst xs) ∧ H q = some (.lst []) ∧ Q (.bl (if neg then !xs.isEmpty else xs.isEmpty)) H
theorem op_eqNil (hu : X.A.units + 64 < cLine) : OpR X (compareOp .Eq) (rNil false) := by
  intro pins s σ H x y v u Q I rx ry h
  obtain ⟨p, q, xs, rfl, rfl, h1, h2, hq⟩ := h
  cases rx
  cases ry
  obtain ⟨z, its, n, r, hl, e⟩ := I.lstM h1
  obtain ⟨z2, its2, n2, r2, hl2, e2⟩ := I.lstM h2
  have l1 : s.heap.IsList p its.toArray := PySem.IsL.isList e
  have l2 : s.heap.IsList q its2.toArray := PySem.IsL.isList e2
  have z0 : its2 = [] := List.eq_nil_of_length_eq_zero (by rw [← hl2]; rfl)
  subst z0
  cases xs with
  | nil =>
    have z1 : its = [] := List.eq_nil_of_length_eq_zero (by rw [← hl]; rfl)
    subst z1
    exact SeqAt.eq_listAt (e := fun _ => true) l1 l2 rfl (by omega) (fun j hj => absurd hj (by simp)) ⟨.bl true, H, I, rfl, hq⟩
  | cons x xs =>
    have hz : (its.toArray.size != ([] : List Value).toArray.size) = true := by
      cases its with
      | nil => simp at hl
      | cons _ _ => simp
    exact SeqAt.eq_list_lengthsAt l1 l2 hz (by omega) ⟨.bl false, H, I, rfl, hq⟩
theorem op_neNil (hu : X.A.units + 64 < cLine) : OpR X (compareOp .NotEq) (rNil true) := by
  intro pins s σ H x y v u Q I rx ry h
  obtain ⟨p, q, xs, rfl, rfl, h1, h2, hq⟩ := h
  cases rx
  cases ry
  obtain ⟨z, its, n, r, hl, e⟩ := I.lstM h1
  obtain ⟨z2, its2, n2, r2, hl2, e2⟩ := I.lstM h2
  have l1 : s.heap.IsList p its.toArray := PySem.IsL.isList e
  have l2 : s.heap.IsList q its2.toArray := PySem.IsL.isList e2
  have z0 : its2 = [] := List.eq_nil_of_length_eq_zero (by rw [← hl2]; rfl)
  subst z0
  cases xs with
  | nil =>
    have z1 : its = [] := List.eq_nil_of_length_eq_zero (by rw [← hl]; rfl)
    subst z1
    exact SeqAt.RcNeAt.lists (e := fun _ => true) l1 l2 rfl (by omega) (fun j hj => absurd hj (by simp)) X.prog X.w X.xe _ ⟨.bl false, H, I, rfl, hq⟩
  | cons x xs =>
    have hz : (its.toArray.size != ([] : List Value).toArray.size) = true := by
      cases its with
      | nil => simp at hl
      | cons _ _ => simp
    exact SeqAt.RcNeAt.lists_lengths l1 l2 hz (by omega) X.prog X.w X.xe _ ⟨.bl true, H, I, rfl, hq⟩
def emOR (neg : Bool) (i : Nat) : Gm → G → R D := fun Γ g => match Γ[i]? with
      | some (.own (.lst xs)) => .ok (.bl (if neg then !xs.isEmpty else xs.isEmpty)) g
      | _ => .st
theorem em_read {i : Nat} {neg : Bool} {Q : VK} {σ : L2.St} {H : Hp} (h : tE X.K W Ew (emOR neg i) σ H Q) : tOp (rNil neg) (tVar i) (tLst tNil) σ H Q := by
  obtain ⟨Hk0, H0, Γ, g, Hk, fr, h⟩ := h
  obtain ⟨os, sl, nd, ho⟩ := fr.sl
  unfold emOR at h
  cases e1 : Γ[i]? with
  | none => simp only [e1] at h; exact h.elim
  | some s0 =>
    cases s0 with
    | no => simp only [e1] at h; exact h.elim
    | val _ => simp only [e1] at h; exact h.elim
    | own d =>
      simp only [e1] at h
      cases d <;> (try exact h.elim)
      rename_i ds
      obtain ⟨p, xs, h2, hm, h4, h5⟩ := sl.own_at e1
      have hl := h5.len
      have he : xs.isEmpty = ds.isEmpty := by
        cases xs <;> cases ds <;> first | rfl | simp at hl
      refine ⟨.ref p, h2, (by decide), fun q hq => ⟨p, q, xs, rfl, rfl, ?_, upd_same, ?_⟩⟩
      · rw [upd_ne (ne_of_none h4 hq)]; exact h4
      · rw [he]
        exact h Hk _ (Step.hid fr.wk.ex hq) (fr.wk.dr.new hq) _ rfl
theorem tm_read {i : Nat} {neg : Bool} {Q : Bool → Hp → Prop} {σ : L2.St} {H : Hp} (h : tTt X.K W Ew (fun Γ g => blR (emOR neg i Γ g)) σ H Q) : tOp (rNil neg) (tVar i) (tLst tNil) σ H fun x H1 => ∃ c, x = .bl c ∧ Q c H1 := by
  obtain ⟨Hk0, H0, Γ, g, Hk, fr, h⟩ := h
  obtain ⟨os, sl, nd, ho⟩ := fr.sl
  unfold emOR at h
  cases e1 : Γ[i]? with
  | none => simp only [e1] at h; exact h.elim
  | some s0 =>
    cases s0 with
    | no => simp only [e1] at h; exact h.elim
    | val _ => simp only [e1] at h; exact h.elim
    | own d =>
      simp only [e1] at h
      cases d <;> (try exact h.elim)
      rename_i ds
      obtain ⟨p, xs, h2, hm, h4, h5⟩ := sl.own_at e1
      have hl := h5.len
      have he : xs.isEmpty = ds.isEmpty := by
        cases xs <;> cases ds <;> first | rfl | simp at hl
      refine ⟨.ref p, h2, (by decide), fun q hq => ⟨p, q, xs, rfl, rfl, ?_, upd_same, _, rfl, ?_⟩⟩
      · rw [upd_ne (ne_of_none h4 hq)]; exact h4
      · rw [he]
        exact h Hk _ (Step.hid fr.wk.ex hq) (fr.wk.dr.new hq)
def starR (fa : Gm → G → R D) (fs : Gm → G → R (List D)) : Gm → G → R (List D) := fun Γ g => (fa Γ g).bind fun x g => match itemsD x with
      | some ys => (fs Γ g).bind fun xs g => .ok (ys ++ xs) g
      | none => .st
theorem a_star {p : Pos} (ha : PE X a (tE X.K W Ew fa)) (hs : PA X es (tAa X.K W Ew fs)) : PA X (.Starred a p :: es) (tAa X.K W Ew (starR fa fs)) :=
  PA.imp (StX.pa_star ha hs) fun σ H Q ⟨Hk0, H0, Γ, g, Hk, fr, h⟩ => seqE fr h fun v d g1 Hk1 H1 fr1 s1 r1 h1 => by
    cases d with
    | tup ds =>
      obtain ⟨p, vs, hv, q1, q2⟩ := r1
      exact ⟨p, vs, hv, .inl (ex_t fr1.wk.ex q1), seqA fr1 h1 fun us es g2 Hk2 H2 fr2 s2 r2 h2 => Fin.now fr2 h2 _ ((q2.mono s2.k).append r2)⟩
    | lst ds =>
      obtain ⟨p, vs, hv, q1, q2⟩ := r1
      exact ⟨p, vs, hv, .inr (SqL.of (fr1.wk.ex _ _ q1)), seqA fr1 h1 fun us es g2 Hk2 H2 fr2 s2 r2 h2 => Fin.now fr2 h2 _ ((q2.mono s2.k).append r2)⟩
    | _ => exact h1.elim
theorem e_tupS {x1 : Nat} (hs : PA X es (tAa X.K W Ew fs)) : PE X (.Tuple es x1 pos) (tE X.K W Ew fun Γ g => (fs Γ g).bind fun xs g => if xs.length ≤ 1000000 then .ok (.tup xs) g else .st) :=
  PE.imp (pe_tup hs) fun σ H Q ⟨Hk0, H0, Γ, g, Hk, fr, h⟩ => seqA fr h fun vs ds g1 Hk1 H1 fr1 s1 r1 h1 => by
    by_cases hz : ds.length ≤ 1000000
    · rw [if_pos hz] at h1
      exact ⟨size_le (by rw [r1.len]; exact hz), new_tup fr1.wk r1 fun v Hk' H' s dr r => h1 Hk' H' s dr v r⟩
    · rw [if_neg hz] at h1; exact h1.elim
theorem f_lstS (hs : PA X es (tAa X.K W Ew fs)) : PE X (.List es pos) (tFf X.K W Ew fun Γ g => (fs Γ g).bind fun xs g => if xs.length ≤ 1000000 then .ok (.lst xs) g else .st) :=
  PE.imp (pe_lst hs) fun σ H Q ⟨Hk0, H0, Γ, g, Hk, fr, h⟩ => seqA fr h fun vs ds g1 Hk1 H1 fr1 s1 r1 h1 => by
    by_cases hz : ds.length ≤ 1000000
    · rw [if_pos hz] at h1
      exact ⟨size_le (by rw [r1.len]; exact hz), fun p hp => fin_own fr1 h1 hp r1 (none_back s1 hp)⟩
    · rw [if_neg hz] at h1; exact h1.elim
theorem lstS_shape {Γ : Gm} {g g' : G} {d : D} (h : ((fs Γ g).bind fun xs g => if xs.length ≤ 1000000 then R.ok (D.lst xs) g else R.st) = .ok d g') : isOb d = true := by
  obtain ⟨x, g1, _, h⟩ := bind_ok h
  split at h
  · cases h; rfl
  · cases h
end
end Bk
set_option Elab.async false
set_option linter.all false
set_option maxRecDepth 100000
set_option maxHeartbeats 4000000
set_option pp.maxSteps 800
namespace Bk
open PySem PySem.Spec PyProof.Rows L2
open Evl (Ex ex_l ex_t)
section
variable {X : Cx} {W : Wd} {Hk : Hp} {pins : List (Addr × Obj)} {σ : L2.St} {H : Hp} {s : Shared} {E : Value → Shared → Prop} {A : Around}
/-- what a comprehension stores -/
theorem n_dictSet {p : Addr} {ks vs : List D} {k y : D} {v z : V} {u r : Value} {Q : Unit → Shared → Prop} (room : A.units + 64 < cLine) (I : L2.Inv X pins σ H s) (ex : Ex Hk H) (hw : W.w = X.w) (hp : DAt X.K W Hk H p ks vs) (rk : Rp X.K W Hk k v) (ok : okK k = true) (ru : RelV v u) (ry : Rp X.K W Hk y z) (rz : RelV z r) (few : ks.length < 1000000)
    (q : ∀ ob s', Ob X.K W Hk (putD ks vs k y) p ob → L2.Inv X pins σ (upd H p ob) s' → Q () s') : wpAny (model X.prog X.w) A (dictSet p u r) Q E s := by
  obtain ⟨o, xs, a1, a2, a3, a4, a5, a6, a7⟩ := hp
  obtain ⟨ys, tr, dh⟩ := dict_of I ex hw a1 a3 a4 a5 a6
  obtain ⟨ka, rfl, rfl, isk⟩ := rp_is I ex rk ok ru
  have nodup : (ys.map (·.1)).Nodup := by obtain ⟨_, _, _, _, _, _, _, _, z⟩ := dh; exact z
  have len : ys.length ≤ sizeLine := by
    have e1 : ys.length = ks.length := by rw [← trip_len tr, ← List.length_map (f := fun x : NestedKey × Addr × V => x.1), a4, keysD_len]
    rw [e1, sizeLine_eq]; omega
  refine wpAny_dictSet_heap (hsz := len) (knd := nestedKind X.prog X.w) (show A.units + 8 < cLine by omega) isk dh fun hp2 dh2 same => ?_
  obtain ⟨o2, b1, b2⟩ := put_ob hw a2 tr a4 a5 a6 a7 ok rk ry rz nodup dh2
  exact q _ _ b2 (d_write I (by rw [a1]; exact True.intro) same ⟨o2, b1⟩ (obX_ok b1))
def tDx (X : Cx) (W : Wd) (wi : TI) (g : TG) (tk tv : TE) (vs : List Nat) : TE := fun σ H Q => wi σ H fun J H1 => ∀ p, H1 p = none → (p == sysModules) = false → ∃ M : Nat → Nat → Hp → Prop, (∃ m, M 0 m (upd H1 p (ObX p dObj0))) ∧ ∀ i m H, M i m H →
  (J.stop i H ∧ Q (.ref p) H) ∨ (J.go i H ∧ ∃ N : Hp → Prop, (∀ H', N H' → ∃ m', m' < m ∧ M (i + 1) m' H') ∧ ∀ x H', J.yld i H x H' → g x (wipe σ vs) H' fun σ2 H2 => wipe σ2 vs = wipe σ vs ∧
    tk σ2 H2 fun y H3 => tv σ2 H3 fun z H4 => ∃ Hk ks us k d, Ex Hk H4 ∧ DAt X.K W Hk H4 p ks us ∧ Rp X.K W Hk k y ∧ okK k = true ∧ Rp X.K W Hk d z ∧ ks.length < 1000000 ∧ ∀ ob, Ob X.K W Hk (putD ks us k d) p ob → N (upd H4 p ob))
theorem dx_core {Q : VK} {kx vx tg iter : Expr} {scope : Scope} {own : List (Str × Nat)} {pos pos' : Pos} {wi : TI} {g : TG} {tk tv : TE} {use : Option (Value → Sem Unit)} {Qf : Value → Shared → Prop} (calm : X.calm = true) (nd : X.N.Nodup) (room : X.A.units + 64 < cLine) (hw : W.w = X.w) (I : L2.Inv X pins σ H s) (walk : PI X tg iter wi) (blk : BlkOk X.N X.env.scope scope own)
    (hg : ∀ (s : Shared) (H : Hp) (C : Addr) (cl : List (Str × Addr)) (fp : List Addr), PG (X.blk s H scope (compEnvC scope cl C X.env) fp) tg g)
    (hk : ∀ (s : Shared) (H : Hp) (C : Addr) (cl : List (Str × Addr)) (fp : List Addr), PE (X.blk s H scope (compEnvC scope cl C X.env) fp) kx tk)
    (hv : ∀ (s : Shared) (H : Hp) (C : Addr) (cl : List (Str × Addr)) (fp : List Addr), PE (X.blk s H scope (compEnvC scope cl C X.env) fp) vx tv) (fold : ∀ x, foldedSetIterable iter X.env x = pure x)
    (want : tDx X W wi g tk tv (own.map (·.2)) σ H Q)
    (out : ∀ p C s' m H', L2.Inv X pins σ H' s' → Q (.ref p) H' → s'.heap.Ns C m → FpOk X pins H' C → compPost (model X.prog X.w) X.A X.xe use Qf (.ref p) C (.ok .next) s') :
    wpAny (model X.prog X.w) X.A (comprehension (.DictComp kx vx [⟨tg, iter, [], 0⟩] scope pos) scope X.env pos' newDict false (eval iter X.env) use) Qf X.xe s := by
  have freeOk : ∀ y ∈ scope.names, y.2 = .free → ∃ c, X.env.cells.lookup y.1 = some c := fun y hy e => (blk.free y hy e).elim (fun k => I.ok.has _ (.inl k)) fun k => I.ok.has _ (.inr k)
  refine wpAny_comprehension_free rfl fold (closure_ok freeOk) blk.kind (fun y hy e => by rw [blk.uniq y hy, e]) (thn (walk.run pins s σ H _ I want) fun itb sA hA => thn hA fun itv sB hB => ?_)
  obtain ⟨it, fp, tn, J, HB, rfl, IB, turns, stB, fpB, goal⟩ := hB
  refine wpAny_newObj_type (newEnv_comp ?_)
  generalize eD : sB.heap.objs.size = p
  have freeD : HB p = none := IB.hok.fresh (Nat.le_of_eq eD)
  have notMods : (p == sysModules) = false := by rw [← eD]; exact beq_eq_false_iff_ne.mpr (Ne.symm (Nat.ne_of_lt IB.big))
  obtain ⟨M, ⟨m0, start⟩, turn⟩ := goal p freeD notMods
  generalize eC : ({ sB with heap := sB.heap.push { cls := .type "dict", data := .dict #[] } } : Shared) = sC
  have IC : L2.Inv X pins σ (upd HB p (ObX p dObj0)) sC := by
    rw [← eC, ← eD]
    exact IB.laid (t' := sB.toks) (fun _ _ z => Heap.get?_push_of_some _ z) (Nat.le_refl _) (obX_ok (Heap.get?_push_size _ rfl))
  have heapC : sC.heap = sB.heap.push { cls := .type "dict", data := .dict #[] } := by rw [← eC]
  have below : ∀ b ∈ fp, b < sB.heap.objs.size := fun b hb => let ⟨_, z, _⟩ := turns.obj _ _ stB b hb; Heap.lt_size z
  have fpC : ∀ b ∈ fp, FpOk X pins (upd HB p (ObX p dObj0)) b ∧ b < sC.heap.objs.size := fun b hb => by
    have lt := below b hb
    have ne : b ≠ p := by rw [← eD]; exact Nat.ne_of_lt lt
    exact ⟨⟨by rw [upd_ne ne]; exact (fpB b hb).1, (fpB b hb).2⟩, by rw [heapC, Heap.size_push]; exact Nat.lt_succ_of_lt lt⟩
  have stC : tn 0 sC.heap := turns.keep _ _ _ stB fun b _ o z => by rw [heapC]; exact Heap.get?_push_of_some _ z
  have ID := block_start IC blk nd fpC
  generalize eCl : cellsFrom (sC.heap.objs.size + 1) scope.names (cloFrom X.env.cells scope.names []) = cl at ID
  have pG := hg sC (upd HB p (ObX p dObj0)) sC.heap.objs.size cl fp
  have pK := hk sC (upd HB p (ObX p dObj0)) sC.heap.objs.size cl fp
  have pV := hv sC (upd HB p (ObX p dObj0)) sC.heap.objs.size cl fp
  show codeAny _ _ (.compStart (.DictComp kx vx [⟨tg, iter, [], 0⟩] scope pos) 0 (.ref it) (.ref p) (compEnvC scope cl sC.heap.objs.size X.env)) (compPost (model X.prog X.w) X.A X.xe use Qf (.ref p) sC.heap.objs.size) _
  have fpN : ∀ b ∈ fp, (upd HB p (ObX p dObj0)) b = none := fun b hb => (fpC b hb).1.1
  generalize eEnv : compEnvC scope cl sC.heap.objs.size X.env = env at ID pG pK pV ⊢
  have loc : env.locals = sC.heap.objs.size := by subst eEnv; rfl
  generalize eH : upd HB p (ObX p dObj0) = HC at IC ID pG pK pV start fpN fpC
  generalize eS : ({ sC with heap := pushCells (sC.heap.push { cls := .type "dict", data := .dict #[] }) scope.names } : Shared) = sD at ID ⊢
  have stD : tn 0 sD.heap := turns.keep _ _ _ stC fun b _ o z => by rw [← eS]; exact pushCells_keeps _ _ _ _ (Heap.get?_push_of_some _ z)
  have still : ∀ {σ' : L2.St} {H' : Hp} {s' : Shared}, L2.Inv (X.blk sC HC scope env fp) [] σ' H' s' → (∀ b ∈ fp, H' b = none) → ∀ b ∈ fp, FpOk (X.blk sC HC scope env fp) [] H' b := fun J1 hn b hb =>
    ⟨hn b hb, (J1.ok.exf b hb).1, J1.ok.exfs b hb, .inl hb, fun _ _ z => (J1.ok.exf b hb).2 _ _ z, fun q hq => by cases (show q ∈ ([] : List (Addr × Obj)) ++ [] from hq)⟩
  refine codeAny_compStart_dict ?lp (turns.self X.A 0 _ _ _ stD ?lp)
  refine compLoop_anyD (fun n s' => ∃ i H', L2.Inv (X.blk sC HC scope env fp) [] (wipe σ (own.map (·.2))) H' s' ∧ tn i s'.heap ∧ (∀ b ∈ fp, H' b = none) ∧ M i n H') ?_ m0 ⟨0, HC, ID, stD, fpN, start⟩
  rintro n sE ⟨i, HE, IE, stE, nE, mE⟩
  rcases turn i n HE mE with ⟨stop, fin⟩ | ⟨go, N, hN, step⟩
  · refine thnF (turns.done (X.blk sC HC scope env fp) rfl rfl rfl calm i [] sE _ HE (fun _ _ => False) IE (still IE nE) stE stop) fun r sF ⟨hr, IF⟩ => ?_
    subst hr
    have back : L2.Inv X pins σ HE sF := IC.call' (ch := fp) IF.os IF.base IF.hok IF.bare fun b hb => let z := (fpC b hb).1.2; ⟨z.2.2.1, z.1, z.2.2.2.1, z.2.2.2.2⟩
    have nC : HE sC.heap.objs.size = none := by rw [← loc]; exact IF.free
    obtain ⟨m, ns, _⟩ := IF.loc
    have ns : sF.heap.Ns sC.heap.objs.size m := by rw [← loc]; exact ns
    exact out p sC.heap.objs.size sF m HE back fin ns (IC.fpOk (Nat.le_refl _) nC)
  · refine thnF (turns.item (X.blk sC HC scope env fp) rfl rfl rfl calm i [] sE _ HE (fun _ _ => False) IE (still IE nE) stE go) fun r sF ⟨u, hr, hF⟩ => ?_
    subst hr
    refine thnF hF fun _ sG ⟨x, HG, IG, rG, yG, stG, nG⟩ => ?_
    have IG' := IG.pinned (still IG nG) (turns.obj _ _ stG)
    refine thnF (pG.run _ sG _ HG x u _ IG' rG (step x HG yG)) fun _ sI ⟨σI, HI, II, same, qI⟩ => ?_
    refine thnF ((pts_nil (X := X.blk sC HC scope env fp)).run _ sI σI HI (fun b H' => b = true ∧ H' = HI) II ⟨rfl, rfl⟩) fun b sJ ⟨HJ, IJ, hb, eJ⟩ => ?_
    subst hb eJ
    rw [if_pos rfl]
    refine thnF (pK.run _ sJ σI _ _ IJ qI) fun kv sL ⟨yk, HL, IL, rL, qL⟩ => ?_
    refine thnF (pV.run _ sL σI HL _ IL qL) fun vv sM ⟨yv, HM, IM, rM, Hk, ks, us, k, d, exM, at_, rk, okk, rd, few, nx⟩ => ?_
    refine n_dictSet (X := X.blk sC HC scope env fp) (W := W) room IM exM hw at_ rk okk rL rd rM few fun ob sO isob IO => ?_
    obtain ⟨m', lt, more⟩ := hN _ (nx ob isob)
    have pin : ∀ b ∈ fp, ∀ o, sG.heap.get? b = some o → sO.heap.get? b = some o ∧ (upd HM p ob) b = none := fun b hb o e =>
      let z := IO.pin (b, o) (List.mem_append_right _ (List.mem_append_right _ (mem_pinsAt hb e))); ⟨z.1, z.2.1⟩
    refine ⟨m', lt, i + 1, _, (IO.unpinned (pins := [])).weak (by rw [← same, wipe_length]) (fun j v e => (wipe_some (by rw [same]; exact e)).1), turns.keep _ _ _ stG fun b hb o e => (pin b hb o e).1, fun b hb => ?_, more⟩
    obtain ⟨o, e, _⟩ := turns.obj _ _ stG b hb
    exact (pin b hb o e).2
theorem pe_dx {kx vx tg iter : Expr} {scope : Scope} {own : List (Str × Nat)} {pos : Pos} {wi : TI} {g : TG} {tk tv : TE} (calm : X.calm = true) (nd : X.N.Nodup) (room : X.A.units + 64 < cLine) (hw : W.w = X.w) (walk : PI X tg iter wi) (blk : BlkOk X.N X.env.scope scope own)
    (hg : ∀ (s : Shared) (H : Hp) (C : Addr) (cl : List (Str × Addr)) (fp : List Addr), PG (X.blk s H scope (compEnvC scope cl C X.env) fp) tg g)
    (hk : ∀ (s : Shared) (H : Hp) (C : Addr) (cl : List (Str × Addr)) (fp : List Addr), PE (X.blk s H scope (compEnvC scope cl C X.env) fp) kx tk)
    (hv : ∀ (s : Shared) (H : Hp) (C : Addr) (cl : List (Str × Addr)) (fp : List Addr), PE (X.blk s H scope (compEnvC scope cl C X.env) fp) vx tv) (fold : ∀ x, foldedSetIterable iter X.env x = pure x) :
    PE X (.DictComp kx vx [⟨tg, iter, [], 0⟩] scope pos) (tDx X W wi g tk tv (own.map (·.2))) := by
  refine ⟨fun pins s σ H Q I want => ?_⟩
  rw [arm_eval_DictComp]
  refine dx_core calm nd room hw I walk blk hg hk hv fold want fun p C s' m H' J hq ns ⟨z0, z1, z2, z3, z4, z5⟩ => ⟨m, ns, fun h2 same => ⟨.ref p, H', J.turned (t' := s'.toks) (fun b o hb e => (same.2 b hb).trans e) z0 z1 z3 z4 z5, rfl, hq⟩⟩
theorem ps_setDx {i : Nat} {y : Str} {py : Pos} {kx vx tg iter : Expr} {scope : Scope} {own : List (Str × Nat)} {pos spos : Pos} {wi : TI} {g : TG} {tk tv : TE} (calm : X.calm = true) (nd : X.N.Nodup) (room : X.A.units + 64 < cLine) (hw : W.w = X.w)
    (hy : X.N[i]? = some y) (hyl : X.env.scope.names.lookup y = some .local)
    (hsw : swapsWith (.DictComp kx vx [⟨tg, iter, [], 0⟩] scope pos) (some (.Name y py)) spos.line X.env = pure true) (walk : PI X tg iter wi) (blk : BlkOk X.N X.env.scope scope own)
    (hg : ∀ (s : Shared) (H : Hp) (C : Addr) (cl : List (Str × Addr)) (fp : List Addr), PG (X.blk s H scope (compEnvC scope cl C X.env) fp) tg g)
    (hk : ∀ (s : Shared) (H : Hp) (C : Addr) (cl : List (Str × Addr)) (fp : List Addr), PE (X.blk s H scope (compEnvC scope cl C X.env) fp) kx tk)
    (hv : ∀ (s : Shared) (H : Hp) (C : Addr) (cl : List (Str × Addr)) (fp : List Addr), PE (X.blk s H scope (compEnvC scope cl C X.env) fp) vx tv) (fold : ∀ x, foldedSetIterable iter X.env x = pure x) :
    PS X (.Assign [.Name y py] (.DictComp kx vx [⟨tg, iter, [], 0⟩] scope pos) spos) (tAsg (tDx X W wi g tk tv (own.map (·.2))) (gName i)) := by
  refine ⟨fun pins s σ H D I h => ?_⟩
  rw [exec_Assign_Name_used _ _ _ _ hsw]
  refine wpAny_bind (wpAny_standAt (wpAny_bind ?_))
  show wpAny _ X.A (do let _ ← comprehension (.DictComp kx vx [⟨tg, iter, [], 0⟩] scope pos) scope X.env (firstIterPos [⟨tg, iter, [], 0⟩] pos) newDict false (eval iter X.env) (some (assign (.Name y py) X.env))) _ _ s
  have h : tDx X W wi g tk tv (own.map (·.2)) σ H (fun x H1 => gName i x σ H1 D.nx) := h
  refine wpAny_bind (thn (dx_core (Qf := fun _ s' => SP X pins D .next s') calm nd room hw I walk blk hg hk hv fold h fun L C s' m H' I' q hn f => ?_) fun _ s' hq => wpAny_pure (wpAny_pure hq))
  show wpAny _ _ (assign (.Name y py) X.env (.ref L)) _ _ _
  refine wpAny_assign_Name (store_ok2 (v := V.ref L) I' nd hy (.inl hyl) rfl (fun s2 I2 ⟨a, sb, ha⟩ => ?_) (.inr hyl))
  obtain ⟨f0, f1, f2, f3, f4, f5⟩ := f
  have haC : C ≠ a := by
    rcases ha with z | z
    · rw [z]; exact f1
    · exact fun e => f4 y a z e.symm
  refine ⟨m, hn.sameBut sb haC, fun h3 sb3 => ?_⟩
  exact ⟨_, H', I2.turned (t' := s2.toks) (fun b o hb e => (sb3.2 b hb).trans e) f0 f1 f3 f4 f5, q⟩
theorem sw_trueD {kx vx : Expr} {gs : List Comprehension} {scope : Scope} {pos py : Pos} {y : Str} {l : Nat} {env : Env} (hk : env.scope.kind = .function) (hy : env.scope.names.lookup y = some .local) (hl : (py.line == pos.line) = true)
    (ha : (scope.names.any fun (n, k) => n == y && (k == .local || k == .cell)) = false) : swapsWith (.DictComp kx vx gs scope pos) (some (.Name y py)) l env = pure true := by
  have ky : env.kindOf y = some .local := hy
  have hb : env.blockKind = .function := by unfold Env.blockKind; rw [hk]; rfl
  unfold swapsWith
  simp only [hb, ky, ha, Expr.pos, hl]
  rfl
def dcF (t : T) (fk fv : Gm → G → R D) (Γ : Gm) : D → G → R (D × D) := fun x g => (lift (setT t x (wipeG Γ t.vars)) g).bind fun Γ' g => (fk Γ' g).bind fun a g => (fv Γ' g).bind fun b g => .ok (a, b) g
theorem dcR_noex {f : D → G → R (D × D)} : ∀ {xs : List D} {d : D} {g : G} {c : Nat} {ds : List D} {g' : G}, dcR f xs d g ≠ .ex c ds g'
  | [], _, _, _, _, _, h => by cases h
  | x :: xs, d, g, c, ds, g', h => by
    unfold dcR at h
    cases e : f x g with
    | ok o g1 =>
      rw [e] at h
      cases d <;> (try (cases h; done))
      rename_i ks vs
      have h' : (if okK o.1 && decide (ks.length < 1000000) then dcR f xs (putD ks vs o.1 o.2) g1 else .st) = .ex c ds g' := h
      split at h'
      · exact dcR_noex h'
      · cases h'
    | ex _ _ _ => rw [e] at h; cases h
    | st => rw [e] at h; cases h
theorem dcR_cons {f : D → G → R (D × D)} {x z : D} {xs ks vs : List D} {g g' : G} (h : dcR f (x :: xs) (.dct ks vs) g = .ok z g') : ∃ y g1, f x g = .ok y g1 ∧ okK y.1 = true ∧ ks.length < 1000000 ∧ dcR f xs (putD ks vs y.1 y.2) g1 = .ok z g' := by
  unfold dcR at h
  obtain ⟨y, g1, e, h⟩ := nox_ok h
  have h' : (if okK y.1 && decide (ks.length < 1000000) then dcR f xs (putD ks vs y.1 y.2) g1 else .st) = .ok z g' := h
  split at h'
  · rename_i hc
    rw [Bool.and_eq_true, decide_eq_true_eq] at hc
    exact ⟨y, g1, e, hc.1, hc.2, h'⟩
  · cases h'
theorem putD_is (ks vs : List D) (k y : D) : ∃ ks' vs', putD ks vs k y = .dct ks' vs' := by
  unfold putD
  split
  · exact ⟨_, _, rfl⟩
  · exact ⟨_, _, rfl⟩
theorem dcR_shape {f : D → G → R (D × D)} : ∀ {xs ks vs : List D} {g g' : G} {z : D}, dcR f xs (.dct ks vs) g = .ok z g' → isOb z = true
  | [], _, _, _, _, _, h => by cases h; rfl
  | x :: xs, ks, vs, g, g', z, h => by
    obtain ⟨y, g1, _, _, _, h⟩ := dcR_cons h
    obtain ⟨ks', vs', e⟩ := putD_is ks vs y.1 y.2
    rw [e] at h
    exact dcR_shape h
end
section
variable {X : Cx} {W : Wd} {Ew : XK} {Hk0 H0 Hk H : Hp} {Γ : Gm} {g : G} {σ : L2.St} {K : PySem.W.Frag}
theorem f_dcp {tg iter : Expr} {scope : Scope} {own : List (Str × Nat)} {t : T} {fi : Gm → G → R (List D)} {fk fv : Gm → G → R D} (hown : own.map (·.2) = t.vars) :
    (∀ σ H Q, (tFf X.K W Ew fun Γ g => (fi Γ g).bind fun xs g => dcR (dcF t fk fv Γ) xs (.dct [] []) g) σ H Q → tDx X W (tIi X.K W Ew fi) (tGg X.K W t) (tE X.K W E0 fk) (tE X.K W E0 fv) (own.map (·.2)) σ H Q) := by
  intro σ H Q ⟨Hk0, H0, Γ, g, Hk, fr, h⟩
  rw [hown]
  refine seqI fr h fun J ds g1 Hk1 H1 fr1 s1 io h1 p hD hp => ?_
  generalize hF : dcF t fk fv Γ = F at h1
  cases e : dcR F ds (.dct [] []) g1 with
  | st => rw [e] at h1; exact h1.elim
  | ex c ds' g' => exact absurd e dcR_noex
  | ok zz gE =>
    rw [e] at h1
    have hout : W.out p := ex_upd_out fr1.wk.dr hD
    have hk1 : Hk1 p = none := DrawAt.unk_of fr1.wk.dr fr1.wk hD
    have hD0 : H p = none := none_back s1 hD
    have ob0 : Ob X.K W Hk1 (.dct [] []) p (ObX p dObj0) := ⟨dObj0, [], rfl, hp, dc_nil _, rfl, rfl, rfl, rfl⟩
    let Inv0 : Nat → Hp → Prop := fun i H' => i ≤ ds.length ∧ ∃ g Hk ks vs u, Step W Hk1 H1 Hk H' ∧ DrawAt W g H' ∧ H' p = some u ∧ Hk p = none ∧ Ob X.K W Hk (.dct ks vs) p u ∧ dcR F (ds.drop i) (.dct ks vs) g = .ok zz gE
    refine ⟨fun i m H' => m = ds.length - i ∧ Inv0 i H', ⟨ds.length, by simp, Nat.zero_le _, g1, Hk1, [], [], _, Step.hid fr1.wk.ex hD, fr1.wk.dr.new hD, upd_same, hk1, ob0, e⟩, ?_⟩
    rintro i m H' ⟨rfl, hi, g2, Hk2, ks, vs, u, st, dr, hu, hkD, ob, el⟩
    have wk2 : Wk W g2 Hk2 H' := fr1.wk.step st dr
    by_cases hlt : i < ds.length
    · refine .inr ⟨io.go i Hk2 H' g2 hlt st.k wk2, Inv0 (i + 1), fun H3 q => ⟨ds.length - (i + 1), by omega, rfl, q⟩, fun x H3 y => ?_⟩
      have hd : ds[i]? = some ds[i] := by simp [hlt]
      obtain ⟨Hk3, s3, dr3, rx⟩ := io.yld i Hk2 H' g2 x H3 ds[i] hd st.k wk2 y
      rw [List.drop_eq_getElem_cons hlt] at el
      obtain ⟨kv, g4, ef, okk, few, er⟩ := dcR_cons el
      subst hF
      unfold dcF at ef
      obtain ⟨Γ', g5, e5, ef⟩ := bind_ok ef
      obtain ⟨e5', e5''⟩ := lift_ok e5
      subst e5''
      obtain ⟨a, g6, e6, ef⟩ := bind_ok ef
      obtain ⟨b, g7, e7, ef⟩ := bind_ok ef
      cases ef
      have st3 := st.trans s3
      refine ⟨Hk0, H0, wipeG Γ t.vars, g2, Hk3, ds[i], Γ', (fr1.wipe t.vars).step st3 dr3, rx, e5', fun σ' fr' hw => ⟨by rw [hw, wipe_idem], Hk0, H0, Γ', g2, Hk3, fr', Fin.of_ok e6 fun Hk4 H4 s4 dr4 va ra => ⟨Hk0, H0, Γ', g6, Hk4, fr'.step s4 dr4, Fin.of_ok e7 fun Hk5 H5 s5 dr5 vb rb => ?_⟩⟩⟩
      have h3D := s3.h _ _ hu hout
      have h4D := s4.h _ _ h3D hout
      have h5D := s5.h _ _ h4D hout
      have k5D : Hk5 p = none := s5.unk (s4.unk (s3.unk hkD hu) h3D) h4D
      have ob5 : Ob X.K W Hk5 (.dct ks vs) p u := ((ob.mono s3.k).mono s4.k).mono s5.k
      obtain ⟨o, xs, eu, q1, q2, q3, q4, q5, q6⟩ := id ob5
      subst eu
      obtain ⟨ks', vs', ep⟩ := putD_is ks vs a b
      refine ⟨Hk5, ks, vs, a, b, s5.kh, ⟨o, xs, h5D, q1, q2, q3, q4, q5, q6⟩, ra.mono s5.k, okk, rb, few, fun ob' ho => ⟨hlt, g4, Hk5, ks', vs', ob', (((st3.trans s4).trans s5)).mut hD k5D, dr5.upd hout (ob5.nc h5D) (ho.ntb), upd_same, k5D, by rw [← ep]; exact ho, ?_⟩⟩
      rw [← ep]
      exact er
    · have hi' : i = ds.length := by omega
      subst hi'
      rw [List.drop_length] at el
      cases el
      exact .inl ⟨io.stop _ Hk2 H' _ rfl st.k wk2, h1 Hk2 H' st dr p _ hD0 hkD hu ob⟩
end
end Bk
set_option Elab.async false
set_option linter.all false
set_option maxRecDepth 100000
set_option maxHeartbeats 4000000
set_option pp.maxSteps 800
namespace Bk
open PySem PySem.Spec PyProof.Rows L2
open Evl (Ex ex_l ex_t)
section
variable (kx vx t0 i0 t1 i1 : Expr) (scope : Scope) (pos : Pos)
theorem cTurn2_out (it acc : Value) (env : Env) :
    compTurn (.DictComp kx vx [⟨t0, i0, [], 0⟩, ⟨t1, i1, [], 0⟩] scope pos) 0 it acc env = (do
      standAt i0.pos
      match ← pyNext it with
      | none => pure (.done .next)
      | some v =>
        letOwnedTupleGo t0 it v
        assign t0 env v
        let mut ok := true
        for c in ([] : List Expr) do
          if ok then ok ← isTrue c env (eval c env)
        if ok then
          let x ← eval i1 env
          standAt i1.pos
          let x ← foldedSetIterable i1 env x
          let _ ← runOwn (.compStart (.DictComp kx vx [⟨t0, i0, [], 0⟩, ⟨t1, i1, [], 0⟩] scope pos) 1 (← holding [x] (pyIter x)) acc env) env
        again (.compLoop (.DictComp kx vx [⟨t0, i0, [], 0⟩, ⟨t1, i1, [], 0⟩] scope pos) 0 it acc env)) := by rfl
theorem cTurn2_in (it : Value) (D : Addr) (env : Env) :
    compTurn (.DictComp kx vx [⟨t0, i0, [], 0⟩, ⟨t1, i1, [], 0⟩] scope pos) 1 it (.ref D) env = (do
      standAt i1.pos
      match ← pyNext it with
      | none => pure (.done .next)
      | some v =>
        letOwnedTupleGo t1 it v
        assign t1 env v
        let mut ok := true
        for c in ([] : List Expr) do
          if ok then ok ← isTrue c env (eval c env)
        if ok then
          (do
            let k ← eval kx env
            let v ← holding [k] (eval vx env)
            standAt { kx.pos with endLine := vx.pos.endLine, endCol := vx.pos.endCol }
            holding [k, v] (dictSet D k v))
        again (.compLoop (.DictComp kx vx [⟨t0, i0, [], 0⟩, ⟨t1, i1, [], 0⟩] scope pos) 1 it (.ref D) env)) := by rfl
end
section
variable {prog : Program} {w : World} {A : Around} {R : Result → Shared → Prop} {s : Shared} {kx vx t0 i0 t1 i1 : Expr} {scope : Scope} {pos : Pos} {it acc : Value} {D : Addr} {env : Env}
theorem cLoop2_out (hs : ∀ x, foldedSetIterable i1 env x = pure x) (I : Nat → Shared → Prop)
    (turn : ∀ n s, I n s → wpAny (model prog w) A (pyNext it) (fun r s₁ => match r with
      | none => R (.ok .next) s₁
      | some v => wpAny (model prog w) A (letOwnedTupleGo t0 it v) (fun _ s₁' => wpAny (model prog w) A (assign t0 env v) (fun _ s₂ =>
            wpAny (model prog w) A (eval i1 env) (fun x s₄ => wpAny (model prog w) A (pyIter x) (fun it1 s₅ =>
              codeAny (model prog w) A (.compStart (.DictComp kx vx [⟨t0, i0, [], 0⟩, ⟨t1, i1, [], 0⟩] scope pos) 1 it1 acc env) (fun r s' => match r with
                | .ok _ => ∃ m, m < n ∧ I m s'
                | .error _ => False) s₅) (notedBy (model prog w) A env fun e s' => R (.error e) s') s₄) (notedBy (model prog w) A env fun e s' => R (.error e) s') s₂) (notedBy (model prog w) A env fun e s' => R (.error e) s') s₁') (notedBy (model prog w) A env fun e s' => R (.error e) s') s₁) (notedBy (model prog w) A env fun e s' => R (.error e) s') s)
    (n : Nat) (h : I n s) :
    codeAny (model prog w) A (.compLoop (.DictComp kx vx [⟨t0, i0, [], 0⟩, ⟨t1, i1, [], 0⟩] scope pos) 0 it acc env) R s := by
  refine codeAny_loop rfl I (fun n s hI => ?_) n h
  show wpAny _ A ((compTurn (.DictComp kx vx [⟨t0, i0, [], 0⟩, ⟨t1, i1, [], 0⟩] scope pos) 0 it acc env).onRaise (fun x => do noteFrame x env; theTreesLotGoes x)) _ _ s
  refine wpAny_noted ?_
  rw [cTurn2_out]
  refine wpAny_bind (wpAny_standAt (wpAny_bind (wpAny_mono (turn n s hI) (fun r s₁ h₁ => ?_) fun _ _ h' => h')))
  cases r with
  | none => exact wpAny_pure h₁
  | some v =>
    refine wpAny_bind (wpAny_mono h₁ (fun _ s₁' h₁' => ?_) fun _ _ h' => h')
    refine wpAny_bind (wpAny_mono h₁' (fun _ s₂ h₂ => wpAny_bind (wpAny_pure ?_)) fun _ _ h' => h')
    refine wpAny_bind (wpAny_mono h₂ (fun x s₄ h₄ => ?_) fun _ _ h' => h')
    refine wpAny_bind (wpAny_standAt (wpAny_bind (wpAny_of_eq (hs x) (wpAny_bind (wpAny_holding (wpAny_mono h₄ (fun it1 s₅ h₅ => ?_) fun _ _ h' => h'))))))
    refine wpAny_bind (wpAny_runOwn ?_)
    rw [Around.mark_none]
    refine codeAny_mono h₅ fun r s' hr => ?_
    cases r with
    | ok f =>
      first
        | exact wpAny_pure ⟨rfl, hr⟩
        | exact wpAny_bind (wpAny_pure (wpAny_pure ⟨rfl, hr⟩))
    | error e => exact hr.elim
theorem cLoop2_in (I : Nat → Shared → Prop)
    (turn : ∀ n s, I n s → wpAny (model prog w) A (pyNext it) (fun r s₁ => match r with
      | none => R (.ok .next) s₁
      | some v => wpAny (model prog w) A (letOwnedTupleGo t1 it v) (fun _ s₁' => wpAny (model prog w) A (assign t1 env v) (fun _ s₂ =>
            wpAny (model prog w) A (eval kx env) (fun kv s₄ => wpAny (model prog w) A (eval vx env) (fun vv s₅ =>
              wpAny (model prog w) A (dictSet D kv vv) (fun _ s₆ => ∃ m, m < n ∧ I m s₆) (notedBy (model prog w) A env fun e s' => R (.error e) s') s₅) (notedBy (model prog w) A env fun e s' => R (.error e) s') s₄) (notedBy (model prog w) A env fun e s' => R (.error e) s') s₂) (notedBy (model prog w) A env fun e s' => R (.error e) s') s₁') (notedBy (model prog w) A env fun e s' => R (.error e) s') s₁) (notedBy (model prog w) A env fun e s' => R (.error e) s') s)
    (n : Nat) (h : I n s) :
    codeAny (model prog w) A (.compLoop (.DictComp kx vx [⟨t0, i0, [], 0⟩, ⟨t1, i1, [], 0⟩] scope pos) 1 it (.ref D) env) R s := by
  refine codeAny_loop rfl I (fun n s hI => ?_) n h
  show wpAny _ A ((compTurn (.DictComp kx vx [⟨t0, i0, [], 0⟩, ⟨t1, i1, [], 0⟩] scope pos) 1 it (.ref D) env).onRaise (fun x => do noteFrame x env; theTreesLotGoes x)) _ _ s
  refine wpAny_noted ?_
  rw [cTurn2_in]
  refine wpAny_bind (wpAny_standAt (wpAny_bind (wpAny_mono (turn n s hI) (fun r s₁ h₁ => ?_) fun _ _ h' => h')))
  cases r with
  | none => exact wpAny_pure h₁
  | some v =>
    refine wpAny_bind (wpAny_mono h₁ (fun _ s₁' h₁' => ?_) fun _ _ h' => h')
    refine wpAny_bind (wpAny_mono h₁' (fun _ s₂ h₂ => wpAny_bind (wpAny_pure ?_)) fun _ _ h' => h')
    exact wpAny_bind (wpAny_bind (wpAny_mono h₂ (fun kv s₄ h₄ => wpAny_bind (wpAny_holding (wpAny_mono h₄ (fun vv s₅ h₅ => wpAny_bind (wpAny_standAt (wpAny_holding (wpAny_mono h₅ (fun _ s₆ h₆ => wpAny_pure ⟨rfl, h₆⟩) fun _ _ h' => h')))) fun _ _ h' => h'))) fun _ _ h' => h'))
theorem cStart1_ok (h0 : codeAny (model prog w) A (.compLoop (.DictComp kx vx [⟨t0, i0, [], 0⟩, ⟨t1, i1, [], 0⟩] scope pos) 1 it acc env) R s)
    (h : wpAny (model prog w) A (pyIter it) (fun it' s' => codeAny (model prog w) A (.compLoop (.DictComp kx vx [⟨t0, i0, [], 0⟩, ⟨t1, i1, [], 0⟩] scope pos) 1 it' acc env) R s')
      (notedBy (model prog w) A env fun x s' => R (.error x) s') s) :
    codeAny (model prog w) A (.compStart (.DictComp kx vx [⟨t0, i0, [], 0⟩, ⟨t1, i1, [], 0⟩] scope pos) 1 it acc env) R s := by
  refine codeAny_of_tree ?_
  show wpAny _ _ ((compStart (.DictComp kx vx [⟨t0, i0, [], 0⟩, ⟨t1, i1, [], 0⟩] scope pos) 1 it acc env).onRaise (fun x => do noteFrame x env; standAt theWindowsPlace)) _ _ s
  refine wpAny_notedAt ?_
  unfold compStart
  show wpAny _ _ (ask >>= _) _ _ s
  refine wpAny_bind (wpAny_askSetting (wpAny_ite ?_))
  split
  · first
      | exact wpAny_bind (wpAny_pure (wpAny_pure (And.intro rfl h0)))
      | exact wpAny_pure (And.intro rfl h0)
  · first
      | exact wpAny_bind (wpAny_rule (wpAny_bind (wpAny_standAt (wpAny_bind (wpAny_mono h (fun it' s' h' => wpAny_pure (And.intro rfl h')) fun _ _ x => x)))))
      | (refine wpAny_bind (wpAny_rule ?_); show wpAny _ _ (standAt i1.pos >>= _) _ _ s; exact wpAny_bind (wpAny_standAt (wpAny_bind (wpAny_mono h (fun it' s' h' => wpAny_pure (And.intro rfl h')) fun _ _ x => x))))
end
section
variable {X : Cx} {W : Wd} {pins : List (Addr × Obj)} {σ : L2.St} {H : Hp} {s : Shared}
def tDx2 (X : Cx) (W : Wd) (wi : TI) (g : TG) (wi1 : TI) (g1 : TG) (tk tv : TE) (vs vs1 : List Nat) : TE := fun σ H Q => wi σ H fun J H1 => ∀ p, H1 p = none → (p == sysModules) = false → ∃ M : Nat → Nat → Hp → Prop, (∃ m, M 0 m (upd H1 p (ObX p dObj0))) ∧ ∀ i m H, M i m H →
  (J.stop i H ∧ Q (.ref p) H) ∨ (J.go i H ∧ ∃ N : Hp → Prop, (∀ H', N H' → ∃ m', m' < m ∧ M (i + 1) m' H') ∧ ∀ x H', J.yld i H x H' → g x (wipe σ vs) H' fun σ2 H2 => wipe σ2 vs = wipe σ vs ∧
    wi1 σ2 H2 fun J1 H4 => ∃ M1 : Nat → Nat → Hp → Prop, (∃ m, M1 0 m H4) ∧ ∀ j k H, M1 j k H →
      (J1.stop j H ∧ N H) ∨ (J1.go j H ∧ ∃ N1 : Hp → Prop, (∀ H', N1 H' → ∃ k', k' < k ∧ M1 (j + 1) k' H') ∧ ∀ x H', J1.yld j H x H' → g1 x (wipe σ2 vs1) H' fun σ3 H5 => wipe σ3 vs1 = wipe σ2 vs1 ∧
        tk σ3 H5 fun y H3 => tv σ3 H3 fun z H4 => ∃ Hk ks us k d, Ex Hk H4 ∧ DAt X.K W Hk H4 p ks us ∧ Rp X.K W Hk k y ∧ okK k = true ∧ Rp X.K W Hk d z ∧ ks.length < 1000000 ∧ ∀ ob, Ob X.K W Hk (putD ks us k d) p ob → N1 (upd H4 p ob)))
theorem dx2_core {Q : VK} {kx vx tg iter tg1 iter1 : Expr} {scope : Scope} {own : List (Str × Nat)} {vs1 : List Nat} {pos pos' : Pos} {wi wi1 : TI} {g g1 : TG} {tk tv : TE} {use : Option (Value → Sem Unit)} {Qf : Value → Shared → Prop} (calm : X.calm = true) (nd : X.N.Nodup) (room : X.A.units + 64 < cLine) (hw : W.w = X.w) (I : L2.Inv X pins σ H s) (walk : PI X tg iter wi) (blk : BlkOk X.N X.env.scope scope own) (hvs : ∀ i ∈ vs1, i ∈ own.map (·.2))
    (hg : ∀ (s : Shared) (H : Hp) (C : Addr) (cl : List (Str × Addr)) (fp : List Addr), PG (X.blk s H scope (compEnvC scope cl C X.env) fp) tg g)
    (hi1 : ∀ (s : Shared) (H : Hp) (C : Addr) (cl : List (Str × Addr)) (fp : List Addr), PI (X.blk s H scope (compEnvC scope cl C X.env) fp) tg1 iter1 wi1)
    (hg1 : ∀ (s : Shared) (H : Hp) (C : Addr) (cl : List (Str × Addr)) (fp : List Addr), PG (X.blk s H scope (compEnvC scope cl C X.env) fp) tg1 g1)
    (hk : ∀ (s : Shared) (H : Hp) (C : Addr) (cl : List (Str × Addr)) (fp : List Addr), PE (X.blk s H scope (compEnvC scope cl C X.env) fp) kx tk)
    (hv : ∀ (s : Shared) (H : Hp) (C : Addr) (cl : List (Str × Addr)) (fp : List Addr), PE (X.blk s H scope (compEnvC scope cl C X.env) fp) vx tv) (fold : ∀ x, foldedSetIterable iter X.env x = pure x) (fold1 : ∀ env x, foldedSetIterable iter1 env x = pure x)
    (want : tDx2 X W wi g wi1 g1 tk tv (own.map (·.2)) vs1 σ H Q)
    (out : ∀ p C s' m H', L2.Inv X pins σ H' s' → Q (.ref p) H' → s'.heap.Ns C m → FpOk X pins H' C → compPost (model X.prog X.w) X.A X.xe use Qf (.ref p) C (.ok .next) s') :
    wpAny (model X.prog X.w) X.A (comprehension (.DictComp kx vx [⟨tg, iter, [], 0⟩, ⟨tg1, iter1, [], 0⟩] scope pos) scope X.env pos' newDict false (eval iter X.env) use) Qf X.xe s := by
  have freeOk : ∀ y ∈ scope.names, y.2 = .free → ∃ c, X.env.cells.lookup y.1 = some c := fun y hy e => (blk.free y hy e).elim (fun k => I.ok.has _ (.inl k)) fun k => I.ok.has _ (.inr k)
  refine wpAny_comprehension_free rfl fold (closure_ok freeOk) blk.kind (fun y hy e => by rw [blk.uniq y hy, e]) (thn (walk.run pins s σ H _ I want) fun itb sA hA => thn hA fun itv sB hB => ?_)
  obtain ⟨it, fp, tn, J, HB, rfl, IB, turns, stB, fpB, goal⟩ := hB
  refine wpAny_newObj_type (newEnv_comp ?_)
  generalize eD : sB.heap.objs.size = p
  have freeD : HB p = none := IB.hok.fresh (Nat.le_of_eq eD)
  have notMods : (p == sysModules) = false := by rw [← eD]; exact beq_eq_false_iff_ne.mpr (Ne.symm (Nat.ne_of_lt IB.big))
  obtain ⟨M, ⟨m0, start⟩, turn⟩ := goal p freeD notMods
  generalize eC : ({ sB with heap := sB.heap.push { cls := .type "dict", data := .dict #[] } } : Shared) = sC
  have IC : L2.Inv X pins σ (upd HB p (ObX p dObj0)) sC := by
    rw [← eC, ← eD]
    exact IB.laid (t' := sB.toks) (fun _ _ z => Heap.get?_push_of_some _ z) (Nat.le_refl _) (obX_ok (Heap.get?_push_size _ rfl))
  have heapC : sC.heap = sB.heap.push { cls := .type "dict", data := .dict #[] } := by rw [← eC]
  have below : ∀ b ∈ fp, b < sB.heap.objs.size := fun b hb => let ⟨_, z, _⟩ := turns.obj _ _ stB b hb; Heap.lt_size z
  have fpC : ∀ b ∈ fp, FpOk X pins (upd HB p (ObX p dObj0)) b ∧ b < sC.heap.objs.size := fun b hb => by
    have lt := below b hb
    have ne : b ≠ p := by rw [← eD]; exact Nat.ne_of_lt lt
    exact ⟨⟨by rw [upd_ne ne]; exact (fpB b hb).1, (fpB b hb).2⟩, by rw [heapC, Heap.size_push]; exact Nat.lt_succ_of_lt lt⟩
  have stC : tn 0 sC.heap := turns.keep _ _ _ stB fun b _ o z => by rw [heapC]; exact Heap.get?_push_of_some _ z
  have ID := block_start IC blk nd fpC
  generalize eCl : cellsFrom (sC.heap.objs.size + 1) scope.names (cloFrom X.env.cells scope.names []) = cl at ID
  have pG := hg sC (upd HB p (ObX p dObj0)) sC.heap.objs.size cl fp
  have pI1 := hi1 sC (upd HB p (ObX p dObj0)) sC.heap.objs.size cl fp
  have pG1 := hg1 sC (upd HB p (ObX p dObj0)) sC.heap.objs.size cl fp
  have pK := hk sC (upd HB p (ObX p dObj0)) sC.heap.objs.size cl fp
  have pV := hv sC (upd HB p (ObX p dObj0)) sC.heap.objs.size cl fp
  show codeAny _ _ (.compStart (.DictComp kx vx [⟨tg, iter, [], 0⟩, ⟨tg1, iter1, [], 0⟩] scope pos) 0 (.ref it) (.ref p) (compEnvC scope cl sC.heap.objs.size X.env)) (compPost (model X.prog X.w) X.A X.xe use Qf (.ref p) sC.heap.objs.size) _
  have fpN : ∀ b ∈ fp, (upd HB p (ObX p dObj0)) b = none := fun b hb => (fpC b hb).1.1
  generalize eEnv : compEnvC scope cl sC.heap.objs.size X.env = env at ID pG pI1 pG1 pK pV ⊢
  have loc : env.locals = sC.heap.objs.size := by subst eEnv; rfl
  generalize eH : upd HB p (ObX p dObj0) = HC at IC ID pG pI1 pG1 pK pV start fpN fpC
  generalize eS : ({ sC with heap := pushCells (sC.heap.push { cls := .type "dict", data := .dict #[] }) scope.names } : Shared) = sD at ID ⊢
  have stD : tn 0 sD.heap := turns.keep _ _ _ stC fun b _ o z => by rw [← eS]; exact pushCells_keeps _ _ _ _ (Heap.get?_push_of_some _ z)
  have still : ∀ {σ' : L2.St} {H' : Hp} {s' : Shared}, L2.Inv (X.blk sC HC scope env fp) [] σ' H' s' → (∀ b ∈ fp, H' b = none) → ∀ b ∈ fp, FpOk (X.blk sC HC scope env fp) [] H' b := fun J1 hn b hb =>
    ⟨hn b hb, (J1.ok.exf b hb).1, J1.ok.exfs b hb, .inl hb, fun _ _ z => (J1.ok.exf b hb).2 _ _ z, fun q hq => by cases (show q ∈ ([] : List (Addr × Obj)) ++ [] from hq)⟩
  refine codeAny_compStart_dict ?lp (turns.self X.A 0 _ _ _ stD ?lp)
  refine cLoop2_out (fold1 env) (fun n s' => ∃ i H', L2.Inv (X.blk sC HC scope env fp) [] (wipe σ (own.map (·.2))) H' s' ∧ tn i s'.heap ∧ (∀ b ∈ fp, H' b = none) ∧ M i n H') ?_ m0 ⟨0, HC, ID, stD, fpN, start⟩
  rintro n sE ⟨i, HE, IE, stE, nE, mE⟩
  rcases turn i n HE mE with ⟨stop, fin⟩ | ⟨go, N, hN, step⟩
  · refine thnF (turns.done (X.blk sC HC scope env fp) rfl rfl rfl calm i [] sE _ HE (fun _ _ => False) IE (still IE nE) stE stop) fun r sF ⟨hr, IF⟩ => ?_
    subst hr
    have back : L2.Inv X pins σ HE sF := IC.call' (ch := fp) IF.os IF.base IF.hok IF.bare fun b hb => let z := (fpC b hb).1.2; ⟨z.2.2.1, z.1, z.2.2.2.1, z.2.2.2.2⟩
    have nC : HE sC.heap.objs.size = none := by rw [← loc]; exact IF.free
    obtain ⟨m, ns, _⟩ := IF.loc
    have ns : sF.heap.Ns sC.heap.objs.size m := by rw [← loc]; exact ns
    exact out p sC.heap.objs.size sF m HE back fin ns (IC.fpOk (Nat.le_refl _) nC)
  · refine thnF (turns.item (X.blk sC HC scope env fp) rfl rfl rfl calm i [] sE _ HE (fun _ _ => False) IE (still IE nE) stE go) fun r sF ⟨u, hr, hF⟩ => ?_
    subst hr
    refine thnF hF fun _ sG ⟨x, HG, IG, rG, yG, stG, nG⟩ => ?_
    have IG' := IG.pinned (still IG nG) (turns.obj _ _ stG)
    refine thnF (pG.run _ sG _ HG x u _ IG' rG (step x HG yG)) fun _ sI ⟨σI, HI, II, same, qI⟩ => ?_
    -- the turn's end
    have fin : ∀ {σ9 : L2.St} {s' : Shared} {H' : Hp}, L2.Inv (X.blk sC HC scope env fp) ([] ++ pinsAt fp sG.heap) σ9 H' s' → (wipe σ (own.map (·.2))).length = σ9.length → (∀ (j : Nat) v, (wipe σ (own.map (·.2)))[j]? = some (some v) → σ9[j]? = some (some v)) → N H' →
        ∃ m, m < n ∧ ∃ i H', L2.Inv (X.blk sC HC scope env fp) [] (wipe σ (own.map (·.2))) H' s' ∧ tn i s'.heap ∧ (∀ b ∈ fp, H' b = none) ∧ M i m H' := fun {σ9 s' H'} I' hl hk nx => by
      obtain ⟨m', hm, w'⟩ := hN H' nx
      have pin' : ∀ b ∈ fp, ∀ o, sG.heap.get? b = some o → s'.heap.get? b = some o ∧ H' b = none := fun b hb o e =>
        let z := I'.pin (b, o) (List.mem_append_right _ (List.mem_append_right _ (mem_pinsAt hb e)))
        ⟨z.1, z.2.1⟩
      refine ⟨m', hm, i + 1, H', (I'.unpinned (pins := [])).weak hl hk, turns.keep _ _ _ stG fun b hb o e => (pin' b hb o e).1, fun b hb => ?_, w'⟩
      obtain ⟨o, e, _⟩ := turns.obj _ _ stG b hb
      exact (pin' b hb o e).2
    have hl8 : (wipe σ (own.map (·.2))).length = σI.length := by rw [← same, wipe_length]
    have hk9 : ∀ (j : Nat) v, (wipe σ (own.map (·.2)))[j]? = some (some v) → (wipe σI vs1)[j]? = some (some v) := fun j v e => by
      rw [← same] at e
      obtain ⟨e1, e2⟩ := wipe_some e
      rw [wipe_out fun z => e2 (hvs j z)]
      exact e1
    refine thnF (pI1.run _ sI σI HI _ II qI) fun xv s10 hx => thnF hx fun itv s11 h11 => ?_
    obtain ⟨it1, fp1, tn1, J1, H11, e1, I11, T1, st11, f11, M1, ⟨m1, w1⟩, turn1⟩ := h11
    subst e1
    have stat1 : ∀ {H' : Hp}, (∀ b ∈ fp1, H' b = none) → ∀ b ∈ fp1, FpOk (X.blk sC HC scope env fp) ([] ++ pinsAt fp sG.heap) H' b := fun hn b hb => ⟨hn b hb, (f11 b hb).2⟩
    have loop1 : codeAny (model X.prog X.w) X.A (.compLoop (.DictComp kx vx [⟨tg, iter, [], 0⟩, ⟨tg1, iter1, [], 0⟩] scope pos) 1 (.ref it1) (.ref p) env)
        (fun r s' => match r with
          | .ok _ => ∃ m, m < n ∧ ∃ i H', L2.Inv (X.blk sC HC scope env fp) [] (wipe σ (own.map (·.2))) H' s' ∧ tn i s'.heap ∧ (∀ b ∈ fp, H' b = none) ∧ M i m H'
          | .error _ => False) s11 := by
      refine cLoop2_in (fun k s' => ∃ j H', L2.Inv (X.blk sC HC scope env fp) ([] ++ pinsAt fp sG.heap) (wipe σI vs1) H' s' ∧ tn1 j s'.heap ∧ (∀ b ∈ fp1, H' b = none) ∧ M1 j k H') ?_ m1 ⟨0, H11, I11.weak (wipe_length _ _) (fun j v e => (wipe_some e).1), st11, fun b hb => (f11 b hb).1, w1⟩
      rintro k s12 ⟨j, H12, I12, st12, n12, w12⟩
      rcases turn1 j k H12 w12 with ⟨stop1, nx1⟩ | ⟨go1, N1, hN1, step1⟩
      · refine thnF (T1.done (X.blk sC HC scope env fp) rfl rfl rfl calm j _ s12 (wipe σI vs1) H12 (fun _ _ => False) I12 (stat1 n12) st12 stop1) fun r s13 ⟨hr, I13⟩ => ?_
        subst hr
        exact fin I13 (hl8.trans (wipe_length σI vs1).symm) hk9 nx1
      · refine thnF (T1.item (X.blk sC HC scope env fp) rfl rfl rfl calm j _ s12 (wipe σI vs1) H12 (fun _ _ => False) I12 (stat1 n12) st12 go1) fun r s13 ⟨u1, hr, h13⟩ => ?_
        subst hr
        refine thnF h13 fun _ s14 ⟨x1, H14, I14, r14, y14, st14, n14⟩ => ?_
        have I14' := I14.pinned (stat1 n14) (T1.obj _ _ st14)
        refine thnF (pG1.run _ s14 (wipe σI vs1) H14 x1 u1 _ I14' r14 (step1 x1 H14 y14)) fun _ s15 ⟨σ15, H15, I15, hw15, q15⟩ => ?_
        refine thnF (pK.run _ s15 σ15 H15 _ I15 q15) fun kv sL ⟨yk, HL, IL, rL, qL⟩ => ?_
        refine thnF (pV.run _ sL σ15 HL _ IL qL) fun vv sM ⟨yv, HM, IM, rM, Hk, ks, us, k', d, exM, at_, rk, okk, rd, few, nx⟩ => ?_
        refine n_dictSet (X := X.blk sC HC scope env fp) (W := W) room IM exM hw at_ rk okk rL rd rM few fun ob s' isob I' => ?_
        obtain ⟨m', hm, w'⟩ := hN1 _ (nx ob isob)
        have pin' : ∀ b ∈ fp1, ∀ o, s14.heap.get? b = some o → s'.heap.get? b = some o ∧ (upd HM p ob) b = none := fun b hb o e =>
          let z := I'.pin (b, o) (List.mem_append_right _ (List.mem_append_right _ (mem_pinsAt hb e)))
          ⟨z.1, z.2.1⟩
        refine ⟨m', hm, j + 1, _, I'.unpinned.weak (by rw [← hw15, wipe_length]) (fun j v e => by rw [← hw15] at e; exact (wipe_some e).1), T1.keep _ _ _ st14 fun b hb o e => (pin' b hb o e).1, fun b hb => ?_, w'⟩
        obtain ⟨o, e, _⟩ := T1.obj _ _ st14 b hb
        exact (pin' b hb o e).2
    exact cStart1_ok loop1 (T1.self X.A 0 _ _ _ st11 loop1)
theorem pe_dx2 {kx vx tg iter tg1 iter1 : Expr} {scope : Scope} {own : List (Str × Nat)} {vs1 : List Nat} {pos : Pos} {wi wi1 : TI} {g g1 : TG} {tk tv : TE} (calm : X.calm = true) (nd : X.N.Nodup) (room : X.A.units + 64 < cLine) (hw : W.w = X.w) (walk : PI X tg iter wi) (blk : BlkOk X.N X.env.scope scope own) (hvs : ∀ i ∈ vs1, i ∈ own.map (·.2))
    (hg : ∀ (s : Shared) (H : Hp) (C : Addr) (cl : List (Str × Addr)) (fp : List Addr), PG (X.blk s H scope (compEnvC scope cl C X.env) fp) tg g)
    (hi1 : ∀ (s : Shared) (H : Hp) (C : Addr) (cl : List (Str × Addr)) (fp : List Addr), PI (X.blk s H scope (compEnvC scope cl C X.env) fp) tg1 iter1 wi1)
    (hg1 : ∀ (s : Shared) (H : Hp) (C : Addr) (cl : List (Str × Addr)) (fp : List Addr), PG (X.blk s H scope (compEnvC scope cl C X.env) fp) tg1 g1)
    (hk : ∀ (s : Shared) (H : Hp) (C : Addr) (cl : List (Str × Addr)) (fp : List Addr), PE (X.blk s H scope (compEnvC scope cl C X.env) fp) kx tk)
    (hv : ∀ (s : Shared) (H : Hp) (C : Addr) (cl : List (Str × Addr)) (fp : List Addr), PE (X.blk s H scope (compEnvC scope cl C X.env) fp) vx tv) (fold : ∀ x, foldedSetIterable iter X.env x = pure x) (fold1 : ∀ env x, foldedSetIterable iter1 env x = pure x) :
    PE X (.DictComp kx vx [⟨tg, iter, [], 0⟩, ⟨tg1, iter1, [], 0⟩] scope pos) (tDx2 X W wi g wi1 g1 tk tv (own.map (·.2)) vs1) := by
  refine ⟨fun pins s σ H Q I want => ?_⟩
  rw [arm_eval_DictComp]
  refine dx2_core calm nd room hw I walk blk hvs hg hi1 hg1 hk hv fold fold1 want fun p C s' m H' J hq ns ⟨z0, z1, z2, z3, z4, z5⟩ => ⟨m, ns, fun h2 same => ⟨.ref p, H', J.turned (t' := s'.toks) (fun b o hb e => (same.2 b hb).trans e) z0 z1 z3 z4 z5, rfl, hq⟩⟩
end
end Bk
set_option Elab.async false
set_option linter.all false
set_option maxRecDepth 100000
set_option maxHeartbeats 4000000
namespace Bk
open PySem PySem.Spec PyProof.Rows L2
open Evl (Ex ex_l ex_t)
theorem wipe_get (σ : L2.St) (k : Nat) : ∀ (v : List Nat), (wipe σ v)[k]? = if k ∈ v then (σ[k]?).map (fun _ => none) else σ[k]?
  | [] => by simp [wipe]
  | i :: v => by
    show ((wipe σ v).set i none)[k]? = _
    rw [List.getElem?_set]
    have ih := wipe_get σ k v
    by_cases e : i = k
    · subst e
      simp only [if_true, List.mem_cons, true_or]
      have hl : (wipe σ v).length = σ.length := wipe_length σ v
      by_cases hi : i < σ.length
      · simp [hl, hi]
      · simp [hl, hi]
    · simp only [e, if_false, ih, List.mem_cons, Ne.symm e, false_or]
theorem wipe_sub {σ : L2.St} {u v : List Nat} (h : ∀ i ∈ u, i ∈ v) : wipe (wipe σ u) v = wipe σ v := by
  apply List.ext_getElem?
  intro k
  rw [wipe_get, wipe_get, wipe_get]
  by_cases hk : k ∈ v
  · simp only [hk, if_true]
    by_cases hu : k ∈ u
    · simp only [hu, if_true]; cases σ[k]? <;> rfl
    · simp only [hu, if_false]
  · have hu : k ∉ u := fun z => hk (h k z)
    simp only [hk, hu, if_false]
theorem wipe_more {σ σ' : L2.St} {u v : List Nat} (h : ∀ i ∈ u, i ∈ v) (e : wipe σ' u = wipe (wipe σ v) u) : wipe σ' v = wipe σ v := by
  rw [← wipe_sub h, e, wipe_sub h, wipe_idem]
def dc2F (t t1 : T) (fi1 : Gm → G → R (List D)) (fk fv : Gm → G → R D) (Γ : Gm) : D → D → G → R D := fun x d g =>
  (lift (setT t x (wipeG Γ (T.tup [t, t1]).vars)) g).bind fun Γ1 g => (fi1 Γ1 g).bind fun ys g => dcR (dcF t1 fk fv (noOwn Γ1)) ys d g
theorem dc2R_noex {f : D → D → G → R D} : ∀ {xs : List D} {d : D} {g : G} {c : Nat} {ds : List D} {g' : G}, dc2R f xs d g ≠ .ex c ds g'
  | [], _, _, _, _, _, h => by cases h
  | x :: xs, d, g, c, ds, g', h => by
    unfold dc2R at h
    cases e : f x d g with
    | ok o g1 =>
      rw [e] at h
      have h' : dc2R f xs o g1 = .ex c ds g' := h
      exact dc2R_noex h'
    | ex _ _ _ => rw [e] at h; cases h
    | st => rw [e] at h; cases h
theorem dc2R_cons {f : D → D → G → R D} {x z d : D} {xs : List D} {g g' : G} (h : dc2R f (x :: xs) d g = .ok z g') : ∃ d1 g1, f x d g = .ok d1 g1 ∧ dc2R f xs d1 g1 = .ok z g' := by
  unfold dc2R at h
  obtain ⟨y, g1, e, h⟩ := nox_ok h
  exact ⟨y, g1, e, h⟩
theorem dcR_dct {f : D → G → R (D × D)} : ∀ {xs : List D} {d z : D} {g g' : G}, dcR f xs d g = .ok z g' → (∃ ks vs, d = .dct ks vs) → ∃ ks vs, z = .dct ks vs
  | [], d, z, g, g', h, q => by cases h; exact q
  | x :: xs, d, z, g, g', h, q => by
    obtain ⟨ks, vs, rfl⟩ := q
    obtain ⟨y, g1, _, _, _, h⟩ := dcR_cons h
    exact dcR_dct h (putD_is ks vs y.1 y.2)
theorem dc2F_shape {t t1 : T} {fi1 : Gm → G → R (List D)} {fk fv : Gm → G → R D} {Γ : Gm} {x d z : D} {g g' : G} (h : dc2F t t1 fi1 fk fv Γ x d g = .ok z g') (q : ∃ ks vs, d = .dct ks vs) : ∃ ks vs, z = .dct ks vs := by
  unfold dc2F at h
  obtain ⟨_, _, _, h⟩ := bind_ok h
  obtain ⟨_, _, _, h⟩ := bind_ok h
  exact dcR_dct h q
theorem dc2R_dct {t t1 : T} {fi1 : Gm → G → R (List D)} {fk fv : Gm → G → R D} {Γ : Gm} : ∀ {xs : List D} {d z : D} {g g' : G}, dc2R (dc2F t t1 fi1 fk fv Γ) xs d g = .ok z g' → (∃ ks vs, d = .dct ks vs) → ∃ ks vs, z = .dct ks vs
  | [], d, z, g, g', h, q => by cases h; exact q
  | x :: xs, d, z, g, g', h, q => by
    obtain ⟨d1, g1, e, h⟩ := dc2R_cons h
    exact dc2R_dct h (dc2F_shape e q)
theorem dc2R_shape {t t1 : T} {fi1 : Gm → G → R (List D)} {fk fv : Gm → G → R D} {Γ : Gm} {xs : List D} {z : D} {g g' : G} (h : dc2R (dc2F t t1 fi1 fk fv Γ) xs (.dct [] []) g = .ok z g') : isOb z = true := by
  obtain ⟨ks, vs, rfl⟩ := dc2R_dct h ⟨[], [], rfl⟩
  rfl
theorem gm_noOwn0 {K : PySem.W.Frag} {W : Wd} {Hk H Hk' H' : Hp} {Γ : Gm} {σ : L2.St} {os : List Addr} (h : GmR K W Hk H Γ σ os) (e : Ex Hk Hk') : GmR K W Hk' H' (noOwn Γ) σ [] := by
  induction h with
  | nil => exact .nil
  | no o _ ih => exact .no o ih
  | val r _ ih => exact .val (r.mono e) ih
  | own _ _ _ ih => exact .no _ ih
section
variable {X : Cx} {W : Wd} {Ew : XK} {Hk0 H0 Hk H : Hp} {Γ : Gm} {g : G} {σ : L2.St} {K : PySem.W.Frag}
theorem f_dcp2 {own : List (Str × Nat)} {t t1 : T} {fi fi1 : Gm → G → R (List D)} {fk fv : Gm → G → R D} (hown : own.map (·.2) = (T.tup [t, t1]).vars) :
    (∀ σ H Q, (tFf X.K W Ew fun Γ g => (fi Γ g).bind fun xs g => dc2R (dc2F t t1 fi1 fk fv Γ) xs (.dct [] []) g) σ H Q → tDx2 X W (tIi X.K W Ew fi) (tGg X.K W t) (tIi X.K W E0 fi1) (tGg X.K W t1) (tE X.K W E0 fk) (tE X.K W E0 fv) (own.map (·.2)) t1.vars σ H Q) := by
  intro σ H Q ⟨Hk0, H0, Γ, g, Hk, fr, h⟩
  rw [hown]
  generalize hV : (T.tup [t, t1]).vars = V
  have hVt : ∀ i ∈ t.vars, i ∈ V := fun i hi => by rw [← hV]; simp [T.vars, varsT, hi]
  refine seqI fr h fun J ds g1 Hk1 H1 fr1 s1 io h1 p hD hp => ?_
  generalize hF : dc2F t t1 fi1 fk fv Γ = F at h1
  cases e : dc2R F ds (.dct [] []) g1 with
  | st => rw [e] at h1; exact h1.elim
  | ex c ds' g' => exact absurd e dc2R_noex
  | ok zz gE =>
    rw [e] at h1
    have hout : W.out p := ex_upd_out fr1.wk.dr hD
    have hk1 : Hk1 p = none := DrawAt.unk_of fr1.wk.dr fr1.wk hD
    have hD0 : H p = none := none_back s1 hD
    have ob0 : Ob X.K W Hk1 (.dct [] []) p (ObX p dObj0) := ⟨dObj0, [], rfl, hp, dc_nil _, rfl, rfl, rfl, rfl⟩
    let Inv0 : Nat → Hp → Prop := fun i H' => i ≤ ds.length ∧ ∃ g Hk ks vs u, Step W Hk1 H1 Hk H' ∧ DrawAt W g H' ∧ H' p = some u ∧ Hk p = none ∧ Ob X.K W Hk (.dct ks vs) p u ∧ dc2R F (ds.drop i) (.dct ks vs) g = .ok zz gE
    refine ⟨fun i m H' => m = ds.length - i ∧ Inv0 i H', ⟨ds.length, by simp, Nat.zero_le _, g1, Hk1, [], [], _, Step.hid fr1.wk.ex hD, fr1.wk.dr.new hD, upd_same, hk1, ob0, e⟩, ?_⟩
    rintro i m H' ⟨rfl, hi, g2, Hk2, ks, vs, u, st, dr, hu, hkD, ob, el⟩
    have wk2 : Wk W g2 Hk2 H' := fr1.wk.step st dr
    by_cases hlt : i < ds.length
    · refine .inr ⟨io.go i Hk2 H' g2 hlt st.k wk2, Inv0 (i + 1), fun H3 q => ⟨ds.length - (i + 1), by omega, rfl, q⟩, fun x H3 y => ?_⟩
      have hd : ds[i]? = some ds[i] := by simp [hlt]
      obtain ⟨Hk3, s3, dr3, rx⟩ := io.yld i Hk2 H' g2 x H3 ds[i] hd st.k wk2 y
      rw [List.drop_eq_getElem_cons hlt] at el
      obtain ⟨d1, g4, ef, er⟩ := dc2R_cons el
      subst hF
      unfold dc2F at ef
      obtain ⟨Γ', g5, e5, ef⟩ := bind_ok ef
      obtain ⟨e5', e5''⟩ := lift_ok e5
      subst e5''
      obtain ⟨ys, g6, e6, ef⟩ := bind_ok ef
      rw [hV] at e5'
      have st3 := st.trans s3
      refine ⟨Hk0, H0, wipeG Γ V, g2, Hk3, ds[i], Γ', (fr1.wipe V).step st3 dr3, rx, e5', fun σ' fr' hw => ⟨?_, Hk0, H0, Γ', g2, Hk3, fr', Fin.of_ok e6 fun Hk4 H4 s4 dr4 J1 io1 => ?_⟩⟩
      · exact wipe_more hVt hw
      have h3D := s3.h _ _ hu hout
      have h4D := s4.h _ _ h3D hout
      have k4D : Hk4 p = none := s4.unk (s3.unk hkD hu) h3D
      have ob4 : Ob X.K W Hk4 (.dct ks vs) p u := (ob.mono s3.k).mono s4.k
      generalize hF1 : dcF t1 fk fv (noOwn Γ') = F1 at ef
      let Inv1 : Nat → Hp → Prop := fun j H' => j ≤ ys.length ∧ ∃ g Hk ks vs u, Step W Hk1 H1 Hk H' ∧ Ex Hk4 Hk ∧ DrawAt W g H' ∧ H' p = some u ∧ Hk p = none ∧ Ob X.K W Hk (.dct ks vs) p u ∧ dcR F1 (ys.drop j) (.dct ks vs) g = .ok d1 g4
      refine ⟨fun j k H' => k = ys.length - j ∧ Inv1 j H', ⟨ys.length, by simp, Nat.zero_le _, g6, Hk4, ks, vs, u, st3.trans s4, Ex.refl _, dr4, h4D, k4D, ob4, ef⟩, ?_⟩
      rintro j m H6 ⟨rfl, hj, g7, Hk6, ks6, vs6, u6, st6, ex6, dr6, hu6, hk6, ob6, el6⟩
      have wk6 : Wk W g7 Hk6 H6 := fr1.wk.step st6 dr6
      by_cases hlt6 : j < ys.length
      · refine .inr ⟨io1.go j Hk6 H6 g7 hlt6 ex6 wk6, Inv1 (j + 1), fun H3 q => ⟨ys.length - (j + 1), by omega, rfl, q⟩, fun x6 H7 y6 => ?_⟩
        have hd6 : ys[j]? = some ys[j] := by simp [hlt6]
        obtain ⟨Hk7, s7, dr7, rx7⟩ := io1.yld j Hk6 H6 g7 x6 H7 ys[j] hd6 ex6 wk6 y6
        rw [List.drop_eq_getElem_cons hlt6] at el6
        obtain ⟨kv, g8, ef6, okk, few, er6⟩ := dcR_cons el6
        subst hF1
        unfold dcF at ef6
        obtain ⟨Γ2, g9, e9, ef6⟩ := bind_ok ef6
        obtain ⟨e9', e9''⟩ := lift_ok e9
        subst e9''
        obtain ⟨a, g10, e10, ef6⟩ := bind_ok ef6
        obtain ⟨b, g11, e11, ef6⟩ := bind_ok ef6
        cases ef6
        have st7 := st6.trans s7
        have frN : Fr X.K W Hk0 H0 (noOwn Γ') g7 σ' Hk7 H7 := by
          obtain ⟨os', sl', _, _⟩ := fr'.sl
          exact ⟨fr1.wk.step st7 dr7, fr1.en.trans st7, ⟨[], gm_noOwn0 sl' ((s4.k.trans ex6).trans s7.k), List.nodup_nil, fun p hp => by cases hp⟩, fr'.hb0⟩
        refine ⟨Hk0, H0, wipeG (noOwn Γ') t1.vars, g7, Hk7, ys[j], Γ2, frN.wipe t1.vars, rx7, e9', fun σ3 fr3 hw3 => ⟨by rw [hw3, wipe_idem], Hk0, H0, Γ2, g7, Hk7, fr3, Fin.of_ok e10 fun Hk8 H8 s8 dr8 va ra => ⟨Hk0, H0, Γ2, g10, Hk8, fr3.step s8 dr8, Fin.of_ok e11 fun Hk9 H9 s9 dr9 vb rb => ?_⟩⟩⟩
        have h7D := s7.h _ _ hu6 hout
        have h8D := s8.h _ _ h7D hout
        have h9D := s9.h _ _ h8D hout
        have k9D : Hk9 p = none := s9.unk (s8.unk (s7.unk hk6 hu6) h7D) h8D
        have ob9 : Ob X.K W Hk9 (.dct ks6 vs6) p u6 := ((ob6.mono s7.k).mono s8.k).mono s9.k
        obtain ⟨o, xs, eu, q1, q2, q3, q4, q5, q6⟩ := id ob9
        subst eu
        obtain ⟨ks', vs', ep⟩ := putD_is ks6 vs6 a b
        refine ⟨Hk9, ks6, vs6, a, b, s9.kh, ⟨o, xs, h9D, q1, q2, q3, q4, q5, q6⟩, ra.mono s9.k, okk, rb, few, fun ob' ho => ⟨hlt6, g8, Hk9, ks', vs', ob', (((st7.trans s8).trans s9)).mut hD k9D, ((ex6.trans s7.k).trans s8.k).trans s9.k, dr9.upd hout (ob9.nc h9D) (ho.ntb), upd_same, k9D, by rw [← ep]; exact ho, ?_⟩⟩
        rw [← ep]
        exact er6
      · have hj' : j = ys.length := by omega
        subst hj'
        rw [List.drop_length] at el6
        cases el6
        exact .inl ⟨io1.stop _ Hk6 H6 _ rfl ex6 wk6, hlt, _, Hk6, ks6, vs6, u6, st6, dr6, hu6, hk6, ob6, er⟩
    · have hi' : i = ds.length := by omega
      subst hi'
      rw [List.drop_length] at el
      cases el
      exact .inl ⟨io.stop _ Hk2 H' _ rfl st.k wk2, h1 Hk2 H' st dr p _ hD0 hkD hu ob⟩
end
end Bk
set_option Elab.async false
set_option linter.all false
set_option maxRecDepth 100000
set_option maxHeartbeats 4000000
set_option pp.maxSteps 600
namespace Bk
open PySem PySem.W PySem.Calls PyProof.Rows
inductive Sto : List Str → List Stmt → Prop where
  | nil : Sto [] []
  | cons {n : Str} {ns : List Str} {r : List Stmt} {p1 p2 p3 p4 : Pos} : Sto ns r → Sto (n :: ns) (.Assign [.Attribute (.Name "self" p1) n p2] (.Name n p3) p4 :: r)
/-- the ways of giving the fields by name: the names as written, which is whose -/
def kwsOf : List Str → List (List Str × List Pik)
  | [n] => [([n], [.at 0])]
  | [m, n] => [([m, n], [.at 0, .at 1]), ([n, m], [.at 1, .at 0])]
  | _ => []
/-- the arguments of a class's call: by place, by name -/
def ArgX (ns : List Str) (as : Args) (x : Value) (us : List Value) : Prop := us.length = ns.length ∧ (as = ⟨x :: us, []⟩ ∨ ∃ q ∈ kwsOf ns, ∃ ws : List Value, ws.length = q.1.length ∧ as = ⟨[x], q.1.zip ws⟩ ∧ Bk.PickV ws q.2 us)
/-- what is asked of a class's __init__ -/
structure IniFn (P : Program) (K : Frag) (C fI : Addr) (ns : List Str) : Prop where
  ex : ∃ (oc : Value) (od : Option Addr) (name qual : Str) (params : Arguments) (r : List Stmt) (scope : Scope) (dV kV doc pm : Value) (an : Option Addr) (cda : Addr) (ct : Value) (osl : Array (Option Value)) (cc : Addr) (text : Str) (p0 p1 p2 p3 p4 p5 : Pos) (ar : Arg) (j : Nat)
      (ccl : Value) (cdd : Option Addr) (vs : Array Value) (ccs : Array (Option Value)) (file : Str) (tf : Tok) (cl : Value) (cld : Option Addr) (csl : Array (Option Value)),
    K.lookup fI = some ⟨oc, od, .func (ksFn name qual params (.Expr (.Call (.Attribute (.Call (.Name "super" p0) [] [] p1) "__init__" p2) [.Constant (.str text) j p3] [] p4) p5 :: r) scope dV kV doc pm an (.ref cda) ct cc), osl⟩ ∧ codeIn K (.ref cda) qual = true ∧ Sto ns r ∧
    (params.posonlyargs ++ params.args).head? = some ar ∧ ar.arg = "self" ∧ scope.kind = .function ∧ scope.isCoroutine = false ∧ scope.isGenerator = false ∧ (∀ y ∈ scope.names, y.2 ≠ .cell) ∧ scope.names.lookup ("super" : Str) = some .globalImplicit ∧ scope.names.lookup ("__class__" : Str) = some .free ∧
    (∀ n ∈ ("self" : Str) :: ns, scope.names.lookup n = some .local) ∧
    (∀ (as : Args) (x : Value) (us : List Value) (s : Shared), ArgX ns as x us → BindsTo s (ksFn name qual params (.Expr (.Call (.Attribute (.Call (.Name "super" p0) [] [] p1) "__init__" p2) [.Constant (.str text) j p3] [] p4) p5 :: r) scope dV kV doc pm an (.ref cda) ct cc) as (("self", x) :: ns.zip us)) ∧
    K.lookup cda = some ⟨ccl, cdd, .fields vs, ccs⟩ ∧ vs[2]? = some (.str file tf) ∧ ((P.main.file : Str) == file) = true ∧ K.lookup cc = some ⟨cl, cld, .cell (some (.ref C)), csl⟩ ∧ (p2.endLine == p4.line) = true
structure IniC (K : Frag) (C fI : Addr) (ns : List Str) (B newId initId : String) (bmB : List Value) : Prop where
  fb : ExcBaseFacts B newId initId bmB
  kf : KxsFacts B initId
  sf : StoreFacts B bmB "object.__setattr__" "object"
  ini : excInitIn K C bmB newId = true
  ovr : excOver K C bmB = true
  hd : hasDictIn K C = true
  sa : findIn K (.ref C) "__setattr__" = some (some (.builtin "object.__setattr__"))
  no : ∀ n ∈ ns, findIn K (.ref C) n = some none
  ic : findIn K (.ref C) "__init__" = some (some (.ref fI))
  ft : typeIn K (.ref fI) = some (.type "function")
  sup : ks_superIn K C C "__init__" = some (some (.builtin initId))
  sB : subIn K (.ref C) (.type B) = some true
  own : mroIn K C (.ref C) = some true
  opq : nsIn K cStatics "thirdparty.any" = some none
  ndb : ∀ n ∈ ns, (n == ("__debug__" : Str)) = false
  nd : (("self" : Str) :: ns).Nodup
theorem lookup_nd {α : Type} : ∀ {l : List (Str × α)} {n : Str} {v : α}, (l.map (·.1)).Nodup → (n, v) ∈ l → l.lookup n = some v
  | [], _, _, _, h => by cases h
  | (a, b) :: l, n, v, nd, h => by
    rw [List.map_cons, List.nodup_cons] at nd
    rw [List.lookup_cons]
    rcases List.mem_cons.mp h with e | h
    · cases e
      simp
    · have : n ≠ a := fun z => nd.1 (z ▸ List.mem_map.mpr ⟨(n, v), h, rfl⟩)
      rw [beq_false_of_ne this]
      exact lookup_nd nd.2 h
theorem map_zip {α : Type} : ∀ {l : List Str} {vs : List α}, vs.length = l.length → (l.zip vs).map (·.1) = l
  | [], _, _ => rfl
  | n :: l, [], h => by simp at h
  | n :: l, v :: vs, h => by
    rw [List.zip_cons_cons, List.map_cons, map_zip (by simpa using h)]
section
variable {P : Program} {w : World} {K : Frag} {C fI : Addr} {ns : List Str} {B newId initId : String} {bmB : List Value} {A : Around}
/-- a field is stored: the first one, a further one -/
theorem sto_first (I : IniC K C fI ns B newId initId bmB) {s : Shared} {x t1 : Addr} {n : Str} {v : Value} {E : Value → Shared → Prop} {Q : Unit → Shared → Prop} (X : K.In s.heap) (hx : s.heap.get? x = some (excObj C t1 none .none)) (hn : n ∈ ns)
    (hq : ∀ h' tk dx, (∀ b o, b ≠ x → s.heap.get? b = some o → h'.get? b = some o) → s.heap.objs.size ≤ dx → dx ≠ x → h'.get? x = some (excObj C t1 (some dx) .none) → h'.Ns1 dx (fun y => if y = n then some v else none) → Q () { s with heap := h', toks := tk }) :
    wpAny (model P w) A (setAttr (.ref x) n v) Q E s := by
  obtain ⟨hp, g, d, t, os⟩ := s
  have I0 : InstAt hp x (excObj C t1 none .none) C none := ⟨hx, rfl, rfl, trivial⟩
  have hxs : x ≠ hp.objs.size := Nat.ne_of_lt (Heap.lt_size hx)
  obtain ⟨cd, hcd, hh⟩ := any_some I.hd
  have hcls : Looks (model P w) hp (classData C) cd := looks_clsIn X hcd
  refine set_plain (od := none) X I0 I.sa (osa_openX (s := ⟨hp, g, d, t + 1, os⟩) I.sf X I0 I.ovr (r := none) (by unfold takerIn; rw [I.no n hn]; rfl) fun b => ?_)
  obtain ⟨nm, bs, mro, cns, qn, hdd, sn, sb, ab, col, del⟩ := cd
  dsimp only at hh
  subst hh
  show wpAny _ _ (Builtin.ObjectAttr.storeInOwnDict (.ref x) (.ref C) (.str n t) n v b) _ _ _
  unfold Builtin.ObjectAttr.storeInOwnDict Builtin.ObjectAttr.ownDictForStores
  repeat (first | with_reducible refine HandSPX.store_in_new ?_ ?_ | with_reducible refine wpAny_loadPart_at hx ?_ | with_reducible refine hcls.at ?_ | wp_step)
  · exact ⟨_, #[], _, (Heap.get?_update_ne _ _ _ _ hxs.symm).trans (Heap.get?_push_at rfl rfl), rfl, fun e he => absurd he (by simp), fun _ => rfl⟩
  · intro h' tk' hn' hs
    have hx₁ : (hp.push { cls := .type "dict", data := .dict #[] }).get? x = some (excObj C t1 none .none) := Heap.get?_push_of_some _ hx
    refine hq h' tk' hp.objs.size (fun b o hb ho => ?_) (Nat.le_refl _) hxs.symm ?_ hn'
    · exact (hs.2 b (Nat.ne_of_lt (Heap.lt_size ho))).trans ((Heap.get?_update_ne _ _ _ _ hb).trans (Heap.get?_push_of_some _ ho))
    · exact (hs.2 x hxs).trans (Heap.get?_update_self _ hx₁ rfl)
theorem sto_next (I : IniC K C fI ns B newId initId bmB) {s : Shared} {x t1 dx : Addr} {n : Str} {v : Value} {m0 : Str → Option Value} {nl : List Str} {E : Value → Shared → Prop} {Q : Unit → Shared → Prop} (X : K.In s.heap) (hx : s.heap.get? x = some (excObj C t1 (some dx) .none)) (hns : s.heap.Ns1 dx m0) (hw : Within m0 nl) (hz : nl.length ≤ 1000) (hn : n ∈ ns)
    (hq : ∀ h' tk, (∀ b o, b ≠ dx → s.heap.get? b = some o → h'.get? b = some o) → h'.Ns1 dx (fun y => if y = n then some v else m0 y) → Q () { s with heap := h', toks := tk }) :
    wpAny (model P w) A (setAttr (.ref x) n v) Q E s := by
  obtain ⟨hp, g, d, t, os⟩ := s
  obtain ⟨oD, esD, epD, hoD, hdD, _⟩ := hns.count hw
  have I0 : InstAt hp x (excObj C t1 (some dx) .none) C (some oD) := ⟨hx, rfl, rfl, hoD⟩
  obtain ⟨cd, hcd, hh⟩ := any_some I.hd
  have hcls : Looks (model P w) hp (classData C) cd := looks_clsIn X hcd
  refine set_plain (od := some oD) X I0 I.sa (osa_openX (s := ⟨hp, g, d, t + 1, os⟩) I.sf X I0 I.ovr (r := none) (by unfold takerIn; rw [I.no n hn]; rfl) fun b => ?_)
  obtain ⟨nm, bs, mro, cns, qn, hdd, sn, sb, ab, col, del⟩ := cd
  dsimp only at hh
  subst hh
  show wpAny _ _ (Builtin.ObjectAttr.storeInOwnDict (.ref x) (.ref C) (.str n t) n v b) _ _ _
  unfold Builtin.ObjectAttr.storeInOwnDict Builtin.ObjectAttr.ownDictForStores
  repeat (first | with_reducible refine PX.store_in_old hns hw hz ?_ | with_reducible refine wpAny_loadPart_at hx ?_ | with_reducible refine hcls.at ?_ | wp_step)
  intro h' tk' hn' hs
  exact hq h' tk' (fun b o hb ho => (hs.2 b hb).trans ho) hn'
/-- the fields that stand so far: no dict yet, or a dict with these -/
def Has (C x t1 : Addr) (h : Heap) (l : List (Str × Value)) : Prop := (l = [] ∧ h.get? x = some (excObj C t1 none .none)) ∨ ∃ dx, x < dx ∧ h.get? x = some (excObj C t1 (some dx) .none) ∧ h.Ns1 dx fun y => l.reverse.lookup y
theorem lookup_cons' {α : Type} (n : Str) (v : α) (l : List (Str × α)) : (fun y => List.lookup y ((n, v) :: l)) = fun y => if y = n then some v else List.lookup y l := by
  funext y
  rw [List.lookup_cons]
  by_cases e : y = n
  · subst e; simp
  · rw [if_neg e, beq_false_of_ne e]
theorem within_lookup (l : List (Str × Value)) : Within (fun y => List.lookup y l) (l.map (·.1)) := by
  induction l with
  | nil => exact Within.nil
  | cons p l ih =>
    obtain ⟨n, v⟩ := p
    rw [lookup_cons']
    exact Within.cons n v ih
/-- all the stores -/
theorem sto_all (I : IniC K C fI ns B newId initId bmB) {h0 : Heap} {env : Env} {x t1 L : Addr} {m : Str → Option Value} {E : Value → Shared → Prop} {Q : Flow → Shared → Prop} (X : K.In h0) (hk : env.scope.kind = .function) (hL : env.locals = L) (hsf : env.scope.names.lookup ("self" : Str) = some .local) (ms : m ("self" : Str) = some (.ref x)) (xL : x ≠ L) (hx0 : h0.objs.size ≤ x) :
    ∀ {l : List Str} {r : List Stmt} (vs : List Value) (done : List (Str × Value)) (s : Shared), Sto l r → vs.length = l.length → (∀ n ∈ l, n ∈ ns ∧ env.scope.names.lookup n = some .local) → (∀ p ∈ l.zip vs, m p.1 = some p.2) → done.length + l.length ≤ 100 →
      (∀ b o, h0.get? b = some o → s.heap.get? b = some o) → s.heap.Ns L m → L < s.heap.objs.size → (∀ dx, x < dx → s.heap.get? x = some (excObj C t1 (some dx) .none) → dx ≠ L) → Has C x t1 s.heap done →
      (∀ h' tk, (∀ b o, h0.get? b = some o → h'.get? b = some o) → Has C x t1 h' (done ++ l.zip vs) → Q .next { s with heap := h', toks := tk }) →
      wpAny (model P w) A (execs r env) Q E s := by
  intro l r vs done s st
  induction st generalizing vs done s with
  | nil =>
    intro hl hn hm hd hk0 hns hLs hdL hh hq
    refine wpAny_execs_nil ?_
    have := hq s.heap s.toks hk0 (by simpa using hh)
    exact this
  | @cons n l r p1 p2 p3 p4 st ih =>
    intro hl hn hm hd hk0 hns hLs hdL hh hq
    cases vs with
    | nil => simp at hl
    | cons v vs =>
    subst hL
    have hn0 := hn n List.mem_cons_self
    have mv : m n = some v := hm (n, v) (by simp)
    refine wpAny_execs_cons ?_
    refine plainObj_wpAny_Assign_Attribute ?_ rfl
    refine wpAny_Name (wpAny_loadName_local hk hn0.2 hns mv ?_) (I.ndb n hn0.1)
    refine wpAny_Name (wpAny_loadName_local hk hsf hns ms ?_) (by decide)
    have fin : ∀ h' tk dx, (∀ b o, b ≠ x → b ≠ dx → s.heap.get? b = some o → h'.get? b = some o) → x < dx → dx ≠ env.locals → h0.get? dx = none → h'.get? x = some (excObj C t1 (some dx) .none) → (h'.Ns1 dx fun y => ((n, v) :: done.reverse).lookup y) → wpAny (model P w) A (execs r env) Q E { s with heap := h', toks := tk } := by
      intro h' tk dx k1 k2 k3 k4 k5 k6
      have hx0n : h0.get? x = none := by
        cases q : h0.get? x with
        | none => rfl
        | some o => exact absurd (Nat.lt_of_lt_of_le (Heap.lt_size q) hx0) (Nat.lt_irrefl _)
      refine ih vs (done ++ [(n, v)]) { s with heap := h', toks := tk } (by simpa using hl) (fun a ha => hn a (List.mem_cons_of_mem _ ha)) (fun p hp => hm p (by simp [hp])) (by simp at hd ⊢; omega) (fun b o e => k1 b o (fun z => by rw [z, hx0n] at e; cases e) (fun z => by rw [z, k4] at e; cases e) (hk0 b o e)) ?_ ?_ ?_ ?_ ?_
      · obtain ⟨o, es, ep, e, rr⟩ := hns
        exact ⟨o, es, ep, k1 _ _ (Ne.symm xL) (Ne.symm k3) e, rr⟩
      · obtain ⟨o, es, ep, e, rr⟩ := hns
        exact Heap.lt_size (k1 _ _ (Ne.symm xL) (Ne.symm k3) e)
      · intro dx' _ e
        have e : h'.get? x = _ := e
        rw [k5] at e
        cases e
        exact k3
      · exact .inr ⟨dx, k2, k5, by simpa using k6⟩
      · intro h2 tk2 q1 q2
        refine hq h2 tk2 q1 ?_
        simpa using q2
    rcases hh with ⟨rfl, hx⟩ | ⟨dx, hlt, hx, hnd⟩
    · refine sto_first I (X.keeps hk0) hx hn0.1 fun h' tk dx k1 k2 k3 k4 k5 => ?_
      have hxs := Heap.lt_size hx
      refine fin h' tk dx (fun b o hb _ e => k1 b o hb e) (Nat.lt_of_lt_of_le hxs k2) (fun z => absurd (Nat.lt_of_lt_of_le hLs (z ▸ k2)) (Nat.lt_irrefl _)) ?_ k4 (by rw [lookup_cons']; exact k5)
      cases q : h0.get? dx with
      | none => rfl
      | some o => exact absurd (Nat.lt_of_lt_of_le (Heap.lt_size (hk0 _ _ q)) k2) (Nat.lt_irrefl _)
    · refine sto_next I (X.keeps hk0) hx hnd (within_lookup _) (by simp at hd ⊢; omega) hn0.1 fun h' tk k1 k2 => ?_
      have hdx : dx ≠ x := Nat.ne_of_gt hlt
      refine fin h' tk dx (fun b o _ hb e => k1 b o hb e) hlt (hdL dx hlt hx) ?_ (k1 x _ (Ne.symm hdx) hx) (by rw [lookup_cons']; exact k2)
      cases q : h0.get? dx with
      | none => rfl
      | some o => exact absurd (Nat.lt_trans hlt (Nat.lt_of_lt_of_le (Heap.lt_size q) hx0)) (Nat.lt_irrefl _)
/-- super() within such an __init__ -/
theorem sup_node {s : Shared} {env : Env} {body : List Stmt} {p0 p1 : Pos} {whole : Sem Value} {x cc cda : Addr} {of : Obj} {fd : FuncData} {ar : Arg} {occ : Obj} {vs : Array Value} {file : Str} {tf : Tok} {mg mb m : Str → Option Value} {ox : Obj} {E : Value → Shared → Prop} {Q : Value → Shared → Prop}
    (X : K.In s.heap) (own : mroIn K C (.ref C) = some true) (hk : env.scope.kind = .function) (hks : env.scope.names.lookup ("super" : Str) = some .globalImplicit) (hkc : env.scope.names.lookup ("__class__" : Str) = some .free) (hka : env.scope.names.lookup ("self" : Str) = some .local) (hfu : env.func = some fI) (hco : env.code = .ref cda) (hgl : env.globals = mainGlobals) (hbl : env.builtins = builtinsNs) (hce : env.cells.lookup ("__class__" : Str) = some cc)
    (hf : s.heap.get? fI = some of) (hfd : of.data = .func fd) (hp : (fd.params.posonlyargs ++ fd.params.args).head? = some ar) (har : ar.arg = "self") (hcc : s.heap.get? cda = some occ) (hoc : occ.data = .fields vs) (hvs : vs[2]? = some (.str file tf)) (hfile : ((P.main.file : Str) == file) = true) (htop : (P.main.scope.names.lookup ("super" : Str)).isSome = false)
    (hG : s.heap.Ns mainGlobals mg) (hm : mg "super" = none) (hB : s.heap.Ns builtinsNs mb) (hb : mb "super" = some (.type "super")) (hcell : ∃ oo, s.heap.get? cc = some oo ∧ oo.data = .cell (some (.ref C))) (hn : s.heap.Ns env.locals m) (ms : m ("self" : Str) = some (.ref x)) (hx : s.heap.get? x = some ox) (hxc : ox.cls = .ref C) (hxn : ∀ c, ox.data ≠ .cls c)
    (hq : ∀ h', h'.get? s.heap.objs.size = some (ks_superObj C x C) → (∀ y o, s.heap.get? y = some o → h'.get? y = some o) → Q (.ref s.heap.objs.size) { s with heap := h' }) :
    _root_.PySem.wpAt (model P w) A (.func body env) (attributeBase (.Call (.Name "super" p0) [] [] p1) "__init__" env whole) Q E s := by
  have hC : ∃ cd, clsIn K C = some cd := by
    unfold mroIn at own
    cases q : clsIn K C with
    | none => rw [q] at own; cases own
    | some cd => exact ⟨cd, rfl⟩
  obtain ⟨cd, hcd⟩ := hC
  obtain ⟨oD, hD1, hD2⟩ : ∃ oD, s.heap.get? C = some oD ∧ oD.data = .cls cd := by
    unfold clsIn at hcd
    split at hcd
    · rename_i c d cd' sl ho
      cases hcd
      exact ⟨_, X _ _ ho, rfl⟩
    · cases hcd
  refine ks_wpAt_super_base (env := env) hks hkc (show (("__init__" : Str) == ("__class__" : Str)) = false by decide) hfu hf hfd hp hco hcc hoc hvs hfile htop ?_
  refine ks_loadName_global hk hks ?_
  refine loadGlobal_builtin (env := env) (by rw [hgl]; exact hG) hm (by rw [hbl]; exact hB) hb ⟨rfl, ?_⟩
  obtain ⟨oo, h1, h2⟩ := hcell
  refine wpAny_loadName_free hk hkc hce ⟨_, h1, h2⟩ ?_
  rw [har]
  refine wpAny_loadName_local hk hka hn ms ?_
  refine ks_wpAny_isType_cls hD1 hD2 ⟨rfl, ?_⟩
  obtain ⟨hp, g, d, t, os⟩ := s
  exact ks_wpAny_call_super hD1 hD2 hx hxc hxn (looks_mroIn X own) fun h' e k => hq h' e k
theorem sup_call {o : Expr} {name : Str} {apos pos p3 : Pos} {c : Const} {j : Nat} (h : (apos.endLine == pos.line) = true) (env : Env) : eval (.Call (.Attribute o name apos) [.Constant c j p3] [] pos) env = (do
      let ov ← attributeBase o name env (eval o env)
      standAt apos.atName
      let (f, first) ← holding [ov] (getMethod ov name (do return (← importBound o env).getD true))
      callWith pos f first (backTo pos (starEach [.Constant c j p3] env)) []) := by
  show (attributeBase o name env (eval o env) >>= fun ov => standAt apos.atName >>= fun _ => methodCall o name apos pos env ov 1 (backTo pos (starEach [.Constant c j p3] env)) []) = _
  simp only [methodCall, methodCallPos, h, Bool.or_true, if_true, pure_bind]
  rfl
/-- what the globals must be -/
structure TopF (P : Program) (h : Heap) : Prop where
  top : (P.main.scope.names.lookup ("super" : Str)).isSome = false
  g : ∃ mg, h.Ns mainGlobals mg ∧ mg ("super" : Str) = none
  b : ∃ mb, h.Ns builtinsNs mb ∧ mb ("super" : Str) = some (.type "super")
theorem TopF.keeps {h h' : Heap} (t : TopF P h) (k : ∀ b o, h.get? b = some o → h'.get? b = some o) : TopF P h' := ⟨t.top, let ⟨mg, a, b⟩ := t.g; ⟨mg, a.keeps k, b⟩, let ⟨mb, a, b⟩ := t.b; ⟨mb, a.keeps k, b⟩⟩
theorem ini_run (I : IniC K C fI ns B newId initId bmB) (F : IniFn P K C fI ns) {R : Result → Shared → Prop} {h0 : Heap} {t0 : Addr} {us : List Value} {g : Array GenState} {d : Drawn} {t : Nat} {os : OsState} (X : K.In h0) (lim : h0.NoLimit) (T : TopF P h0) (hroom : A.depth < recursionLimit) {as : Args} (hA : ArgX ns as (.ref h0.objs.size) us) (hls : ns.length ≤ 50)
    (hq : ∀ h' tk t1, (∀ b o, h0.get? b = some o → h'.get? b = some o) → Has C h0.objs.size t1 h' (ns.zip us) → R (.ok (.ret .none)) ⟨h', g, d, tk, os⟩) :
    codeAny (model P w) A (.call (.ref fI) as) R ⟨h0.push (HandSPX.excO C t0), g, d, t, os⟩ := by
  have hl : us.length = ns.length := hA.1
  obtain ⟨oc, od, name, qual, params, r, scope, dV, kV, doc, pm, an, cda, ct, osl, cc, text, p0, p1, p2, p3, p4, p5, ar, j, ccl, cdd, vs, ccs, file, tf, cl, cld, csl, lk, hcd, hst, hpar, har, hk, hco, hgen, hcell, hks, hkc, hloc, hb, lcd, hvs, hfile, lcc, hline⟩ := F.ex
  have kp : ∀ b o, h0.get? b = some o → (h0.push (HandSPX.excO C t0)).get? b = some o := fun b o e => Heap.get?_push_of_some _ e
  have hx : (h0.push (HandSPX.excO C t0)).get? h0.objs.size = some (excObj C t0 none .none) := Heap.get?_push_size h0 rfl
  have sz : (h0.push (HandSPX.excO C t0)).objs.size = h0.objs.size + 1 := Heap.size_push _ _
  generalize hhs : h0.push (HandSPX.excO C t0) = hs at kp hx sz
  have hx0n : h0.get? h0.objs.size = none := by
    cases q : h0.get? h0.objs.size with
    | none => rfl
    | some o => exact absurd (Heap.lt_size q) (Nat.lt_irrefl _)
  have hlocb : ∀ y ∈ (("self" : Str), Value.ref h0.objs.size) :: ns.zip us, scope.names.lookup y.1 = some .local := fun y hy => by
    rcases List.mem_cons.mp hy with rfl | hy
    · exact hloc _ List.mem_cons_self
    · exact hloc _ (List.mem_cons_of_mem _ (List.of_mem_zip hy).1)
  refine ks_codeAny_call_defAt (fd := ksFn name qual params (.Expr (.Call (.Attribute (.Call (.Name "super" p0) [] [] p1) "__init__" p2) [.Constant (.str text) j p3] [] p4) p5 :: r) scope dV kV doc pm an (.ref cda) ct cc) (binds := (("self" : Str), Value.ref h0.objs.size) :: ns.zip us) hroom ((X.keeps kp) _ _ lk) rfl (lim.keeps kp) (codeRec_of (X.keeps kp) hcd) rfl (hb as _ us _ hA) hcell hlocb (fun h1 hns hk1 => ?_) hco hgen hk
  have hk1 : ∀ b o, hs.get? b = some o → h1.get? b = some o := hk1
  have hns : h1.Ns hs.objs.size _ := hns
  have hns0 := hns
  generalize hmm : (fun y => ((("self" : Str), Value.ref h0.objs.size) :: ns.zip us).reverse.lookup y) = m at hns
  have ndl : ((((("self" : Str), Value.ref h0.objs.size) :: ns.zip us).reverse).map (·.1)).Nodup := by
    rw [List.map_reverse]
    refine (List.reverse_perm _).nodup_iff.mpr ?_
    rw [List.map_cons, map_zip hl]
    exact I.nd
  have ms : m ("self" : Str) = some (.ref h0.objs.size) := by
    rw [← hmm]
    exact lookup_nd ndl (by simp)
  have mn : ∀ q ∈ ns.zip us, m q.1 = some q.2 := fun q hq => by
    rw [← hmm]
    exact lookup_nd ndl (by simp [hq])
  clear hmm hns0
  have k01 : ∀ b o, h0.get? b = some o → h1.get? b = some o := fun b o e => hk1 b o (kp b o e)
  have L1 : hs.objs.size < h1.objs.size := hns.lt
  have xL : h0.objs.size ≠ hs.objs.size := by rw [sz]; exact Nat.ne_of_lt (Nat.lt_succ_self _)
  refine ks_wpAt_execs_cons (ks_wpAt_Expr_any (ks_wpAt_MethodCall ?_ (sup_call hline _)) (by unfold interactive; show ((scope.kind == .module) && _) = false; rw [hk]; rfl) rfl)
  obtain ⟨mg, hG, hmg⟩ := T.g
  obtain ⟨mb, hB, hmb⟩ := T.b
  refine sup_node (s := ⟨h1, g, d, _, os⟩) (C := C) (fI := fI) (x := h0.objs.size) (cc := cc) (cda := cda) (X.keeps k01) I.own hk hks hkc (hloc _ List.mem_cons_self) rfl rfl rfl rfl (by simp [callEnv, newEnv]) (k01 _ _ (X _ _ lk)) rfl hpar har (k01 _ _ (X _ _ lcd)) rfl hvs hfile T.top (hG.keeps k01) hmg (hB.keeps k01) hmb ⟨_, k01 _ _ (X _ _ lcc), rfl⟩ hns ms (hk1 _ _ hx) rfl (fun c z => by cases z) fun h2 e2 k2 => ?_
  have e2 : h2.get? h1.objs.size = _ := e2
  have k2 : ∀ y o, h1.get? y = some o → h2.get? y = some o := k2
  have k02 : ∀ b o, h0.get? b = some o → h2.get? b = some o := fun b o e => k2 b o (k01 b o e)
  have X2 : K.In h2 := X.keeps k02
  have hx2 : h2.get? h0.objs.size = some (excObj C t0 none .none) := k2 _ _ (hk1 _ _ hx)
  have I2 : InstAt h2 h0.objs.size (excObj C t0 none .none) C none := ⟨hx2, rfl, rfl, trivial⟩
  obtain ⟨cd, hcd2, hm2⟩ : ∃ cd, clsIn K C = some cd ∧ alongIn K "__init__" ((cd.mro.dropWhile (· != .ref C)).drop 1) = some (some (.builtin initId)) := by
    have := I.sup
    unfold ks_superIn at this
    cases q : clsIn K C with
    | none => rw [q] at this; cases this
    | some cd => rw [q] at this; exact ⟨cd, rfl, this⟩
  refine kxs_getMethod (h := h2) I.kf e2 (looks_opaque X2 I.opq) (l₀ := cd.mro) (fun A Q E s k q => wpAny_bind ((looks_clsIn X2 hcd2) A _ E s k (wpAny_pure q))) rfl X2 hm2 (I2.type.andThen (looks_subIn X2 I.sB)) (ks_ne X2 I2 hcd2) (by decide) ?_
  have k3 : ∀ b o, h2.get? b = some o → (h2.push (kxs_mw initId h0.objs.size)).get? b = some o := fun b o e => Heap.get?_push_of_some _ e
  have u3 : (h2.push (kxs_mw initId h0.objs.size)).get? h2.objs.size = some (kxs_mw initId h0.objs.size) := Heap.get?_push_size h2 rfl
  have lt2 : h1.objs.size < h2.objs.size := Heap.lt_size e2
  have xlt : h0.objs.size < h2.objs.size := Heap.lt_size hx2
  have Llt : hs.objs.size < h2.objs.size := Nat.lt_trans L1 lt2
  generalize hh3 : h2.push (kxs_mw initId h0.objs.size) = h3 at k3 u3
  have none0 : ∀ a : Addr, h0.objs.size ≤ a → h0.get? a = none := fun a ha => by
    cases q : h0.get? a with
    | none => rfl
    | some o => exact absurd (Nat.lt_of_lt_of_le (Heap.lt_size q) ha) (Nat.lt_irrefl _)
  have N3 : News h0 hs.objs.size h3 [(h2.objs.size, kxs_mw initId h0.objs.size), (h0.objs.size, excObj C t0 none .none)] := fun p hp => by
    simp only [List.mem_cons, List.not_mem_nil, or_false] at hp
    rcases hp with rfl | rfl
    · exact ⟨u3, Nat.ne_of_gt Llt, none0 _ (Nat.le_of_lt xlt)⟩
    · exact ⟨k3 _ _ hx2, xL, hx0n⟩
  have F3 : PyProof.Rows.Fr h0 hs.objs.size h3 m := ⟨(hns.keeps k2).keeps k3, fun b o e => k3 b o (k02 b o e), by rw [sz]; exact Nat.le_succ _⟩
  refine kxs_callWith1 (i := initId) (x := h0.objs.size) N3 List.mem_cons_self ?_ rfl rfl
  refine spliced_cons (Constant_str (k := j) (pos := p3) (spliced_nil ⟨u3, ?_⟩))
  refine kxs_call (B := B) (newId := newId) (bmB := bmB) (C := C) (t := t0) (dv := none) (c2 := .none) (nw := fun o' => [(h2.objs.size, kxs_mw initId h0.objs.size), (h0.objs.size, o')]) F3 X N3 I.fb I.ini List.mem_cons_self (.tail (Nat.ne_of_gt xlt) (.head (by simp))) (by rw [sizeLine_eq]; simp) fun t1 h4 F4 N4 _ => ?_
  have hx4 : h4.get? h0.objs.size = some (excObj C t1 none .none) := (N4 (h0.objs.size, excObj C t1 none .none) (by simp)).1
  refine wpAt_of_wpAny (sto_all (h0 := h0) (x := h0.objs.size) (t1 := t1) (L := hs.objs.size) (m := m) I X hk rfl (hloc _ List.mem_cons_self) ms xL (Nat.le_refl _) us [] _ hst hl (fun n hn => ⟨hn, hloc n (List.mem_cons_of_mem _ hn)⟩) mn (by simp; omega) F4.keep F4.ns F4.ns.lt (fun dx _ e => by rw [hx4] at e; cases e) (.inl ⟨rfl, hx4⟩) fun h5 tk k5 hh5 => ?_)
  exact hq h5 tk t1 k5 (by simpa using hh5)
end
end Bk
set_option Elab.async false
set_option linter.all false
set_option maxRecDepth 100000
set_option maxHeartbeats 4000000
set_option pp.maxSteps 800
namespace Bk
open PySem PySem.Spec PySem.Calls L2
namespace Xk
open PySem.HandSPX
section
variable {M : Model} {prog : Program} {w : World} {A : Around} {E : Value → Shared → Prop} {R : Result → Shared → Prop} {hp : Heap} {gs : Array GenState} {dr : Drawn} {tk : Nat} {os : OsState} {ps : List Value} {kw : List (Str × Value)}
variable {nm qn : Str} {C N : Addr} {bs bm bmB : List Value} {hd : Bool} {sn : List Str} {sub : List Value} {ab : Bool} {col : Option Bool} {dd : Option Addr} {k0 k1 k2 k3 k5 : Option Value} {B newId initId : String}
theorem chk_new (F : ExcBaseFacts B newId initId bmB) (same : ∀ X : String, bm.contains (.type X) = bmB.contains (.type X)) {Q : Unit → Shared → Prop} (cls : hp.get? C = some (excClassObj nm qn C N bs bm hd sn sub ab col dd k0 k1 k2 k3 k5 newId)) (q : Q () ⟨hp, gs, dr, tk, os⟩) :
    wpAny M A (checkBuiltinCall newId ⟨.ref C :: ps, kw⟩) Q E ⟨hp, gs, dr, tk, os⟩ := by
  have isB : (Value.ref C :: bm).contains (.type B) = true := by rw [List.contains_cons, same, F.hasB, Bool.or_true]
  have st := F.noStar
  simp only [checkBuiltinCall, F.newKind, F.newSplit, F.newRow]
  repeat (first | refine wpAny_loadPart_at cls ?_ | (refine wpAny_isSubtype_exc cls ?_; rw [isB]) | refine wpAny_staticBase_exc cls ?_ | refine wpAny_madeBy_exc cls ?_ | simp only [bne_self_eq_false, Bool.false_eq_true, if_false] | wp_step)
  exact q
theorem chk_call {Q : Unit → Shared → Prop} (cls : hp.get? C = some (excClassObj nm qn C N bs bm hd sn sub ab col dd k0 k1 k2 k3 k5 newId)) (q : Q () ⟨hp, gs, dr, tk, os⟩) : wpAny M A (checkBuiltinCall "type.__call__" ⟨.ref C :: ps, kw⟩) Q E ⟨hp, gs, dr, tk, os⟩ := by
  have f3 := tc_sub
  have ty : (⟨hp, gs, dr, tk, os⟩ : Shared).TypeIs (.ref C) "type" := ⟨_, cls, rfl⟩
  simp only [checkBuiltinCall, tc_kind, tc_split]
  repeat (any_goals (first | assumption | with_reducible refine wpAny_loadPart_at cls ?_ | with_reducible refine wpAny_onRaise ?_ | with_reducible refine wpAny_map ?_ | wp_step))
theorem run_new (F : ExcBaseFacts B newId initId bmB) (same : ∀ X : String, bm.contains (.type X) = bmB.contains (.type X)) (cls : hp.get? C = some (excClassObj nm qn C N bs bm hd sn sub ab col dd k0 k1 k2 k3 k5 newId))
    (q : R (.ok (.ret (.ref (hp.objs.size + 1)))) ⟨(hp.push { cls := .type "tuple", data := .seq ps.toArray }).push { cls := .ref C, data := .fields #[.ref hp.objs.size, .none, .none, .none, .bool false, .none] }, gs, dr, tk, os⟩) (few : ps.length ≤ sizeLine) :
    codeAny (model prog w) A (.builtin newId ⟨.ref C :: ps, kw⟩) R ⟨hp, gs, dr, tk, os⟩ := by
  have ends := F.ends
  have isB : (Value.ref C :: bm).contains (.type B) = true := by rw [List.contains_cons, same, F.hasB, Bool.or_true]
  have noA : (Value.ref C :: bm).contains (.type "AttributeError") = false := by rw [List.contains_cons, same, F.noAttr]; rfl
  have noN : (Value.ref C :: bm).contains (.type "NameError") = false := by rw [List.contains_cons, same, F.noName]; rfl
  refine codeAny_builtinAt F.entry ?_
  unfold Builtin.«BaseException.__new__»
  refine wpAt_bind ?_
  show wpAt _ _ _ (stack >>= _) _ _ _
  refine wpAt_bind (wpAt_stack fun p below => wpAt_of_wpAny ?_)
  wp_walk
  refine wpAt_of_wpAny ?_
  rw [F.owner]
  repeat (first | with_reducible refine wpAny_madeHere_exc F.canon cls ?_ | with_reducible refine wpAny_loadPart_at cls ?_ | (with_reducible refine wpAny_isSubtype_exc cls ?_; first | rw [isB] | rw [noA] | rw [noN]) | wp_step)
  show R _ _
  rw [Heap.size_push]
  exact q
theorem run_call (F : ExcBaseFacts B newId initId bmB) (same : ∀ X : String, bm.contains (.type X) = bmB.contains (.type X)) {fI : Addr} {Q : _root_.PySem.Fin → Shared → Prop} (cls : hp.get? C = some (excClassObj nm qn C N bs bm hd sn sub ab col dd k0 k1 k2 k3 k5 newId))
    (ini : PySem.W.Looks (model prog w) hp (typeLookup (.ref C) "__init__") (some (.ref fI))) (bnd : ∀ self, PySem.W.Looks (model prog w) hp (bindSpecial (.ref fI) self) (.ref fI, [self])) (few : ps.length ≤ sizeLine)
    (q : codeAny (model prog w) A (.call (.ref fI) ⟨.ref (hp.objs.size + 1) :: ps, kw⟩) (fun r s' => match r with | .ok (.ret v) => v = .none ∧ Q (.done (.ret (.ref (hp.objs.size + 1)))) s' | .ok _ => False | .error e => E e s') ⟨(hp.push (PySem.W.kdv_tup ps)).push (excO C hp.objs.size), gs, dr, tk, os⟩) :
    wpAny (model prog w) A (Builtin.«type.__call__» ⟨.ref C :: ps, kw⟩) Q E ⟨hp, gs, dr, tk, os⟩ := by
  repeat (first | with_reducible refine wpAny_loadPart_at cls ?_ | with_reducible refine wpAny_madeBy_exc cls ?_ | wp_step)
  refine codeAny_call_builtin_code (Code.quiet_builtin _ F.quiet) (chk_new F same cls ?_)
  refine run_new F same cls ?_ few
  show wpAny _ _ _ _ _ _
  have up : ∀ b o, hp.get? b = some o → ((hp.push (PySem.W.kdv_tup ps)).push (excO C hp.objs.size)).get? b = some o := fun b o e => Heap.get?_push_of_some _ (Heap.get?_push_of_some _ e)
  have cls2 := up _ _ cls
  have it : ((hp.push (PySem.W.kdv_tup ps)).push (excO C hp.objs.size)).get? (hp.objs.size + 1) = some (excO C hp.objs.size) := by heap_get
  have own : (Value.ref C :: bm).contains (.ref C) = true := by rw [List.contains_cons, beq_self_eq_true, Bool.true_or]
  have i2 := ini.keeps up
  have b2 := (bnd (.ref (hp.objs.size + 1))).keeps up
  unfold isInstance
  repeat (first | with_reducible refine wpAny_loadPart_at it ?_ | (with_reducible refine wpAny_isSubtype_exc cls2 ?_; rw [own]) | wp_step)
  show wpAny _ _ (typeLookup (.ref C) _) _ _ _
  refine i2.at ?_
  refine wpAny_holding (wpAny_bind (b2.at ?_))
  refine wpAny_bind (wpAny_call (codeAny_mono q fun r s' z => ?_))
  rcases r with e | (v | _ | _ | _) <;> first | exact z | exact z.elim | skip
  obtain ⟨rfl, z⟩ := z
  first
    | exact wpAny_pure (wpAny_pure z)
    | (wp_walk; exact z)
theorem call_kw (F : ExcBaseFacts B newId initId bmB) (same : ∀ X : String, bm.contains (.type X) = bmB.contains (.type X)) {fI : Addr} (cls : hp.get? C = some (excClassObj nm qn C N bs bm hd sn sub ab col dd k0 k1 k2 k3 k5 newId))
    (ini : PySem.W.Looks (model prog w) hp (typeLookup (.ref C) "__init__") (some (.ref fI))) (bnd : ∀ self, PySem.W.Looks (model prog w) hp (bindSpecial (.ref fI) self) (.ref fI, [self])) (few : ps.length ≤ sizeLine)
    (q : codeAny (model prog w) (A.under (.builtin "type.__call__" ⟨.ref C :: ps, kw⟩)) (.call (.ref fI) ⟨.ref (hp.objs.size + 1) :: ps, kw⟩) (PySem.W.InitBack (hp.objs.size + 1) R) ⟨(hp.push (PySem.W.kdv_tup ps)).push (excO C hp.objs.size), gs, dr, tk, os⟩) :
    codeAny (model prog w) A (.call (.ref C) ⟨ps, kw⟩) R ⟨hp, gs, dr, tk, os⟩ := by
  have f1 := tc_lookup
  have f2 := tc_bind (.ref C)
  have ty : (⟨hp, gs, dr, tk, os⟩ : Shared).TypeIs (.ref C) "type" := ⟨_, cls, rfl⟩
  refine codeAny_of_tree ?_
  show wpAny _ _ (callAny (.ref C) _) _ _ _
  repeat (any_goals (first | assumption | with_reducible refine wpAny_loadPart_at cls ?_ | wp_step))
  refine ⟨rfl, ?_⟩
  refine codeAny_call_builtin_at (Code.quiet_builtin _ (by decide +kernel)) entry_typeCall (chk_call cls (run_call F same cls ini bnd few ?_))
  refine codeAny_mono q fun r s' z => ?_
  rcases r with e | (v | _ | _ | _) <;> exact z
end
end Xk
end Bk
set_option Elab.async false
set_option linter.all false
set_option maxRecDepth 100000
set_option maxHeartbeats 4000000
set_option pp.maxSteps 600
namespace Bk
open PySem PySem.Spec PyProof.Rows L2
structure XcOk (P : Program) (K : PySem.W.Frag) (C : Addr) (ns : List Str) : Prop where
  ex : ∃ fI B newId initId bmB, IniC K C fI ns B newId initId bmB ∧ IniFn P K C fI ns
  kC : PySem.W.keepIn K (.ref C) = true
  exC : PySem.W.subIn K (.ref C) (.type "BaseException") = some true
  tyC : PySem.W.typeIn K (.ref C) = some (.type "type")
  len : 1 ≤ ns.length ∧ ns.length ≤ 50
  nd : ns.Nodup
  top : (P.main.scope.names.lookup ("super" : Str)).isSome = false
  mg : PySem.W.nsIn K mainGlobals ("super" : Str) = some none
theorem rel_zip : ∀ {ns : List Str} {vs : List V} {us : List Value} {fs : List (Str × V)} {gs : List (Str × Value)}, Vals vs us → (∀ y, RelO (fs.lookup y) (gs.lookup y)) → ∀ y, RelO (((ns.zip vs).reverse ++ fs).lookup y) (((ns.zip us).reverse ++ gs).lookup y)
  | [], _, _, _, _, _, r, y => by simpa using r y
  | n :: ns, _, _, fs, gs, .nil, r, y => by simpa using r y
  | n :: ns, v :: vs, u :: us, fs, gs, .cons h t, r, y => by
    simp only [List.zip_cons_cons, List.reverse_cons, List.append_assoc, List.singleton_append]
    refine rel_zip t (fun y => ?_) y
    rw [show ((n, v) :: fs).lookup y = (fun y => ((n, v) :: fs).lookup y) y from rfl, lookup_cons', show ((n, u) :: gs).lookup y = (fun y => ((n, u) :: gs).lookup y) y from rfl, lookup_cons']
    simp only
    by_cases e : y = n
    · rw [if_pos e, if_pos e]; exact h
    · rw [if_neg e, if_neg e]; exact r y
def tMkX (C : Addr) (ns : List Str) (ta : TA) : L2.St → Hp → XK → Prop := fun σ H Q => ta σ H fun vs H1 => vs.length = ns.length ∧ ∀ d, H1 d = none → Q (.ref C) (some d) (upd H1 d (.xd (ns.zip vs).reverse))
theorem pick_both {vs : List V} {us : List Value} (h : Vals vs us) : ∀ {ix : List Pik} {ys : List V}, PickX vs ix ys → ∃ zs, PickV us ix zs ∧ Vals ys zs
  | _, _, .nil => ⟨[], .nil, .nil⟩
  | _, _, .at (i := i) e t => by
    obtain ⟨zs, q1, q2⟩ := pick_both h t
    have hl : i < us.length := by rw [← h.length]; exact (List.getElem?_eq_some_iff.mp e).1
    have e2 : us[i]? = some us[i] := List.getElem?_eq_getElem hl
    exact ⟨_, .at e2 q1, .cons (vals_get h e e2) q2⟩
  | _, _, .cst (b := b) t => by
    obtain ⟨zs, q1, q2⟩ := pick_both h t
    exact ⟨_, .cst q1, .cons (by cases b with | none => rfl | some b => rfl) q2⟩
def tMkXk (C : Addr) (ns ks : List Str) (ix : List Pik) (tk : TA) : L2.St → Hp → XK → Prop := fun σ H Q => tk σ H fun zs H1 => zs.length = ks.length ∧ ∃ vs, PickX zs ix vs ∧ vs.length = ns.length ∧ ∀ d, H1 d = none → Q (.ref C) (some d) (upd H1 d (.xd (ns.zip vs).reverse))
theorem mk_core {X : Cx} {C : Addr} {ns : List Str} (T : XcOk X.prog X.K C ns) (hr : Room 1 X.A) {pins : List (Addr × Obj)} {σ : L2.St} {H1 : Hp} {Q : XK} {s1 : Shared} {ps us : List Value} {kw : List (Str × Value)} {vs : List V} (I1 : L2.Inv X pins σ H1 s1) (r1 : Vals vs us) (hl : vs.length = ns.length) (hA : ∀ x, ArgX ns ⟨x :: ps, kw⟩ x us) (hps : ps.length ≤ 50)
    (q1 : ∀ d, H1 d = none → Q (.ref C) (some d) (upd H1 d (.xd (ns.zip vs).reverse))) : wpAny (model X.prog X.w) X.A (call (.ref C) ps kw) (MkP X pins σ Q) X.xe s1 := by
  obtain ⟨fI, B, newId, initId, bmB, ic, fn⟩ := T.ex
  obtain ⟨hp, g, dr, tk, os⟩ := s1
  have hlu : us.length = ns.length := by rw [← Paired.length r1, hl]
  obtain ⟨nm, N, qn, bs, bm, hdct, sn, sub, ab, col, dd, k0, k1, k2, k3, k5, hC, hT⟩ := PySem.W.excInit_of I1.kIn ic.ini
  have kp : ∀ b o, hp.get? b = some o → (hp.push (PySem.W.kdv_tup ps)).get? b = some o := fun b o e => Heap.get?_push_of_some _ e
  have sz : (hp.push (PySem.W.kdv_tup ps)).objs.size = hp.objs.size + 1 := Heap.size_push _ _
  have tf : TopF X.prog hp := ⟨T.top, ⟨X.mg, I1.mod.glob.keeps I1.bk, PySem.W.mg_none_of I1.mod.kin I1.mod.glob T.mg⟩, by
    obtain ⟨mb, h1, h2⟩ := I1.mod.blt
    exact ⟨mb, h1.keeps I1.bk, (h2 _ (by decide)).trans (by decide +kernel)⟩⟩
  refine wpAny_call (Xk.call_kw ic.fb hT hC (PySem.W.looks_findIn I1.kIn ic.ic) (fun self => PySem.W.bind_fn I1.kIn self ic.ft) (by rw [sizeLine_eq]; omega) ?_)
  have run := ini_run (w := X.w) (A := X.A.under (.builtin "type.__call__" ⟨.ref C :: ps, kw⟩)) (R := PySem.W.InitBack (hp.objs.size + 1) (fun r s' => match r with | .ok (.ret v) => MkP X pins σ Q v s' | .ok _ => False | .error e => X.xe e s')) (h0 := hp.push (PySem.W.kdv_tup ps)) (t0 := hp.objs.size) (us := us) (g := g) (d := dr) (t := tk) (os := os) ic fn (I1.kIn.keeps kp) (I1.nolimit.keeps kp) (tf.keeps kp) (by rw [make_depth]; have := hr.dp; omega) (hA _) T.len.2 (fun h' tk' t1 k' hh => ?_)
  · rw [sz] at run
    exact run
  · rw [sz] at hh
    rcases hh with ⟨e0, _⟩ | ⟨dx, hlt, hx, hns⟩
    · have : (ns.zip us).length = 0 := by rw [e0]; rfl
      rw [List.length_zip] at this
      have := T.len.1
      omega
    refine ⟨rfl, ?_⟩
    obtain ⟨G, g1', g2'⟩ := restrict h' fun b => decide (b ≠ hp.objs.size + 1)
    have gk : ∀ b, b ≠ hp.objs.size + 1 → G.get? b = h'.get? b := fun b hb => g1' b (decide_eq_true hb)
    have ge : G.get? (hp.objs.size + 1) = none := g2' _ (by simp)
    have hdne : dx ≠ hp.objs.size + 1 := Nat.ne_of_gt hlt
    have hdge : hp.objs.size ≤ dx := Nat.le_of_lt (Nat.lt_trans (Nat.lt_succ_self _) hlt)
    have kG : ∀ b o, hp.get? b = some o → G.get? b = some o := fun b o e => by
      rw [gk b (Nat.ne_of_lt (Nat.lt_trans (Heap.lt_size e) (Nat.lt_succ_self _)))]
      exact k' b o (kp b o e)
    have J : L2.Inv X pins σ (upd H1 dx (.xd (ns.zip vs).reverse)) ⟨G, g, dr, tk', os⟩ := I1.laid (t' := tk') (a := dx) (o := .xd (ns.zip vs).reverse) (h' := G) kG hdge ⟨_, hns.at fun o y => (gk dx hdne).trans y, fun y => by
      have := rel_zip (ns := ns) (fs := []) (gs := []) r1 (fun _ => True.intro) y
      simpa using this⟩
    have na : upd H1 dx (.xd (ns.zip vs).reverse) (hp.objs.size + 1) = none := by
      rw [upd_ne (Ne.symm hdne)]
      exact I1.hok.fresh (Nat.le_succ _)
    refine ⟨hp.objs.size + 1, _, _, ⟨G, g, dr, tk', os⟩, _, .ref C, some dx, rfl, J, fun b o z => ?_, ge, hx, ⟨rfl, rfl⟩, rfl, rfl, na, rfl, I1.bare, raises_own T.exC T.tyC, q1 dx (I1.hok.fresh hdge)⟩
    by_cases hb : b = hp.objs.size + 1
    · rw [hb, ge] at z; cases z
    · rw [← gk b hb]; exact z
theorem pmk_x {X : Cx} {x : Str} {C : Addr} {ns : List Str} {e : Expr} {es : List Expr} {ta : TA} {p pos : Pos} (T : XcOk X.prog X.K C ns) (hr : Room 1 X.A) (hg : Gl X x) (hm : X.mg x = some (.ref C)) (ha : PA X (e :: es) ta)
    (hdb : (x == ("__debug__" : Str)) = false) (he : starEach (e :: es) X.env = (false, eval e X.env) :: starEach es X.env) (hpl : (backTo pos (starEach es X.env)).any (·.1) = false) :
    PMk X (.Call (.Name x p) (e :: es) [] pos) (tMkX C ns ta) := by
  intro pins s σ H Q I h
  refine wpAny_Call_Name_kw (ld_glob I hg hm ?_ hdb)
  refine PySem.W.callWith_K (h₀ := X.base) I.ok.mod.kin T.kC (thn (ha.run pos pins s σ H _ I h) fun us s1 ⟨vs, H1, I1, r1, hl, q1⟩ => ⟨I1.kIn, ?_⟩) he hpl
  have hlu : us.length = ns.length := by rw [← Paired.length r1, hl]
  show wpAny _ _ (call (.ref C) us) _ _ _
  exact mk_core T hr I1 r1 hl (fun _ => ⟨hlu, .inl rfl⟩) (by rw [hlu]; exact T.len.2) q1
theorem pmk_xk {X : Cx} {x : Str} {C : Addr} {ns ks : List Str} {ix : List Pik} {kws : List Keyword} {tk : TA} {p pos : Pos} (T : XcOk X.prog X.K C ns) (hw : (ks, ix) ∈ kwsOf ns) (hr : Room 1 X.A) (hg : Gl X x) (hm : X.mg x = some (.ref C))
    (hkw : PK X kws tk) (hall : (backToKw pos (keywordEach kws X.env)).all (·.1.isSome) = true) (hks : (backToKw pos (keywordEach kws X.env)).filterMap (·.1) = ks)
    (hdb : (x == ("__debug__" : Str)) = false) (hpl : (backToKw pos (keywordEach kws X.env)).any (·.1.isNone) = false) :
    PMk X (.Call (.Name x p) [] kws pos) (tMkXk C ns ks ix tk) := by
  intro pins s σ H Q I h
  refine wpAny_Call_Name_kw (ld_glob I hg hm ?_ hdb)
  refine PySem.W.callWith_KW0 (h₀ := X.base) I.ok.mod.kin T.kC hall ?_ (by show (false || _) = false; rw [hpl]; rfl)
  refine thn (hkw.run pos pins s σ H _ I h) fun ws s2 ⟨zs, H2, I2, rz, l1, vs, pk, l2, q2⟩ => ⟨I2.kIn, ?_⟩
  rw [hks]
  obtain ⟨us, pv, ru⟩ := pick_both rz pk
  have hlu : us.length = ns.length := by rw [← Paired.length ru, l2]
  show wpAny _ _ (call (.ref C) [] (ks.zip ws)) _ _ _
  exact mk_core T hr I2 ru l2 (fun _ => ⟨hlu, .inr ⟨(ks, ix), hw, ws, by rw [← rz.length, l1], rfl, pv⟩⟩) (Nat.zero_le _) q2
end Bk
set_option Elab.async false
set_option linter.all false
set_option maxRecDepth 100000
set_option maxHeartbeats 4000000
set_option pp.maxSteps 800
namespace Bk
open PySem PySem.Spec PyProof.Rows L2 LamX
inductive LPar : Arguments → List Str → Prop where
  | zero : LPar ⟨[], [], none, [], [], none, []⟩ []
  | one {y : Str} {p q : Pos} {i : Int} {j : Nat} (hy : y = "_law_y" ∨ y = "_law_x" ∨ y = "_law_k") : LPar ⟨[], [⟨y, none, p⟩], none, [], [], none, [.Constant (.int i) j q]⟩ [y]
structure LamQ (N : List Str) (sc scope : Scope) (ys : List Str) : Prop where
  kind : scope.kind = .function
  co : scope.isCoroutine = false
  gen : scope.isGenerator = false
  nc : ∀ z ∈ scope.names, z.2 ≠ .cell
  loc : ∀ z ∈ scope.names, z.2 = .local → z.1 ∉ N
  par : ∀ y ∈ ys, scope.names.lookup y = some .local
  free : ∀ z ∈ scope.names, z.2 = .free → sc.names.lookup z.1 = some .cell ∨ sc.names.lookup z.1 = some .free
theorem LamQ.has {X : Cx} {N : List Str} {scope : Scope} {ys : List Str} (L : LamQ N X.env.scope scope ys) (ok : X.Ok) : ∀ z ∈ scope.names, z.2 = .free → ∃ c, X.env.cells.lookup z.1 = some c := fun z hz e => by
  rcases L.free z hz e with k | k
  · exact ok.has _ (.inl k)
  · exact ok.has _ (.inr k)
/-- the function that a lambda made -/
structure LamAt (X : Cx) (params : Arguments) (body : Expr) (scope : Scope) (f c' : Addr) (H : Hp) (s : Shared) : Prop where
  ex : ∃ (pm ctv doc dV : Value), s.heap.get? f = some (PySem.W.kdv_obj "<lambda>" (X.env.qual ++ "<lambda>") params (.expr body) scope (cloFrom X.env.cells scope.names []) dV doc pm c' ctv) ∧
    ((dV = .none ∧ params.defaults = []) ∨ ∃ (T : Addr) (v : Value), dV = .ref T ∧ params.defaults ≠ [] ∧ s.heap.get? T = some (PySem.W.kdv_tup [v]) ∧ H T = none ∧ T ∉ frs X.stack)
  hn : H f = none
  hf : f ∉ frs X.stack
  code : H c' = some (CodeO c' (X.env.qual ++ "<lambda>"))
section
variable {X : Cx} {pins : List (Addr × Obj)} {σ : L2.St} {H : Hp} {s : Shared}
theorem no_frame (I : L2.Inv X pins σ H s) {f : Addr} (hf : s.heap.objs.size ≤ f) : f ∉ frs X.stack := fun z => by
  rcases List.mem_cons.mp (I.stkSub _ z) with e | e
  · have h1 := I.lt
    rw [← e] at h1
    exact Nat.lt_irrefl _ (Nat.lt_of_lt_of_le h1 hf)
  · exact I.nofs hf e
/-- no further table -/
def TIn (H H1 : Hp) : Prop := ∀ b ps, H1 b = some (.tbl ps) → ∃ ps', H b = some (.tbl ps')
theorem TIn.refl (H : Hp) : TIn H H := fun b ps e => ⟨ps, e⟩
theorem lam_tail {T : List (Addr × Str)} {c P : Addr} {params : Arguments} {dV : Value} {body : Expr} {scope : Scope} {pos : Pos} {ln : Nat} {E : Value → Shared → Prop} {Q : Value → Shared → Prop} (I : L2.Inv X pins σ H s) (TB : TabB X.base X.mg c P) (hcode : X.env.code = .ref c)
    (hm : (P, X.env.qual ++ "<lambda>") ∈ T) (hu : ∀ p ∈ T, p.1 = P → p.2 = X.env.qual ++ "<lambda>") (hT : Tabs T H) (hfree : ∀ y ∈ scope.names, y.2 = .free → ∃ c, X.env.cells.lookup y.1 = some c)
    (h : ∀ (f c' : Addr) (pm ctv doc : Value) (H1 : Hp) (s' : Shared), L2.Inv X pins σ H1 s' → ExtN H H1 → TIn H H1 → Tabs T H1 → s'.heap.get? f = some (PySem.W.kdv_obj "<lambda>" (X.env.qual ++ "<lambda>") params (.expr body) scope (cloFrom X.env.cells scope.names []) dV doc pm c' ctv) →
      H1 f = none → f ∉ frs X.stack → H1 c' = some (CodeO c' (X.env.qual ++ "<lambda>")) → (∀ b o, H b = none → s.heap.get? b = some o → s'.heap.get? b = some o ∧ H1 b = none) → Q (.ref f) s') :
    wpAny (model X.prog X.w) X.A (makeTail "<lambda>" (X.env.qual ++ "<lambda>") params (.expr body) scope X.env dV .none none pos ln) Q E s := by
  obtain ⟨ps, hP, ht, ha⟩ := hT _ hm
  have bP : s.heap.BuiltinsAt X.mg P := TB.bm.keeps I.bk
  have hP' : s.heap.get? P = some { cls := .none, data := .fields ps } := I.hok P _ hP
  cases hc : codeAmong pos ps.toList with
  | none =>
    refine PySem.W.kdv_makeTail (mg := X.mg) (c := c) (P := P) (ps := ps) (closure_ok hfree) I.ok.glob (I.mod.glob.keeps I.bk) hcode (TB.code.keeps I.bk) hP' ht hc TB.gP bP fun c' ctv doc h' tk hx hge hlt hrec htb => ?_
    obtain ⟨c2, oc, vs, tt, e2, hoc, hd, hvq⟩ := hrec
    cases e2
    have hsz : s.heap.objs.size ≤ h'.objs.size := Nat.le_trans hge (Nat.le_of_lt hlt)
    have nC : H c' = none := I.hok.fresh hge
    have I1 := inv_table (t' := tk) (more := #[rawInt pos.line, rawInt pos.col, .ref c']) (h' := h'.push (PySem.W.kdv_obj "<lambda>" (X.env.qual ++ "<lambda>") params (.expr body) scope (cloFrom X.env.cells scope.names []) dV doc ((X.mg "__name__").getD .none) c' ctv)) I hP
      (fun b o hb e => Heap.get?_push_of_some _ (hx b o hb e)) (Heap.get?_push_of_some _ htb) hge ⟨oc, vs, tt, Heap.get?_push_of_some _ hoc, hd, hvq⟩
    have hE : ExtN H (upd (upd H P (.tbl (ps ++ #[rawInt pos.line, rawInt pos.col, .ref c']))) c' (CodeO c' (X.env.qual ++ "<lambda>"))) := fun b o e n => by
      rw [upd_ne (ne_of_none e nC), upd_ne (fun z => n ps (Option.some.inj (e.symm.trans (by rw [z]; exact hP))))]
      exact e
    have hI : TIn H (upd (upd H P (.tbl (ps ++ #[rawInt pos.line, rawInt pos.col, .ref c']))) c' (CodeO c' (X.env.qual ++ "<lambda>"))) := fun b ps' e => by
      by_cases z1 : b = c'
      · rw [z1, upd_same] at e
        exact absurd (Option.some.inj e) (codeO_ne _)
      · by_cases z2 : b = P
        · exact ⟨ps, by rw [z2]; exact hP⟩
        · rw [upd_ne z1, upd_ne z2] at e
          exact ⟨ps', e⟩
    have eL : (ps ++ #[rawInt pos.line, rawInt pos.col, .ref c']).toList = ps.toList ++ [rawInt pos.line, rawInt pos.col, .ref c'] := by simp
    refine h h'.objs.size c' _ _ _ _ _ I1 hE hI (fun r hr => ?_) (Heap.get?_push_size _ rfl) ?_ (no_frame I hsz) upd_same fun b o n e => ?_
    · by_cases hb : r.1 = P
      · rw [hu r hr hb, hb]
        refine ⟨_, by rw [upd_ne (ne_of_none hP nC), upd_same], by rw [eL]; exact PySem.TriplesOk_snoc _ _ _ _ ht, fun p' cv hcv => ?_⟩
        rw [eL] at hcv
        rcases among_app _ ht hcv with z | z
        · obtain ⟨c0, e1, e2⟩ := ha p' cv z
          exact ⟨c0, e1, hE _ _ e2 codeO_ne⟩
        · exact ⟨c', z, upd_same⟩
      · obtain ⟨ps', a1, a2, a3⟩ := hT r hr
        refine ⟨ps', by rw [upd_ne (ne_of_none a1 nC), upd_ne hb]; exact a1, a2, fun p' cv hcv => ?_⟩
        obtain ⟨c0, e1, e2⟩ := a3 p' cv hcv
        exact ⟨c0, e1, hE _ _ e2 codeO_ne⟩
    · have n1 : h'.objs.size ≠ c' := Nat.ne_of_gt hlt
      have n2 : h'.objs.size ≠ P := Nat.ne_of_gt (Nat.lt_of_lt_of_le (Heap.lt_size hP') hsz)
      rw [upd_ne n1, upd_ne n2]
      exact I.hok.fresh hsz
    · have nbP : b ≠ P := fun z => by rw [z, hP] at n; cases n
      have nbc : b ≠ c' := Nat.ne_of_lt (Nat.lt_of_lt_of_le (Heap.lt_size e) hge)
      exact ⟨Heap.get?_push_of_some _ (hx b o nbP e), by rw [upd_ne nbc, upd_ne nbP]; exact n⟩
  | some cv =>
    obtain ⟨c', e, hco⟩ := ha pos cv hc
    subst e
    refine PySem.W.kdv_makeTailHit (mg := X.mg) (c := c) (P := P) (ps := ps) (closure_ok hfree) I.ok.glob (I.mod.glob.keeps I.bk) hcode (TB.code.keeps I.bk) hP' ht hc bP fun ctv doc h' tk hx hsz => ?_
    exact h h'.objs.size c' _ _ _ H _ (I.kept (t' := tk) fun b o e => Heap.get?_push_of_some _ (hx b o e)) (ExtN.refl H) (TIn.refl H) hT (Heap.get?_push_size _ rfl) (I.hok.fresh hsz) (no_frame I hsz) hco fun b o n e => ⟨Heap.get?_push_of_some _ (hx b o e), n⟩
theorem lam_mk {T : List (Addr × Str)} {c P : Addr} {params : Arguments} {ys : List Str} {body : Expr} {scope : Scope} {pos : Pos} {E : Value → Shared → Prop} {Q : Value → Shared → Prop} (I : L2.Inv X pins σ H s) (TB : TabB X.base X.mg c P) (hcode : X.env.code = .ref c)
    (hm : (P, X.env.qual ++ "<lambda>") ∈ T) (hu : ∀ p ∈ T, p.1 = P → p.2 = X.env.qual ++ "<lambda>") (hT : Tabs T H) (hp : LPar params ys) (hfree : ∀ y ∈ scope.names, y.2 = .free → ∃ c, X.env.cells.lookup y.1 = some c)
    (h : ∀ (f c' : Addr) (H1 : Hp) (s' : Shared), L2.Inv X pins σ H1 s' → ExtN H H1 → TIn H H1 → Tabs T H1 → LamAt X params body scope f c' H1 s' → Q (.ref f) s') :
    wpAny (model X.prog X.w) X.A (eval (.Lambda params body scope pos) X.env) Q E s := by
  cases hp with
  | zero =>
    refine PySem.W.kla_eval rfl ?_
    rw [makeFunction_eq]
    simp only [List.zip_nil_right, List.filterMap_nil, List.isEmpty_nil, if_true, pure_bind]
    exact lam_tail I TB hcode hm hu hT hfree fun f c' pm ctv doc H1 s' I1 eN tI T1 hf hfn hfr hco _ => h f c' H1 s' I1 eN tI T1 ⟨⟨pm, ctv, doc, .none, hf, .inl ⟨rfl, rfl⟩⟩, hfn, hfr, hco⟩
  | @one y p q i j hy =>
    refine PySem.W.kdv_lam rfl rfl (PySem.W.kdv_all1 (wpAny_Constant_int (PySem.W.kdv_all0 ?_)))
    rw [makeFunction_eq]
    simp only [List.zip_nil_right, List.filterMap_nil, List.isEmpty_nil, if_true, pure_bind, List.isEmpty_cons, Bool.false_eq_true, if_false]
    refine wpAny_bind (wpAny_newTextTuple ?_)
    obtain ⟨hp, g, d, t, os⟩ := s
    simp only
    generalize hv : Value.int i _ = v
    have t0 : (hp.push (PySem.W.kdv_tup [v])).get? hp.objs.size = some (PySem.W.kdv_tup [v]) := Heap.get?_push_size hp rfl
    have nT : H hp.objs.size = none := I.hok.fresh (Nat.le_refl _)
    have fT := no_frame I (f := hp.objs.size) (Nat.le_refl _)
    refine lam_tail (I.kept fun b o e => Heap.get?_push_of_some _ e) TB hcode hm hu hT hfree fun f c' pm ctv doc H1 s' I1 eN tI T1 hf hfn hfr hco kk => h f c' H1 s' I1 eN tI T1 ⟨⟨pm, ctv, doc, _, hf, .inr ⟨hp.objs.size, v, rfl, (fun z => by cases z), (kk _ _ nT t0).1, (kk _ _ nT t0).2, fT⟩⟩, hfn, hfr, hco⟩
/-- the lambda's body begins -/
theorem lam_go {N : List Str} {ys : List Str} {s1 : Shared} {HZ : Hp} {A : Around} {outer : List Env} {E : XK} {scope : Scope} {f c' : Addr} {h1 : Heap} {tk : Nat} {m : Str → Option Value} (I : L2.Inv X pins σ H s) (hNN : X.N = N) (L : LamQ N X.env.scope scope ys) (e0 : Env0 X.prog X.w X.K X.mg X.base A outer s1 HZ) (hd : A.handled = none)
    (un : Un (frs X.stack) [] H HZ s.heap s1.heap) (hns : h1.Ns s1.heap.objs.size m) (kp : ∀ b o, s1.heap.get? b = some o → h1.get? b = some o) :
    L2.Inv (lamCx X A outer s1 HZ E scope f c') [] σ HZ { s1 with heap := h1, toks := tk } := by
  subst hNN
  have hfree := L.has I.ok
  have toX : ∀ {y : Str} {c : Addr}, (cloFrom X.env.cells scope.names []).lookup y = some c → X.env.cells.lookup y = some c := by
    intro y c e
    rcases cloFrom_mem (PySem.mem_of_lookup e) with z | ⟨z1, z2⟩
    · cases z
    · obtain ⟨c1, q⟩ := hfree _ z1 rfl
      have q : X.env.cells.lookup y = some c1 := q
      have : c = c1 := by rw [z2, q] <;> rfl
      rw [this]; exact q
  have ofFree : ∀ {y : Str}, scope.names.lookup y = some .free → ∃ c, (cloFrom X.env.cells scope.names []).lookup y = some c := by
    intro y e
    exact mem_lookup (cloFrom_has (cells := X.env.cells) (acc := []) (PySem.mem_of_lookup e))
  have cellH : ∀ {c : Addr} {v : Option Value}, H c = none → s.heap.IsCell c v → h1.IsCell c v := by
    rintro c v n ⟨o, ho, hdd⟩
    obtain ⟨sl, q⟩ := un.any ho n (by simp)
    exact ⟨_, kp _ _ q, hdd⟩
  have noEx : ∀ b : Addr, b ∉ (lamCx X A outer s1 HZ E scope f c').ex := fun b z => absurd (show b ∈ ([] : List Addr) from z) (by simp)
  have cellN : ∀ y, scope.names.lookup y ≠ some .cell := fun y z => L.nc _ (PySem.mem_of_lookup z) rfl
  constructor
  · refine ⟨e0.mod, L.kind, rfl, rfl, Nat.le_refl _, fun y z c e1 e2 => I.ok.inj y z c (toX e1) (toX e2), ?_, ?_, fun _ => hd, Around.frames_deeper e0.frames, .inr ⟨rfl, rfl⟩, fun b z => absurd z (noEx b), e0.bs, e0.bsz, fun b _ _ => noEx b, fun b z => absurd z (noEx b), e0.funs, e0.frf⟩
    · intro y hy
      have hy : scope.names.lookup y = some .cell ∨ scope.names.lookup y = some .free := hy
      rcases hy with hy | hy
      · exact absurd hy (cellN y)
      · exact ofFree hy
    · intro y c z _
      have z : false = true := z
      cases z
  · rfl
  · exact e0.bare
  · exact Un.kept kp
  · refine ⟨_, hns, fun i y v e1 e2 e3 => ?_⟩
    have e3 : Vis scope y := e3
    have e1 : X.N[i]? = some y := e1
    rcases e3 with k | k | k
    · exact absurd (List.mem_of_getElem? e1) (L.loc _ (PySem.mem_of_lookup k) rfl)
    · exact absurd k (cellN y)
    · obtain ⟨mm, hn, hl⟩ := I.loc
      have hvis : Vis X.env.scope y := (L.free _ (PySem.mem_of_lookup k) rfl).elim (fun k => .inr (.inl k)) (fun k => .inr (.inr k))
      obtain ⟨w', r, q⟩ := hl i y v e1 e2 hvis
      obtain ⟨c2, h2⟩ := ofFree k
      refine ⟨w', r, .inr ⟨.inr k, c2, h2, ?_⟩⟩
      have c1 := toX h2
      rcases q with ⟨k', _⟩ | ⟨_, c3, e', z⟩
      · have k' : X.env.scope.names.lookup y = some .local := k'
        rcases L.free _ (PySem.mem_of_lookup k) rfl with k2 | k2
        · rw [show X.env.scope.names.lookup y = _ from k2] at k'; cases k'
        · rw [show X.env.scope.names.lookup y = _ from k2] at k'; cases k'
      · rw [c1] at e'
        cases e'
        exact cellH (I.freeC y _ c1) z
  · intro y c e
    obtain ⟨w', z⟩ := I.cell y c (toX e)
    exact ⟨w', cellH (I.freeC y c (toX e)) z⟩
  · exact e0.hok.fresh (Nat.le_refl _)
  · intro y c e
    obtain ⟨v, o, ho, hdd⟩ := I.cell y c (toX e)
    exact un.free c o ho (I.freeC y c (toX e)) (by simp)
  · intro q hq
    exact absurd (show q ∈ ([] : List (Addr × Obj)) ++ [] from hq) (by simp)
  · exact e0.hok.kept kp
  · exact I.len
/-- what the parameters get -/
theorem lam_binds {params : Arguments} {ys : List Str} {body : Expr} {scope : Scope} {q : Str} {cl : List (Str × Addr)} {dV doc pm cv ctv : Value} {s1 : Shared} (hp : LPar params ys) (hd : (dV = .none ∧ params.defaults = []) ∨ ∃ (T : Addr) (v : Value), dV = .ref T ∧ params.defaults ≠ [] ∧ s1.heap.get? T = some (PySem.W.kdv_tup [v])) :
    ∃ binds : List (Str × Value), BindsTo s1 (PySem.W.kdv_fn "<lambda>" q params (.expr body) scope cl dV doc pm cv ctv) ⟨[], []⟩ binds ∧ ∀ y ∈ binds, y.1 ∈ ys := by
  cases hp with
  | zero =>
    rcases hd with ⟨rfl, _⟩ | ⟨T, v, _, z, _⟩
    · exact ⟨[], BindsTo.of_eq rfl, fun y hy => by cases hy⟩
    · exact absurd rfl z
  | @one y p q' i j hy =>
    rcases hd with ⟨_, z⟩ | ⟨T, v, rfl, _, hT⟩
    · cases z
    · refine ⟨[(y, v)], ?_, fun z hz => by simp at hz; subst hz; simp⟩
      rcases hy with rfl | rfl | rfl
      · exact BindsTo.of_defaults rfl hT rfl rfl (by kernel_rfl)
      · exact BindsTo.of_defaults rfl hT rfl rfl (by kernel_rfl)
      · exact BindsTo.of_defaults rfl hT rfl rfl (by kernel_rfl)
end
/-- x(), in the def that got the lambda: Z is that def's context, entered at s -/
theorem pe_actG {X : Cx} {pins : List (Addr × Obj)} {σ : L2.St} {H : Hp} {s : Shared} {CXg : CXT} {Eg : XK} {Ng ys : List Str} {qg : Str} {sg : Scope} {g f c' : Addr} {cdg : Value} {params : Arguments} {body : Expr} {scope : Scope} {k i : Nat} {a : Str} {pn : List (Addr × Obj)} {xe : Value → Shared → Prop} {W : WX} {E : XK} {tb : TE} {p1 p2 : Pos}
    (I : L2.Inv X pins σ H s) (L : LamQ X.N X.env.scope scope ys) (hp : LPar params ys) (F : LamAt X params body scope f c' H s) (hgd : X.A.guards = some [])
    (tk : Takes ((cxOf CXg X.prog X.w X.K X.mg X.base Ng qg sg g cdg X.A X.stack s H Eg).tr pn xe) W) (hW : ∀ cls d σ' H', E cls d H' → W cls d σ' H') (hr : Room (k + 1) (X.A.deeper (envOfC qg sg s.heap.objs.size g cdg)))
    (hbody : ∀ (A : Around) (outer : List Env) (s : Shared) (H : Hp), Room k (A.deeper (lamEnv X scope s.heap.objs.size f c')) → (A.deeper (lamEnv X scope s.heap.objs.size f c')).guards = some [] → PE (lamCx X A outer s H E scope f c') body tb)
    (hN : Ng[i]? = some a) (hv : Vis sg a) (hdb : (a == ("__debug__" : Str)) = false) (hcd : (a == ("__classdict__" : Str)) = false) :
    PE ((cxOf CXg X.prog X.w X.K X.mg X.base Ng qg sg g cdg X.A X.stack s H Eg).tr pn xe) (.Call (.Name a p1) [] [] p2)
      (fun σZ HZ Q => σZ[i]? = some (some (.ref f)) ∧ HZ c' = some (CodeO c' (X.env.qual ++ "<lambda>")) ∧ tb σ HZ Q) := by
  refine ⟨fun pinsZ sZ σZ HZ Q IZ h => ?_⟩
  obtain ⟨hs, hc, ht⟩ := h
  obtain ⟨⟨pm, ctv, doc, dV, of, hdv⟩, hfn, hfr, _⟩ := F
  refine wpAny_Call_Name_kw (thn ((pe_var (pos := p1) (i := i) hN hv hdb hcd).run pinsZ sZ σZ HZ (fun v H1 => v = .ref f ∧ H1 = HZ) IZ ⟨.ref f, hs, rfl, rfl⟩) fun u s1 ⟨v, H1, I1, r1, q1⟩ => ?_)
  obtain ⟨ev, eH⟩ := q1
  subst ev
  rw [eH] at I1
  obtain rfl : u = Value.ref f := r1
  have keep : ∀ b o, s.heap.get? b = some o → H b = none → b ∉ frs X.stack → s1.heap.get? b = some o := fun b o e n nf => I1.base.keep b o e n nf (fun z => nomatch (show b ∈ ([] : List Addr) from z))
  have of1 := keep f _ of hfn hfr
  refine PySem.W.callWith_F0 ⟨_, _, _, _, of1⟩ ?_
  have un : Un (frs X.stack) [] H HZ s.heap s1.heap := I1.base
  obtain ⟨⟨oc, vs, t, hoc, hdc, hvc⟩, _, _⟩ := I1.hok c' _ hc
  obtain ⟨binds, hb, hby⟩ := lam_binds (body := body) (scope := scope) (q := X.env.qual ++ "<lambda>") (cl := cloFrom X.env.cells scope.names []) (doc := doc) (pm := pm) (cv := .ref c') (ctv := ctv) (s1 := s1) hp (by
    rcases hdv with z | ⟨T, v, z1, z0, z2, z3, z4⟩
    · exact .inl z
    · exact .inr ⟨T, v, z1, z0, keep T _ z2 z3 z4⟩)
  have rc : codeAny (model X.prog X.w) (X.A.deeper (envOfC qg sg s.heap.objs.size g cdg)) (.call (.ref f) ⟨[], []⟩) (CR (L2.CX X.prog X.w) (envOfC qg sg s.heap.objs.size g cdg :: X.stack) X.prog X.w HZ s1 Q E) s1 := by
    refine PySem.W.kla_callFunE hr.depth of1 rfl L.co L.gen rfl ⟨c', oc, vs, t, rfl, hoc, hdc, hvc⟩ (hb _ _ _ _ ?_)
    refine wpAny_newFunctionEnv L.nc (fun y hy => L.par _ (hby y hy)) (fun h1 hns hsb => ⟨I1.nolimit.fresh _ hsb, ?_⟩) L.kind
    show codeAny _ _ (.expr body (lamEnv X scope s1.heap.objs.size f c')) _ _
    have kp : ∀ b o, s1.heap.get? b = some o → h1.get? b = some o := fun b o e => hsb.extBut b o (Nat.ne_of_lt (Heap.lt_size e)) (Heap.get?_push_of_some _ e)
    have J := lam_go (A := X.A.deeper (envOfC qg sg s.heap.objs.size g cdg)) (outer := envOfC qg sg s.heap.objs.size g cdg :: X.stack) (E := E) (f := f) (c' := c') (tk := s1.toks + binds.length) I rfl L I1.env0 hr.hd un hns kp
    refine PySem.W.kla_codeExpr (wpAny_mono ((hbody _ _ s1 HZ (hr.deeper _) (by rw [guards_deeper, guards_deeper]; exact hgd)).run [] _ _ HZ Q J ht) (fun v s' hq => ?_) fun e s' hq => hq)
    obtain ⟨w', H', J', rv, q⟩ := hq
    exact ⟨w', H', J'.os, J'.bare, J'.base, J'.hok, rv, q⟩
  have hx : Passes (L2.CX X.prog X.w) ((cxOf CXg X.prog X.w X.K X.mg X.base Ng qg sg g cdg X.A X.stack s H Eg).tr pn xe) E := passes_call tk hW
  refine wpAny_call (codeAny_mono rc fun r s' hq => ?_)
  rcases r with e | (u | _ | _ | _)
  · exact hx pinsZ σZ HZ s1 e s' I1 hq
  · exact False.elim hq
  · exact False.elim hq
  · exact False.elim hq
  · exact I1.after hq
end Bk
set_option Elab.async false
set_option linter.all false
set_option maxRecDepth 100000
set_option maxHeartbeats 4000000
set_option pp.maxSteps 800
namespace Bk
open PySem PySem.Spec PyProof.Rows L2
end Bk
set_option Elab.async false
set_option linter.all false
set_option maxRecDepth 100000
set_option maxHeartbeats 4000000
set_option pp.maxSteps 800
namespace Bk
open PySem PySem.Spec PyProof.Rows L2 LamX
structure ClsF (K : PySem.W.Frag) (C : Addr) (ns : List Str) : Prop where
  xf : XfC K C
  no : ∀ n ∈ ns, PySem.W.findIn K (.ref C) n = some none
theorem Lk.len {fs : List (Str × V)} : ∀ {ns : List Str} {vs : List V}, Lk fs ns vs → vs.length = ns.length
  | [], [], _ => rfl
  | [], _ :: _, h => h.elim
  | _ :: _, [], h => h.elim
  | n :: ns, v :: vs, h => by simp [Lk.len h.2]
/-- what is wished of an error -/
def Esaid (xc : List (Nat × Addr × List Str)) (tb : List (Nat × Str)) (Q : VK) : XK := fun cls dx H' => ∃ (c : Nat) (x : Str) (C : Addr) (ns : List Str) (d : Addr) (fs : List (Str × V)) (vs : List V),
  (c, x) ∈ tb ∧ xc.lookup c = some (C, ns) ∧ cls = .ref C ∧ dx = some d ∧ H' d = some (.xd fs) ∧ Lk fs ns vs ∧ ∀ p, H' p = none → Q (.ref p) (upd H' p (.tup (.str x :: vs)))
def TSaid (xc : List (Nat × Addr × List Str)) (tb : List (Nat × Str)) : (XK → Hp → VK → Prop) → Hp → VK → Prop := fun tl H Q =>
  ∀ p0, H p0 = none → tl (Esaid xc tb Q) (upd H p0 (.lst [])) fun v H' => ∀ p, H' p = none → Q (.ref p) (upd H' p (.lst [v]))
/-- as the library's GivesTo, where more may be concluded of what the lambda tells -/
def GivesM (X : Cx) (Ng : List Str) (x : Str) (sg : Scope) (g : Addr) (cdg : Value) (bg : List Stmt) (a : Str) (q : Str) (TT : (XK → Hp → VK → Prop) → Hp → VK → Prop) : Prop :=
  ∀ (f c' : Addr) (s : Shared) (H : Hp) (Q : VK) (tl : XK → Hp → VK → Prop), (∀ E H Q Q', (∀ v H', Q v H' → Q' v H') → tl E H Q → tl E H Q') →
    (∀ (W : WX) (pn : List (Addr × Obj)) (xe : Value → Shared → Prop) (E : XK) (p1 p2 : Pos), Takes ((cxOf C8.CX0 X.prog X.w X.K X.mg X.base Ng x sg g cdg X.A X.stack s H C8.E0).tr pn xe) W → (∀ cls d σ' H', E cls d H' → W cls d σ' H') →
      PE ((cxOf C8.CX0 X.prog X.w X.K X.mg X.base Ng x sg g cdg X.A X.stack s H C8.E0).tr pn xe) (.Call (.Name a p1) [] [] p2) (fun σZ HZ Q => σZ[0]? = some (some (.ref f)) ∧ HZ c' = some (CodeO c' q) ∧ tl E HZ Q)) →
    H c' = some (CodeO c' q) → TT tl H Q →
    ∃ t, PSs (cxOf C8.CX0 X.prog X.w X.K X.mg X.base Ng x sg g cdg X.A X.stack s H C8.E0).nox bg t ∧ t { nx := fun _ H' => Q .non H', rt := Q } (L2.start Ng [.ref f]) H
def tLamG (T : List (Addr × Str)) (TT : (XK → Hp → VK → Prop) → Hp → VK → Prop) (t : XK → TE) : TE := fun σ H Q => Tabs T H ∧ ∀ H1, ExtN H H1 → TIn H H1 → Tabs T H1 → TT (fun E H' Q' => t E σ H' Q') H1 Q
/-- x(lambda: body) -/
theorem pe_lamG {X : Cx} {T : List (Addr × Str)} {TT : (XK → Hp → VK → Prop) → Hp → VK → Prop} {x a : Str} {g c P : Addr} {k : Nat} {pg : Arguments} {bg : List Stmt} {sg : Scope} {dV kV doc pm cdv ct oc : Value} {an od : Option Addr} {osl : Array (Option Value)} {Ng ys : List Str}
    {params : Arguments} {body : Expr} {scope : Scope} {t : XK → TE} {p lpos pos : Pos} (hg : Gl X x) (hm : X.mg x = some (.ref g)) (hk : PySem.W.keepIn X.K (.ref g) = true)
    (lk : X.K.lookup g = some ⟨oc, od, .func (PySem.W.fnOf x x pg bg sg dV kV doc pm an cdv ct), osl⟩) (hcg : PySem.W.codeIn X.K cdv x = true) (hb : L2.Binds X.K (PySem.W.fnOf x x pg bg sg dV kV doc pm an cdv ct) [a] []) (Sg : FnScope Ng [a] sg) (hNg : Ng[0]? = some a) (hva : Vis sg a)
    (hG : GivesM X Ng x sg g cdv bg a (X.env.qual ++ "<lambda>") TT)
    (TB : TabB X.base X.mg c P) (hcode : X.env.code = .ref c) (hmT : (P, X.env.qual ++ "<lambda>") ∈ T) (hu : ∀ p ∈ T, p.1 = P → p.2 = X.env.qual ++ "<lambda>") (hr : Room (k + 2) X.A) (hgd : X.A.guards = some []) (L : LamQ X.N X.env.scope scope ys) (hp : LPar params ys)
    (mono : ∀ E σ H Q Q', (∀ v H', Q v H' → Q' v H') → t E σ H Q → t E σ H Q')
    (hbody : ∀ (A : Around) (outer : List Env) (s : Shared) (H : Hp) (E : XK) (f c' : Addr), Room k (A.deeper (lamEnv X scope s.heap.objs.size f c')) → (A.deeper (lamEnv X scope s.heap.objs.size f c')).guards = some [] → PE (lamCx X A outer s H E scope f c') body (t E))
    (hdb : (x == ("__debug__" : Str)) = false) (hd : (a == ("__debug__" : Str)) = false) (hcd : (a == ("__classdict__" : Str)) = false) :
    PE X (.Call (.Name x p) [.Lambda params body scope lpos] [] pos) (tLamG T TT t) := by
  constructor
  rintro pins s σ H Q I ⟨hT, h⟩
  refine wpAny_Call_Name_kw (ld_glob I hg hm ?_ hdb)
  refine PySem.W.callWith_K (h₀ := X.base) I.ok.mod.kin hk ?_ (by rfl) (by rfl)
  show wpAny _ _ (spliced ((false, eval (.Lambda params body scope lpos) X.env) :: [])) _ _ s
  refine Calls.spliced_cons (lam_mk I TB hcode hmT hu hT hp (L.has I.ok) fun f c' H1 s' I1 eN tI T1 F => ?_)
  refine Calls.spliced_nil ⟨I1.kIn, ?_⟩
  have rc : codeAny (model X.prog X.w) X.A (.call (.ref g) ⟨[.ref f], []⟩) (CR C8.CX0 X.stack X.prog X.w H1 s' Q C8.E0) s' := by
    refine run_ofS (N := Ng) (ps := [a]) (us := [.ref f]) (vs := [.ref f]) lk hcg Sg hr I1.env0 (hb s' [.ref f] I1.kIn rfl) (.cons rfl .nil) rfl fun hr' => ?_
    obtain ⟨t', ht', hq'⟩ := hG f c' s' H1 Q (fun E H' Q' => t E σ H' Q') (fun E H Q Q' hQ => mono E σ H Q Q' hQ) (fun W pn xe E p1 p2 tk hW => pe_actG (i := 0) I1 L hp F hgd tk hW hr' (fun A outer s H hr2 hg2 => hbody A outer s H E f c' hr2 hg2) hNg hva hd hcd) F.code (h H1 eN tI T1)
    exact ⟨t', ht'.nox, hq'⟩
  refine wpAny_call (codeAny_mono rc fun r s2 hq => ?_)
  rcases r with e | (_ | _ | _ | u)
  · exact (show False from hq).elim
  · exact False.elim hq
  · exact False.elim hq
  · exact False.elim hq
  · exact I1.after hq
end Bk
set_option Elab.async false
set_option linter.all false
set_option maxRecDepth 100000
set_option maxHeartbeats 4000000
set_option pp.maxSteps 800
namespace Bk
open PySem PySem.Spec PyProof.Rows L2
namespace Xv
open PySem.W
/-- what an own class of exceptions must say, so that __class__ of its instances is found -/
theorem find_cls {K : Frag} {D : Addr} (E : ExcC K D) (od : Option Obj) : findObj K D od "__class__" = some (.bind (.builtin "getset_descriptor.__get__") (.builtin "object.__class__")) := by
  obtain ⟨cd, hc, -⟩ := any_some E.hd
  simp only [findObj, hc, E.ha, E.hn, E.ht, Option.bind_some]
/-- x.__class__, x an exception with a dict of its own -/
theorem cls_get {prog : Program} {w : World} {A : Around} {F : Value → Shared → Prop} {G : Option Value → Shared → Prop} {K : Frag} {x D : Addr} {ox : Obj} {od : Option Obj} {z : Shared} (E : ExcC K D) (kin : K.In z.heap) (J : InstAt z.heap x ox D od) (q : G (some (.ref D)) { z with toks := z.toks + 1 }) :
    wpAny (model prog w) A (getAttr? (.ref x) "__class__") G F z := by
  have fnd := find_cls E od
  obtain ⟨hz, gz, dz, tz, oz⟩ := z
  have ty := J.type (M := model prog w)
  have ga := looks_findIn (M := model prog w) kin E.hg
  have gt := looks_findIn (M := model prog w) kin E.hk
  have fd := looks_find (M := model prog w) kin J fnd
  have isB : Looks (model prog w) hz (isInstance (.ref x) (.type "BaseException")) true := ty.andThen (looks_subIn kin E.hs)
  have n2 : (Value.builtin "BaseException.__getattribute__" == Value.builtin "object.__getattribute__") = false := by decide +kernel
  have n1 : (onTheHeap (Value.ref D) && Value.builtin "BaseException.__getattribute__" == Value.builtin "object.__getattribute__") = false := by rw [n2, Bool.and_false]
  have n0 : (false && onTheHeap (Value.builtin "BaseException.__getattribute__")) = false := by rw [Bool.false_and]
  unfold getAttr? getAttrBy? getAttrBy
  refine wpAny_bind (wpAny_mkText (wpAny_bind (wpAny_attempt (wpAny_holding (wpAny_bind (ty.at (wpAny_bind (ga.at ?_))))))))
  show wpAny _ _ (if (onTheHeap (Value.ref D) && Value.builtin "BaseException.__getattribute__" == Value.builtin "object.__getattribute__") = true then _ else _) _ _ _
  rw [n1, if_neg Bool.false_ne_true]
  unfold getAttrByItsOwn hookBefore
  refine wpAny_bind ?_
  rw [if_pos (show onTheHeap (Value.ref D) = true from rfl)]
  refine gt.at ?_
  refine wpAny_bind (wpAny_attempt (wpAny_holding ?_))
  unfold callGetattribute
  rw [n0, if_neg Bool.false_ne_true]
  unfold boundAndCalled
  rw [PySem.F.excAttr_ValueError.ga.bind (.ref x)]
  refine wpAny_bind (wpAny_pure ?_)
  refine wpAny_call (codeAny_call_builtin PySem.F.excAttr_ValueError.ga.plain PySem.F.entry_bexc_ga ?_)
  refine @check_slot (model prog w) _ _ ⟨hz, gz, dz, tz + 1, oz⟩ "BaseException.__getattribute__" "BaseException" "__getattribute__" (.ref x) [.str "__class__" tz] [] _ (by decide +kernel) (by decide +kernel) isB (PySem.F.args_bexc_ga (.ref x) (.str "__class__" tz)) ?_
  unfold Builtin.«object.__getattribute__»
  refine wpAny_bind (wpAny_of_eq (a := ((Value.ref x : Value), [Value.str "__class__" tz])) (by first | rfl | (simp only [slotArgs]; rfl)) ?_)
  refine wpAny_bind (wpAny_pure (wpAny_bind (ty.at (wpAny_bind (fd.at ?_)))))
  show wpAny _ _ (holding [Value.builtin "object.__class__"] (call (.builtin "getset_descriptor.__get__") [.builtin "object.__class__", .ref x, .ref D]) >>= ret) _ _ _
  refine wpAny_bind (wpAny_holding (wpAny_call (class_get (s := ⟨hz, gz, dz, tz + 1, oz⟩) (ox := ox) (od := od) kin J E.hm ?_)))
  refine wpAny_pure ?_
  show wpAny _ _ (handedOut (.ref D)) _ _ _
  rw [handedOut_of (v := .ref D) rfl]
  first
    | exact wpAny_pure (wpAny_pure q)
    | exact wpAny_pure q
    | exact wpAny_pure (wpAny_bind (wpAny_pure (wpAny_pure q)))
theorem kitx {K : Frag} {x D : Addr} {ox : Obj} {od : Option Obj} (E : ExcC K D) : KitX K (.ref x) (.ref D) (fun h => InstAt h x ox D od) where
  ty := fun _ _ _ J => J.type
  it := fun _ _ kin _ => by
    obtain ⟨cd, hc, -⟩ := any_some E.hd
    simp only [clsIn] at hc
    split at hc
    · rename_i ho
      intro A' Q' E' s' k q
      simp only [isType, loadHead]
      exact wpAny_bind (wpAny_loadPart (k _ _ (kin _ _ ho)) (wpAny_pure q))
    · cases hc
  ne := fun h tp dd its n sl kin htp => by
    obtain ⟨cd, hc, -⟩ := any_some E.hd
    refine Bool.eq_false_iff.mpr fun q => ?_
    obtain rfl : D = tp := Value.ref.inj (beq_iff_eq.mp q)
    simp only [clsIn] at hc
    split at hc
    · rename_i ho
      cases (kin _ _ ho).symm.trans htp
    · cases hc
  ca := fun kin J k => cls_get E kin J k
end Xv
/-- the exception at a, of the class C, its dict at d -/
def ExAt (H : Hp) (a C d : Addr) : Prop := ∃ o, H a = some (ObX a o) ∧ Zc (.ref C) (some d) o ∧ ∃ us, o.data = .fields us
def rIsX (K : PySem.W.Frag) : List V → Hp → VK → Prop := fun xs H Q => ∃ (a C d : Addr) (fs : List (Str × V)) (c : V) (cv : Value) (b : Bool), xs = [.ref a, c] ∧ ExAt H a C d ∧ H d = some (.xd fs) ∧ ExcC K C ∧ (∀ u, RelV c u → u = cv) ∧ PySem.W.kitOne K (.ref C) cv = some b ∧ Q (.bl b) H
section
variable {X : Cx}
theorem inst_of {P : Program} {w : World} {H : Hp} {h : Heap} {a C d : Addr} {fs : List (Str × V)} (ok : HOk P w H h) (e : ExAt H a C d) (hd : H d = some (.xd fs)) : ∃ o od mA, PySem.W.InstAt h a o C (some od) ∧ h.get? d = some od ∧ h.Ns1 d mA ∧ ∀ y, RelO (fs.lookup y) (mA y) := by
  obtain ⟨o, e1, z, us, hu⟩ := e
  have hx : ObjOk P w H h d (.xd fs) := ok d _ hd
  obtain ⟨mA, hns, hr⟩ := hx
  obtain ⟨od, ho, hl⟩ := lookIn_ns hns
  exact ⟨o, od, mA, ⟨obX_at ok e1, z.1, by unfold PySem.W.notCls; rw [hu] <;> rfl, by rw [z.2]; exact ho⟩, ho, hns, hr⟩
theorem call_isX : CallR X (.builtin "isinstance") (rIsX X.K) := by
  intro pins s σ H xs us Q I r h
  obtain ⟨a, C, d, fs, c, cv, b, rfl, e, hd, ec, hcv, ek, q⟩ := h
  cases r with
  | cons rx rr =>
    cases rr with
    | cons rt rr =>
      cases rr
      cases rx
      obtain rfl := hcv _ rt
      obtain ⟨o, od, mA, J, _⟩ := inst_of I.hok e hd
      exact PySem.W.kia_one (Xv.kitx ec) I.kIn J ek (fun z => nomatch z) fun tk => ⟨.bl b, H, I.kept (t' := tk) fun _ _ z => z, rfl, q⟩
variable {W : Wd} {Ew : XK} {fa : Gm → G → R D} {a b : Expr}
theorem isXD_some {yes no : List Nat} {d : D} {r : Bool} (h : isXD yes no d = some r) : ∃ c ds, d = .exc c ds ∧ (c ∈ yes ∧ r = true ∨ c ∈ no ∧ r = false) := by
  cases d <;> simp only [isXD] at h <;> try cases h
  rename_i c ds
  refine ⟨c, ds, rfl, ?_⟩
  split at h
  · rename_i z
    cases h
    exact .inl ⟨by simpa using z, rfl⟩
  · split at h
    · rename_i z
      cases h
      exact .inr ⟨by simpa using z, rfl⟩
    · cases h
/-- isinstance(a, C) of an exception -/
theorem e_isX {p pos : Pos} {c : V} {cv : Value} {yes no : List Nat} (ha : PE X a (tE X.K W Ew fa)) (ht : PE X b (tC c)) (hg : Gl X "isinstance") (hm : X.mg "isinstance" = none) (hcv : ∀ u, RelV c u → u = cv)
    (cls : ∀ n C ns, W.xc.lookup n = some (C, ns) → ExcC X.K C ∧ (n ∈ yes → PySem.W.kitOne X.K (.ref C) cv = some true) ∧ (n ∈ no → PySem.W.kitOne X.K (.ref C) cv = some false)) (hst : starEach (a :: [b]) X.env = (false, eval a X.env) :: starEach [b] X.env) (hst2 : starEach (b :: []) X.env = (false, eval b X.env) :: starEach [] X.env) (hpl : (backTo pos (starEach [b] X.env)).any (·.1) = false) :
    PE X (.Call (.Name "isinstance" p) [a, b] [] pos) (tE X.K W Ew fun Γ g => (fa Γ g).bind fun x g => lift ((isXD yes no x).map .bl) g) := by
  refine PE.imp (pe_callB call_isX hg hm rfl (pa_cons ha (pa_cons ht pa_nil hst2) hst) (he := hst) (hpl := hpl)) fun σ H Q ⟨Hk0, H0, Γ, g, Hk, fr, h⟩ => ?_
  refine ⟨Hk0, H0, Γ, g, Hk, fr, (Fin.bind h).mono fun d g' Hk' H' s dr kq v r => ?_⟩
  cases e : isXD yes no d with
  | none => rw [e] at kq; exact kq.elim
  | some r0 =>
    rw [e] at kq
    obtain ⟨n, ds, rfl, hyn⟩ := isXD_some e
    obtain ⟨a0, o, C, dd, ns, fs, vs, rfl, h1, h2, h3, h4, h5, h6, h7⟩ := r
    have fr' := fr.step s dr
    have up := fr'.wk.ex
    obtain ⟨ec, c1, c2⟩ := cls n C ns h2
    have kk : PySem.W.kitOne X.K (.ref C) cv = some r0 := by
      rcases hyn with ⟨z, rfl⟩ | ⟨z, rfl⟩
      · exact c1 z
      · exact c2 z
    exact ⟨a0, C, dd, fs, c, cv, r0, rfl, ⟨o, up _ _ h1, h3, h4⟩, up _ _ h5, ec, hcv, kk, kq Hk' H' (Step.refl up) dr _ rfl⟩
theorem lk_at {fs : List (Str × V)} : ∀ {ns : List Str} {vs : List V} {i : Nat} {n : Str} {v : V}, Lk fs ns vs → ns[i]? = some n → vs[i]? = some v → fs.lookup n = some v
  | [], _, _, _, _, _, e, _ => by simp at e
  | n :: ns, [], _, _, _, h, _, _ => h.elim
  | n :: ns, v :: vs, 0, _, _, h, e1, e2 => by simp at e1 e2; subst e1 e2; exact h.1
  | n :: ns, v :: vs, i + 1, _, _, h, e1, e2 => lk_at h.2 (by simpa using e1) (by simpa using e2)
/-- a.n, a an exception -/
theorem e_fld {n : Str} {cs : List (Nat × Nat)} {pos : Pos} (ha : PE X a (tE X.K W Ew fa)) (hb : attributeBase a n X.env (eval a X.env) = eval a X.env)
    (cls : ∀ c i, cs.lookup c = some i → ∀ C ns, W.xc.lookup c = some (C, ns) → XfC X.K C ∧ ns[i]? = some n ∧ PySem.W.findIn X.K (.ref C) n = some none) :
    PE X (.Attribute a n pos) (tE X.K W Ew fun Γ g => (fa Γ g).bind fun x g => lift (fldD cs x) g) := by
  refine ⟨fun pins s σ H Q I ⟨Hk0, H0, Γ, g, Hk, fr, h⟩ => ?_⟩
  refine attr_of hb (thn (ha.run pins s σ H (fun v H1 => ∃ (a0 C dd : Addr) (fs : List (Str × V)) (y : V), v = .ref a0 ∧ ExAt H1 a0 C dd ∧ H1 dd = some (.xd fs) ∧ XfC X.K C ∧ PySem.W.findIn X.K (.ref C) n = some none ∧ fs.lookup n = some y ∧ Q y H1) I ?_) fun u s1 hh => ?_)
  · refine ⟨Hk0, H0, Γ, g, Hk, fr, (Fin.bind h).mono fun d g' Hk' H' s dr kq v r => ?_⟩
    cases e : fldD cs d with
    | none => rw [e] at kq; exact kq.elim
    | some y =>
      rw [e] at kq
      cases d <;> (try (simp only [fldD] at e; cases e))
      rename_i c ds
      simp only [fldD, Option.bind_eq_some_iff] at e
      obtain ⟨i, e1, e2⟩ := e
      obtain ⟨a0, o, C, dd, ns, fs, vs, rfl, h1, h2, h3, h4, h5, h6, h7⟩ := r
      obtain ⟨c1, c2, c3⟩ := cls c i e1 C ns h2
      have fr' := fr.step s dr
      have up := fr'.wk.ex
      obtain ⟨yv, e3, r3⟩ := RpL.get h7 e2
      exact ⟨a0, C, dd, fs, yv, rfl, ⟨o, up _ _ h1, h3, h4⟩, up _ _ h5, c1, c3, lk_at h6 c2 e3, kq Hk' H' (Step.refl up) dr _ r3⟩
  · obtain ⟨x, H1, I1, rx, a0, C, dd, fs, y, rfl, ex, ea, T, hno, l, q⟩ := hh
    obtain rfl : u = Value.ref a0 := rx
    obtain ⟨o, od, mA, J, ho, hns, hr⟩ := inst_of I1.hok ex ea
    obtain ⟨od', ho', hl⟩ := lookIn_ns hns
    obtain rfl : od = od' := Option.some.inj (ho.symm.trans ho')
    obtain ⟨u, hu, ru⟩ := RelO.some_of (v := y) (o := mA n) (by rw [← l]; exact hr n)
    exact HandSPX.exc_get I1.kIn J T.ga T.gg T.exC (PySem.W.findObj_own T.hdC hno rfl (by rw [hl, hu])) (handed_of ru) ⟨y, H1, I1.tok _, ru, q⟩
/-- an object of ours that stands untracked is tracked from here -/
theorem inv_adopt {pins : List (Addr × Obj)} {σ : L2.St} {H : Hp} {s s' : Shared} {a : Addr} {o : Obj} (I : L2.Inv X pins σ H s) (k : ∀ b u, s.heap.get? b = some u → s'.heap.get? b = some u) (na : s.heap.get? a = none) (hn : H a = none) (e : s'.heap.get? a = some o) (os : s'.os = s.os) (bare : AllBare s'.gens) : L2.Inv X pins σ (upd H a (ObX a o)) s' := by
  have J := I.laidN (t' := s'.toks) k na hn (obX_ok (P := X.prog) (w := X.w) (H := upd H a (ObX a o)) e)
  exact ⟨J.ok, os.trans I.os, bare, J.base, J.loc, J.cell, J.free, J.freeC, J.pin, J.hok, J.len⟩
theorem lk_of {fs : List (Str × V)} : ∀ {ns : List Str} {vs : List V}, vs.length = ns.length → (∀ q ∈ ns.zip vs, fs.lookup q.1 = some q.2) → Lk fs ns vs
  | [], [], _, _ => True.intro
  | [], _ :: _, h, _ => by simp at h
  | _ :: _, [], h, _ => by simp at h
  | n :: ns, v :: vs, h, hq => ⟨hq (n, v) (by simp), lk_of (by simpa using h) fun q z => hq q (by simp [z])⟩
/-- C(e, ..), not raised -/
theorem e_mkX {c : Nat} {C : Addr} {x : Str} {ns : List Str} {e : Expr} {es : List Expr} {p pos : Pos} {fs : Gm → G → R (List D)} (T : XcOk X.prog X.K C ns) (hxc : W.xc.lookup c = some (C, ns)) (hr : Room 1 X.A) (hg : Gl X x) (hm : X.mg x = some (.ref C)) (ha : PA X (e :: es) (tAa X.K W Ew fs))
    (hdb : (x == ("__debug__" : Str)) = false) (he : starEach (e :: es) X.env = (false, eval e X.env) :: starEach es X.env) (hpl : (backTo pos (starEach es X.env)).any (·.1) = false) (hlen : ∀ Γ g ds g', fs Γ g = .ok ds g' → ds.length = ns.length) :
    PE X (.Call (.Name x p) (e :: es) [] pos) (tE X.K W Ew fun Γ g => (fs Γ g).bind fun ds g => .ok (.exc c ds) g) := by
  have mk := pmk_x (p := p) T hr hg hm ha hdb he hpl
  refine ⟨fun pins s σ H Q I ⟨Hk0, H0, Γ, g, Hk, fr, h⟩ => ?_⟩
  refine wpAny_mono (mk pins s σ H (fun cls dx H' => ∀ a o, H' a = none → Zc cls dx o → (∃ us, o.data = .fields us) → Q (.ref a) (upd H' a (ObX a o))) I ?_) (fun u s' hu => ?_) fun _ _ z => z
  · refine ⟨Hk0, H0, Γ, g, Hk, fr, (Fin.bind h).monoE fun ds g' Hk' H' ee s dr kq vs r => ?_⟩
    have hvl : vs.length = ns.length := by rw [r.len, hlen Γ g ds g' ee]
    refine ⟨hvl, fun d hd a o na z hf => ?_⟩
    have fr1 := fr.step s dr
    have s1 : Step W Hk' H' (upd Hk' d (.xd (ns.zip vs).reverse)) (upd H' d (.xd (ns.zip vs).reverse)) := Step.new fr1.wk.ex hd
    have fr2 := fr1.step s1 (dr.new hd)
    have s2 : Step W (upd Hk' d (.xd (ns.zip vs).reverse)) (upd H' d (.xd (ns.zip vs).reverse)) (upd (upd Hk' d (.xd (ns.zip vs).reverse)) a (ObX a o)) (upd (upd H' d (.xd (ns.zip vs).reverse)) a (ObX a o)) := Step.new fr2.wk.ex na
    have dn : d ≠ a := fun z => by rw [← z, upd_same] at na; cases na
    refine kq _ _ (s1.trans s2) ((dr.new hd).new na) (.ref a) ⟨a, o, C, d, ns, (ns.zip vs).reverse, vs, rfl, upd_same, hxc, z, hf, by rw [upd_ne dn, upd_same], lk_of hvl fun q hq => ?_, r.mono (s1.k.trans s2.k)⟩
    refine lookup_nd ?_ (by simpa using hq)
    rw [List.map_reverse]
    refine (List.reverse_perm _).nodup_iff.mpr ?_
    rw [map_zip hvl]
    exact T.nd
  · obtain ⟨a, oe, vs, sI, H', cls, d, rfl, I', kp, ns0, he', hz, hd, h1, na, os, bare, rs, q⟩ := hu
    exact ⟨.ref a, _, inv_adopt I' kp ns0 na he' os bare, rfl, q a oe na hz ⟨vs, hd⟩⟩
end
end Bk
set_option Elab.async false
set_option linter.all false
set_option maxRecDepth 100000
set_option maxHeartbeats 4000000
set_option pp.maxSteps 800
namespace Bk
open PySem PySem.Spec PyProof.Rows L2
/-- what a clause asks: a class's name, or two in a tuple -/
inductive TestX (X : Cx) : Expr → List Value → Prop where
  | one {x : Str} {c : Value} {p : Pos} (h : Names X x c) : TestX X (.Name x p) [c]
  | two {x y : Str} {c d : Value} {p q p3 : Pos} {k : Nat} (h : Names X x c) (h2 : Names X y d) : TestX X (.Tuple [.Name x p, .Name y q] k p3) [c, d]
/-- a heap that only grew: the exception still flies -/
theorem fly_grow {B : Heap} {l : List Env} {a : Addr} {Z : Obj → Prop} {h h' : Heap} (f : HandSPX.FlyingZ B l a Z h) (k : ∀ b o, h.get? b = some o → h'.get? b = some o) : HandSPX.FlyingZ B l a Z h' := by
  obtain ⟨f1, f2, f3, oe, vs, T, oT, ts, g1, g2, g3, g4, g5, g6, g7, g8, g9⟩ := f
  exact ⟨fun b o e => k b o (f1 b o e), f2, Heap.FunFrames.of_keeps (fun b o e _ => ⟨o, k b o e, rfl⟩) f3, oe, vs, T, oT, ts, k _ _ g1, g2, g3, g4, g5, g6, k _ _ g7, g8, g9⟩
theorem up_grow {h h' : Heap} (k : ∀ b o, h.get? b = some o → h'.get? b = some o) : h.UpToSlots h' := fun b o e _ => ⟨o.slots, k b o e⟩
section
variable {X : Cx} {pins : List (Addr × Obj)} {σ : L2.St} {H : Hp} {s : Shared}
/-- an object that came behind the entry, and stands untracked, is tracked from here -/
theorem inv_track {a : Addr} {o : Obj} (I : L2.Inv X pins σ H s) (hn : H a = none) (e : s.heap.get? a = some o) (n0 : X.s_0.heap.get? a = none) (nL : a ≠ X.env.locals) (nC : ∀ x c, X.env.cells.lookup x = some c → c ≠ a) (nP : ∀ p ∈ X.pn ++ pins, p.1 ≠ a) : L2.Inv X pins σ (upd H a (ObX a o)) s := by
  have hok : HOk X.prog X.w (upd H a (ObX a o)) s.heap := I.hok.laidN (fun _ _ q => q) hn (obX_ok e)
  have ne : ∀ {b : Addr} {u : HO}, H b = some u → b ≠ a := fun q z => by rw [z, hn] at q; cases q
  refine ⟨I.ok, I.os, I.bare, ⟨I.base.keep, I.base.slot, fun b u q1 q2 q3 => ?_, I.base.there, fun b xs q => ?_, fun b o u q => ?_, fun b ps q => ?_⟩, I.loc, I.cell, by rw [upd_ne (Ne.symm nL)]; exact I.free, fun x c q => by rw [upd_ne (nC x c q)]; exact I.freeC x c q, fun p hp => ?_, hok, I.len⟩
  · have hb : b ≠ a := fun z => by rw [z, n0] at q1; cases q1
    rw [upd_ne hb]; exact I.base.free b u q1 q2 q3
  · have q' := I.base.tups b xs q
    rw [upd_ne (ne q')]; exact q'
  · have q' := I.base.frzs b o u q
    rw [upd_ne (ne q')]; exact q'
  · obtain ⟨more, q'⟩ := I.base.tbls b ps q
    exact ⟨more, by rw [upd_ne (ne q')]; exact q'⟩
  · obtain ⟨p1, p2, p3, p4, p5⟩ := I.pin p hp
    exact ⟨p1, by rw [upd_ne (nP p hp)]; exact p2, p3, p4, p5⟩
/-- the clause's test is evaluated: the heap only grows -/
theorem test_run {test : Expr} {cs : List Value} (ht : TestX X test cs) {a : Addr} {pn : List (Addr × Obj)} {E : Value → Shared → Prop} {Q : Value → Shared → Prop} (S : L2.Inv (X.suite a pn) pins σ H s)
    (q : ∀ tv hT, (∀ b o, s.heap.get? b = some o → hT.get? b = some o) → (∀ cls e, PySem.W.Looks (model X.prog X.w) hT (typeOf (.ref e)) cls → PySem.W.exmAny X.K cls cs = some true → PySem.W.Looks (model X.prog X.w) hT (excMatches (.ref e) tv) true) → Q tv { s with heap := hT }) :
    wpAny (model X.prog X.w) (X.A.mark (some (.ref a))) (eval test X.env) Q E s := by
  have name : ∀ {x : Str} {c : Value} {p : Pos} {Q : Value → Shared → Prop} {E : Value → Shared → Prop}, Names X x c → Q c s → wpAny (model X.prog X.w) (X.A.mark (some (.ref a))) (eval (.Name x p) X.env) Q E s := by
    intro x c p Q E hc q
    obtain ⟨hg, hdbg, hm | ⟨hm, hv, hnn⟩⟩ := hc
    · exact ld_glob (X := X.suite a pn) S hg hm q hdbg
    · exact ld_blt (X := X.suite a pn) S hg hm hv q hnn hdbg
  cases ht with
  | @one x c p h =>
    refine name h ?_
    refine q c s.heap (fun _ _ z => z) fun cls e LT hx => ?_
    obtain ⟨b1, d1, x1, y1, z1⟩ := PySem.W.exmAny_cons hx
    have : some false = some d1 := y1
    cases this
    have hb : b1 = true := by rw [Bool.or_false] at z1; exact z1.symm
    subst hb
    exact PySem.W.exm_one S.kIn LT x1
  | @two x y c d p q0 p3 k h h2 =>
    refine wpAny_Tuple_spliced ?_
    refine Calls.spliced_cons (name h (Calls.spliced_cons (name h2 (Calls.spliced_nil ⟨by rw [sizeLine_eq]; exact Nat.le_of_ble_eq_true rfl, ?_⟩))))
    have kp : ∀ b o, s.heap.get? b = some o → (s.heap.push (PySem.W.kdv_tup [c, d])).get? b = some o := fun b o e => Heap.get?_push_of_some _ e
    exact q _ _ kp fun cls e LT hx => PySem.W.exm_tup2 (S.kIn.keeps kp) LT (Heap.get?_push_size _ rfl) hx
/-- what is wished of an exception of the body -/
def wKeep (K : PySem.W.Frag) (cs : List Value) (i j : Nat) (D : Ends) : WX := fun cls d σ H => PySem.W.exmAny K cls cs = some true ∧
  ∀ a o, H a = none → Zc cls d o → (∃ us, o.data = .fields us) → D.nx (((σ.set i (some (.ref a))).set j (some (.ref a))).set i none) (upd H a (ObX a o))
theorem ps_tryK {body : List Stmt} {test : Expr} {cs : List Value} {n y : Str} {i j : Nat} {p1 p2 p3 pos' pos : Pos} {tb : WX → TS} (hs : X.stack = X.env :: X.outer) (hf : X.env.frame = some X.env.locals) (hx : X.ex = []) (hN : X.N.Nodup) (ht : TestX X test cs)
    (hi : X.N[i]? = some n) (hln : X.env.kindOf n = some .local) (hj : X.N[j]? = some y) (hly : X.env.kindOf y = some .local) (hdn : (n == ("__debug__" : Str)) = false) (hcn : (n == ("__classdict__" : Str)) = false)
    (hb : ∀ (W : WX) (pn : List (Addr × Obj)) (xe : Value → Shared → Prop), Takes (X.tr pn xe) W → PassesOwn (model X.prog X.w) X.A X.env xe → PSs (X.tr pn xe) body (tb W)) :
    PS X (.Try body [.ExceptHandler (some test) (some n) [.Assign [.Name y p1] (.Name n p2) p3] pos'] [] [] pos) (fun D σ H => tb (fun cls d σ H => σ.length = X.N.length → wKeep X.K cs i j D cls d σ H) D σ H) := by
  constructor
  intro pins s σ H D I h
  have ok := I.ok
  have frm : X.A.frames = some (X.env :: X.outer) := by rw [ok.frames, hs]
  refine wpAny_Try_except ?_
  refine wpAny_mono ((hb (fun cls d σ H => σ.length = X.N.length → wKeep X.K cs i j D cls d σ H) (X.pn ++ pins) _ ?tk PassesOwn.looking).run [] s σ H D (I.toTry _) h) (fun f s1 hsp => ?_) (fun e s1 he => he)
  case tk =>
    rintro u s' ⟨a, B, sI, pins', σ', H', cls, d, rfl, J', nb, up, sky, na, os, ag, w⟩
    obtain ⟨wx, w⟩ := w J'.len
    have J : L2.Inv X pins σ' H' sI := J'.ofTry ok
    have sky2 : Sky B (X.env :: X.outer) a (Zc cls d) X.env.locals s'.heap := by rw [← hs]; exact sky
    refine Sky.land Zc.steady frm hf sky2 fun h3 fl3 up3 => ?_
    have J3 : L2.Inv X pins σ' H' { s' with heap := h3 } := J.landed nb fl3.1 (up.trans up3) os ag
    obtain ⟨oe3, vs3, he3, hz3, hd3⟩ := fl3.there
    have nfr : a ∉ frs (X.env :: X.outer) := fun hm => by
      obtain ⟨_, o', e', hnf⟩ := fl3.2.2.1.mem hm
      rw [he3] at e'
      cases e'
      exact hnf _ hd3
    have nL : a ≠ X.env.locals := fun z => nfr (List.mem_filterMap.mpr ⟨X.env, List.mem_cons_self, by rw [hf, z]⟩)
    have nF : a ∉ X.fs := fun hm => by
      obtain ⟨e, he, q⟩ := List.mem_filterMap.mp hm
      exact nfr (List.mem_filterMap.mpr ⟨e, List.mem_cons_of_mem _ he, q⟩)
    have sIn : sI.heap.get? a = none := by
      cases q : sI.heap.get? a with
      | none => rfl
      | some o => exact absurd (nb a o q (by rw [hs]; exact nfr)) (by rw [fl3.2.1]; intro z; cases z)
    have s0n : X.s_0.heap.get? a = none := by
      cases q : X.s_0.heap.get? a with
      | none => rfl
      | some o =>
        obtain ⟨o', q'⟩ := J.base.there a o q (by rw [hx]; intro z; cases z)
        rw [sIn] at q'; cases q'
    have nC : ∀ x c, X.env.cells.lookup x = some c → c ≠ a := fun x c q z => by
      obtain ⟨v, o, ho, _⟩ := J.cell x c q
      rw [z, sIn] at ho; cases ho
    have nP : ∀ p ∈ X.pn ++ pins, p.1 ≠ a := fun p hp z => by
      have := (J.pin p hp).1
      rw [z, sIn] at this; cases this
    have S3 := J3.suite he3 hd3 na nL nF
    refine wpAny_handleBy_cons (codeAny_handlers_test ?_) (by intro q; cases q)
    refine test_run ht S3 fun tv hT kT mt => ?_
    have LT : PySem.W.Looks (model X.prog X.w) hT (typeOf (.ref a)) cls := fun A Q E s k q => wpAny_typeOf_ref (k _ _ (kT _ _ he3)) (by rw [hz3.1]; exact q)
    refine (mt cls a LT wx).here ?_
    refine codeAny_handlers_suite_as ?_
    have fl3' := fly_grow fl3 kT
    refine HandSPX.lands_againZ fl3' fun h4 fl4 up4 => ?_
    have J4 : L2.Inv X pins σ' H' { s' with heap := h4 } := J.landed nb fl4.1 (((up.trans up3).trans (up_grow kT)).trans up4) os ag
    obtain ⟨oe4, vs4, he4, hz4, hd4⟩ := fl4.there
    have S4 := J4.suite he4 hd4 na nL nF
    refine store_ok (X := X.suite a ((a, oe4) :: (X.pn ++ pins))) (v := .ref a) S4 hN hi (.inl hln) rfl (fun s5 S5 => ?_) (.inr hln)
    have suite := pss_one (ps_set (X := X.suite a ((a, oe4) :: (X.pn ++ pins))) (i := j) (pos := p3) (pos' := p1) hN hj (.inl hly) (pe_var (X := X.suite a ((a, oe4) :: (X.pn ++ pins))) (i := i) (pos := p2) hi (.inl hln) hdn hcn) rfl (.inr hly))
    have len : σ'.length = X.N.length := J.len
    have li : i < σ'.length := by
      rw [len]; exact (List.getElem?_eq_some_iff.mp hi).1
    refine wpAny_mono (suite.run [] s5 _ H' { nx := fun σ6 H6 => σ6 = (σ'.set i (some (.ref a))).set j (some (.ref a)) ∧ H6 = H', rt := fun _ _ => False, bk := fun _ _ => False, ct := fun _ _ => False } S5 ⟨.ref a, by simp [li], rfl, rfl⟩) (fun f s6 hsp => ?_) (fun _ _ z => False.elim z)
    rcases f with u | _ | _ | _
    · obtain ⟨σ6, H6, S6, e6, e7⟩ := hsp
      subst e6 e7
      obtain ⟨g1, g2, _⟩ := S6.pin (a, oe4) (by simp)
      have I6 := inv_track (S6.unsuite ok) na g1 s0n nL nC nP
      exact gone_ok I6 hN hi hln fun s7 J7 => ⟨_, _, J7, w a oe4 na hz4 ⟨_, hd4⟩⟩
    · obtain ⟨_, _, _, z⟩ := hsp; exact z.elim
    · obtain ⟨_, _, _, z⟩ := hsp; exact z.elim
    · obtain ⟨_, _, _, _, _, z⟩ := hsp; exact z.elim
  rcases f with u | _ | _ | _
  · obtain ⟨σ', H', J', q⟩ := hsp
    exact wpAny_execs_nil ⟨σ', H', J'.ofTry ok, q⟩
  · obtain ⟨σ', H', J', q⟩ := hsp
    exact ⟨σ', H', J'.ofTry ok, q⟩
  · obtain ⟨σ', H', J', q⟩ := hsp
    exact ⟨σ', H', J'.ofTry ok, q⟩
  · obtain ⟨v, σ', H', J', r, q⟩ := hsp
    exact ⟨v, σ', H', J'.ofTry ok, r, q⟩
end
end Bk
set_option Elab.async false
set_option linter.all false
set_option maxRecDepth 100000
set_option maxHeartbeats 1000000
namespace Bk
open PySem L2
structure Cxt where
  N : List Str
  sc : Scope
  fn : Str → Bool
  /-- lambdas may be made here -/
  lam : Bool
  /-- the function that was got: its name, its slot -/
  lv : Option (Str × Nat)
structure PrN where
  cs : List (Nat × Str)
  ds : List (Nat × Str)
  /-- classes of exceptions: names, fields -/
  xs : List (Nat × Str × List Str)
  /-- defs that tell what comes of a call: names, labels by classes -/
  sd : List (Nat × Str × List (Nat × Str))
  /-- defs that get a function last: names -/
  ls : List (Nat × Str)
  /-- defs with keyword-only parameters: names, those parameters -/
  kw : List (Nat × Str × List Str)
  /-- ways of calling: the def, its name, how many are written by place, the names behind, the order -/
  kp : List (Nat × Nat × Str × Nat × List Str × List Pik) := []
  /-- classes that are asked of exceptions: names, which ones are of one of them, which of none -/
  xi : List (List Str × List Nat × List Nat) := []
def visB (sc : Scope) (x : Str) : Bool := match sc.names.lookup x with
  | some .local => true
  | some .cell => true
  | some .free => true
  | _ => false
def glB (sc : Scope) (x : Str) : Bool := match sc.names.lookup x with
  | some .globalImplicit => true
  | _ => false
def locB (c : Cxt) (x : Str) : Bool := match c.sc.names.lookup x with
  | some .local => true
  | some .cell => c.fn x
  | _ => false
def okN (x : Str) : Bool := !(x == ("__debug__" : Str)) && !(x == ("__classdict__" : Str)) && !(x == ("__name__" : Str))
def nSt : Expr → Bool
  | .Starred .. => false
  | _ => true
def nSet : Expr → Bool
  | .Set .. => false
  | _ => true
def nSli : Expr → Bool
  | .Slice .. => false
  | _ => true
def opB : Op → Operator → Bool
  | .add, .Add => true
  | .sub, .Sub => true
  | .mul, .Mult => true
  | .div, .FloorDiv => true
  | .mod, .Mod => true
  | .pow, .Pow => true
  | _, _ => false
def cmB : Cm → CmpOp → Bool
  | .eq, .Eq => true
  | .ne, .NotEq => true
  | .lt, .Lt => true
  | .le, .LtE => true
  | .gt, .Gt => true
  | .ge, .GtE => true
  | .isin, .In => true
  | .notin, .NotIn => true
  | .isN, .Is => true
  | .notN, .IsNot => true
  | _, _ => false
def cstB : Const → D → Bool
  | .none, .non => true
  | .bool b, .bl b' => b == b'
  | .int i, .int i' => decide (i = i')
  | .str x, .str x' => decide (x = x')
  | _, _ => false
def biN : Bi → Str
  | .len => "len"
  | .all => "all"
  | .any => "any"
  | .sum => "sum"
  | .min => "min"
  | .max => "max"
  | .min2 => "min"
  | .max2 => "max"
  | .sorted => "sorted"
  | .tuple => "tuple"
  | .list => "list"
  | .int => "int"
  | .repr => "repr"
  | .maxd => "max"
  | .mind => "min"
  | .sortd => "sorted"
def tyB (c : Cxt) : Expr → Ty → Bool
  | .Name y _, t => decide (y = Str.ofString (tyN t)) && glB c.sc y
  | _, _ => false
def ownOf (c : Cxt) (t : T) : List (Str × Nat) := t.vars.map fun i => (c.N.getD i "", i)
def blkCtx (c : Cxt) (scope : Scope) : Cxt := ⟨c.N, relS scope c.sc, fun x => scope.names.lookup x == some .cell, false, none⟩
def lamCtx (c : Cxt) (scope : Scope) : Cxt := ⟨c.N, scope, fun _ => false, false, none⟩
/-- the body of a try -/
def tryCtx (c : Cxt) : Cxt := ⟨c.N, c.sc, c.fn, false, match c.lv with | some (x, j) => if 1000 ≤ j then some (x, j) else none | none => none⟩
/-- what a clause asks -/
def testNs : Expr → Option (List Str)
  | .Name x _ => some [x]
  | .Tuple [.Name x _, .Name y _] _ _ => some [x, y]
  | _ => none
def lamYs : Arguments → Option (List Str)
  | ⟨[], [], none, [], [], none, []⟩ => some []
  | ⟨[], [⟨y, none, _⟩], none, [], [], none, [.Constant (.int _) _ _]⟩ => if y = "_law_y" ∨ y = "_law_x" ∨ y = "_law_k" then some [y] else none
  | _ => none
/-- one parameter, without a default -/
def lam1 : Arguments → Option Str
  | ⟨[], [⟨y, none, _⟩], none, [], [], none, []⟩ => some y
  | _ => none
def lam1B (N : List Str) (sc scope : Scope) (y : Str) : Bool := decide (scope.kind = .function) && !scope.isCoroutine && !scope.isGenerator && decide (scope.names.lookup y = some .local) &&
  scope.names.all fun z => !decide (z.2 = .cell) && (!decide (z.2 = .local) || decide (z.1 = y) || !decide (z.1 ∈ N)) && (!decide (z.2 = .free) || decide (sc.names.lookup z.1 = some .cell) || decide (sc.names.lookup z.1 = some .free))
def unsnoc : List Expr → Option (List Expr × Expr)
  | [] => none
  | [x] => some ([], x)
  | x :: y :: r => (unsnoc (y :: r)).map fun q => (x :: q.1, q.2)
theorem lamYs_ok {a : Arguments} {ys : List Str} (h : lamYs a = some ys) : LPar a ys := by
  unfold lamYs at h
  split at h
  · cases h; exact .zero
  · split at h
    · cases h; exact .one (by assumption)
    · cases h
  · cases h
def lamQB (N : List Str) (sc scope : Scope) (ys : List Str) : Bool := decide (scope.kind = .function) && !scope.isCoroutine && !scope.isGenerator && (ys.all fun y => decide (scope.names.lookup y = some .local)) &&
  scope.names.all fun z => !decide (z.2 = .cell) && (!decide (z.2 = .local) || !decide (z.1 ∈ N)) && (!decide (z.2 = .free) || decide (sc.names.lookup z.1 = some .cell) || decide (sc.names.lookup z.1 = some .free))
theorem lamQ_ok {N : List Str} {sc scope : Scope} {ys : List Str} (h : lamQB N sc scope ys = true) : LamQ N sc scope ys := by
  unfold lamQB at h
  simp only [Bool.and_eq_true, Bool.or_eq_true, Bool.not_eq_true', decide_eq_true_eq, decide_eq_false_iff_not, List.all_eq_true] at h
  obtain ⟨⟨⟨⟨h1, h2⟩, h3⟩, h4⟩, h5⟩ := h
  refine ⟨h1, h2, h3, fun z hz => (h5 z hz).1.1, fun z hz e => ?_, h4, fun z hz e => ?_⟩
  · rcases (h5 z hz).1.2 with q | q
    · exact absurd e q
    · exact q
  · rcases (h5 z hz).2 with (q | q) | q
    · exact absurd e q
    · exact .inl q
    · exact .inr q
mutual
def chkT : Nat → Cxt → Expr → T → Bool
  | 0, _, _, _ => false
  | n + 1, c, e, t => match t with
    | .var i => (match e with
      | .Name x _ => decide (c.N[i]? = some x) && locB c x
      | _ => false)
    | .tup ts => (match e with
      | .Tuple es _ _ => chkTs n c es ts
      | _ => false)
def chkTs : Nat → Cxt → List Expr → List T → Bool
  | 0, _, _, _ => false
  | _ + 1, _, [], [] => true
  | n + 1, c, e :: es, t :: ts => nSt e && chkT n c e t && chkTs n c es ts
  | _ + 1, _, _, _ => false
end
def one? : Expr → Option Expr
  | .BoolOp _ [x] _ => some x
  | _ => none
/-- the first n arguments, the others -/
def splitA : Nat → A → Option (A × A)
  | 0, as => some (.nil, as)
  | n + 1, .cons e as => (match splitA n as with
    | some (a, b) => some (.cons e a, b)
    | none => none)
  | _, _ => none
/-- not super() -/
def nSup : Expr → Bool
  | .Name _ _ => true
  | .Subscript _ _ _ => true
  | .Call _ (_ :: _) _ _ => true
  | _ => false
theorem nSup_ok {e : Expr} (h : nSup e = true) (x : Str) (env : Env) (m : Sem Value) : attributeBase e x env m = m := by
  unfold nSup at h
  split at h
  · rfl
  · rfl
  · rename_i f a as kw p
    cases f <;> rfl
  · cases h
def keysB : List (Option Expr) → List Str → Bool
  | [], [] => true
  | some (.Constant (.str x) _ _) :: r, k :: ks => decide (x = k) && keysB r ks
  | _, _ => false
mutual
def chkE : Nat → PrN → Cxt → Expr → E → Bool
  | 0, _, _, _, _ => false
  | n + 1, pn, c, e, E => match one? e with
    | some x => chkE n pn c x E
    | none => match E with
      | .cst d => (match e with
        | .Constant k _ _ => cstB k d
        | _ => false)
      | .var i => (match e with
        | .Name x _ => decide (c.N[i]? = some x) && visB c.sc x
        | _ => false)
      | .glb i => (match e with
        | .Name x _ => decide ((i, x) ∈ pn.cs) && glB c.sc x
        | _ => false)
      | .bin o a' b' => (match e with
        | .BinOp a op b _ => opB o op && chkE n pn c a a' && chkE n pn c b b'
        | _ => false)
      | .neg a' => (match e with
        | .UnaryOp .USub a _ => chkE n pn c a a'
        | _ => false)
      | .cmp o a' b' => (match e with
        | .Compare a [op] [b] _ => cmB o op && chkE n pn c a a' && chkE n pn c b b' && nSet b
        | _ => false)
      | .chn o o' a' b' d' => (match e with
        | .Compare a [op, op'] [b, d] _ => cmB o op && cmB o' op' && chkE n pn c a a' && chkE n pn c b b' && chkE n pn c d d' && nSet d
        | _ => false)
      | .and a b => (match e with
        | .BoolOp .And (x :: y :: r) pos => chkE n pn c x a && chkE n pn c (.BoolOp .And (y :: r) pos) b
        | _ => false)
      | .or a b => (match e with
        | .BoolOp .Or (x :: y :: r) pos => chkE n pn c x a && chkE n pn c (.BoolOp .Or (y :: r) pos) b
        | _ => false)
      | .not a' => (match e with
        | .UnaryOp .Not a _ => chkE n pn c a a'
        | _ => false)
      | .ife t' a' b' => (match e with
        | .IfExp t a b _ => chkE n pn c t t' && chkE n pn c a a' && chkE n pn c b b'
        | _ => false)
      | .tup as => (match e with
        | .Tuple es _ _ => chkA n pn c es as && decide (es.length ≤ 1000)
        | _ => false)
      | .lst as => (match e with
        | .List es _ => chkA n pn c es as && decide (es.length ≤ 1000)
        | _ => false)
      | .sl a' lo' hi' => (match e with
        | .Subscript a (.Slice lo hi none _) _ => chkE n pn c a a' && chkO n pn c lo lo' && chkO n pn c hi hi'
        | _ => false)
      | .idx a' b' => (match e with
        | .Subscript a b _ => chkE n pn c a a' && chkE n pn c b b' && nSli b
        | _ => false)
      | .lc elt' t it cond => (match e with
        | .ListComp elt [⟨tg, iter, ifs, z⟩] scope _ => decide (z = 0) && blkC c.N c.sc scope (ownOf c t) && nSet iter && chkT n (blkCtx c scope) tg t && chkI n pn c tg iter it &&
          (match ifs, cond with
            | [], none => true
            | [q], some q' => chkE n pn (blkCtx c scope) q q'
            | _, _ => false) && chkE n pn (blkCtx c scope) elt elt'
        | _ => false)
      | .call f as => (match e with
        | .Call (.Name x _) es [] _ => decide (f ≠ LAM) && decide ((f, x) ∈ pn.ds) && glB c.sc x && chkA n pn c es as
        | .Call (.Name x _) es kws _ => (match pn.kw.lookup f with
          | some (y, ks) => (match splitA es.length as with
            | some (a1, a2) => decide (f ≠ LAM) && decide (y = x) && glB c.sc x && !es.isEmpty && decide (kws.map (·.arg) = ks.map some) && chkA n pn c es a1 && chkA n pn c (kws.map (·.value)) a2
            | none => false)
          | none => false)
        | _ => false)
      | .bi b as => (match e with
        | .Call (.Name x _) es [] _ => decide (x = biN b) && glB c.sc x && chkA n pn c es as && !es.isEmpty
        | _ => false)
      | .isi a' ts => (match e with
        | .Call (.Name x _) [a, b] [] _ => decide (x = ("isinstance" : Str)) && glB c.sc x && chkE n pn c a a' && nSt a && (match ts with
          | [t] => tyB c b t
          | [t, u] => (match b with
            | .Tuple [b1, b2] _ _ => tyB c b1 t && tyB c b2 u
            | _ => false)
          | _ => false)
        | _ => false)
      | .cat a' b' => (match e with
        | .BinOp a .Add b _ => chkE n pn c a a' && chkE n pn c b b'
        | _ => false)
      | .rev a' => (match e with
        | .Subscript a (.Slice none none (some (.UnaryOp .USub (.Constant (.int i) _ _) _)) _) _ => decide (i = 1) && chkE n pn c a a'
        | _ => false)
      | .idxO i b' => (match e with
        | .Subscript (.Name x _) b _ => decide (c.N[i]? = some x) && visB c.sc x && chkE n pn c b b' && nSli b
        | _ => false)
      | .emO neg i => (match e with
        | .Compare (.Name x _) [op] [.List [] _] _ => (match neg, op with
          | true, .NotEq => true
          | false, .Eq => true
          | _, _ => false) && decide (c.N[i]? = some x) && visB c.sc x
        | _ => false)
      | .dnil => (match e with
        | .Dict [] [] _ => true
        | _ => false)
      | .done k' v' => (match e with
        | .Dict [some k] [v] _ => chkE n pn c k k' && chkE n pn c v v'
        | _ => false)
      | .inO neg a' i => (match e with
        | .Compare a [op] [.Name x _] _ => (match neg, op with
          | true, .NotIn => true
          | false, .In => true
          | _, _ => false) && chkE n pn c a a' && decide (c.N[i]? = some x) && visB c.sc x
        | _ => false)
      | .lrng1 a' => (match e with
        | .Call (.Name f _) [.Call (.Name r _) [a] [] _] [] _ => decide (f = ("list" : Str)) && glB c.sc f && decide (r = ("range" : Str)) && glB c.sc r && chkE n pn c a a' && nSt a
        | _ => false)
      | .lrng2 a' b' => (match e with
        | .Call (.Name f _) [.Call (.Name r _) [a, b] [] _] [] _ => decide (f = ("list" : Str)) && glB c.sc f && decide (r = ("range" : Str)) && glB c.sc r && chkE n pn c a a' && nSt a && chkE n pn c b b' && nSt b
        | _ => false)
      | .lenO i => (match e with
        | .Call (.Name f _) [.Name x _] [] _ => decide (f = ("len" : Str)) && glB c.sc f && decide (c.N[i]? = some x) && visB c.sc x
        | _ => false)
      | .tupS as => (match e with
        | .Tuple es _ _ => chkAS n pn c es as
        | _ => false)
      | .lstS as => (match e with
        | .List es _ => chkAS n pn c es as
        | _ => false)
      | .said v tb e' => (match e with
        | .Call (.Name x _) [.Lambda params body scope _] [] _ => c.lam && decide (pn.sd.lookup v = some (x, tb)) && glB c.sc x && (match lamYs params with
          | some ys => lamQB c.N c.sc scope ys
          | none => false) && chkE n pn (lamCtx c scope) body e'
        | _ => false)
      | .callP f v ix as => (match e with
        | .Call (.Name x _) es kws _ => (match pn.kp.lookup v with
          | some (g, y, m, ks, jx) => (match splitA es.length as with
            | some (a1, a2) => decide (f ≠ LAM) && decide (g = f) && decide (y = x) && decide (m = es.length) && decide (ix = jx) && glB c.sc x && decide (kws.map (·.arg) = ks.map some) && chkA n pn c es a1 && chkA n pn c (kws.map (·.value)) a2
            | none => false)
          | none => false)
        | _ => false)
      | .callL f as i e' => (match e with
        | .Call (.Name x _) es [] _ => (match unsnoc es with
          | some (es, .Lambda params body scope _) => c.lam && decide (pn.ls.lookup f = some x ∧ f < 500000) && glB c.sc x && chkA n pn c es as && (match lam1 params with
            | some y => decide (c.N[i]? = some y) && okN y && lam1B c.N c.sc scope y
            | none => false) && chkE n pn (lamCtx c scope) body e'
          | _ => false)
        | _ => false)
      | .callv i a' => (match e with
        | .Call (.Name x _) [a] [] _ => decide (c.lv = some (x, i)) && nSt a && chkE n pn c a a' && decide (i < 1000)
        | _ => false)
      | .isX a' yes no => (match e with
        | .Call (.Name x _) [a, .Name y _] [] _ => decide (x = ("isinstance" : Str)) && glB c.sc x && glB c.sc y && nSt a && decide (([y], yes, no) ∈ pn.xi) && chkE n pn c a a'
        | _ => false)
      | .fld a' m cs => (match e with
        | .Attribute a m' _ => decide (m' = m) && nSup a && chkE n pn c a a' && cs.all fun q => match pn.xs.lookup q.1 with
          | some (_, ns) => decide (ns[q.2]? = some m)
          | none => false
        | _ => false)
      | .mkX k as => (match e with
        | .Call (.Name x _) (e0 :: es) [] _ => (match pn.xs.lookup k with
          | some (y, ns) => decide (x = y) && glB c.sc x && chkA n pn c (e0 :: es) as && decide ((e0 :: es).length = ns.length)
          | none => false)
        | _ => false)
      | .mkXk k ix as => (match e with
        | .Call (.Name x _) [] kws _ => (match pn.xs.lookup k with
          | some (y, ns) => decide (x = y) && glB c.sc x && chkA n pn c (kws.map (·.value)) as && (kwsOf ns).any fun q => decide (kws.map (·.arg) = q.1.map some) && decide (q.2 = ix)
          | none => false)
        | _ => false)
      | .dkd ks as => (match e with
        | .Dict keys es _ => keysB keys ks && chkA n pn c es as && decide (1 ≤ ks.length ∧ ks.length ≤ 15 ∧ ks.length = es.length)
        | _ => false)
      | .callL0 f as e' => (match e with
        | .Call (.Name x _) es [] _ => (match unsnoc es with
          | some (es, .Lambda params body scope _) => c.lam && decide (pn.ls.lookup (f + 500000) = some x) && glB c.sc x && chkA n pn c es as && (match lamYs params with
            | some ys => lamQB c.N c.sc scope ys
            | none => false) && chkE n pn (lamCtx c scope) body e'
          | _ => false)
        | _ => false)
      | .callv0 i => (match e with
        | .Call (.Name x _) [] [] _ => decide (c.lv = some (x, i + 1000))
        | _ => false)
      | .dcp k' v' t it => (match e with
        | .DictComp kx vx [⟨tg, iter, ifs, z⟩] scope _ => decide (z = 0) && ifs.isEmpty && blkC c.N c.sc scope (ownOf c t) && nSet iter && chkT n (blkCtx c scope) tg t && chkI n pn c tg iter it && chkE n pn (blkCtx c scope) kx k' && chkE n pn (blkCtx c scope) vx v'
        | _ => false)
      | .dcp2 k' v' t it t1 it1 => (match e with
        | .DictComp kx vx [⟨tg, iter, [], z⟩, ⟨tg1, iter1, [], z1⟩] scope _ => decide (z = 0) && decide (z1 = 0) && blkC c.N c.sc scope (ownOf c (.tup [t, t1])) && nSet iter && nSet iter1 && chkT n (blkCtx c scope) tg t && chkI n pn c tg iter it && chkT n (blkCtx c scope) tg1 t1 && chkI n pn (blkCtx c scope) tg1 iter1 it1 && chkE n pn (blkCtx c scope) kx k' && chkE n pn (blkCtx c scope) vx v'
        | _ => false)
      | .draw a' b' => (match e with
        | .Call (.Name x _) [a, b] [] _ => decide (x = ("_law_draw" : Str)) && glB c.sc x && chkE n pn c a a' && chkE n pn c b b' && nSt a && nSt b
        | _ => false)
def chkO : Nat → PrN → Cxt → Option Expr → Option E → Bool
  | 0, _, _, _, _ => false
  | _ + 1, _, _, none, none => true
  | n + 1, pn, c, some e, some e' => chkE n pn c e e'
  | _ + 1, _, _, _, _ => false
def chkA : Nat → PrN → Cxt → List Expr → A → Bool
  | 0, _, _, _, _ => false
  | _ + 1, _, _, [], .nil => true
  | n + 1, pn, c, e :: es, .cons e' as => nSt e && chkE n pn c e e' && chkA n pn c es as
  | _ + 1, _, _, _, _ => false
def chkAS : Nat → PrN → Cxt → List Expr → A → Bool
  | 0, _, _, _, _ => false
  | _ + 1, _, _, [], .nil => true
  | n + 1, pn, c, e :: es, .cons e' as => nSt e && chkE n pn c e e' && chkAS n pn c es as
  | n + 1, pn, c, .Starred e _ :: es, .star e' as => chkE n pn c e e' && chkAS n pn c es as
  | _ + 1, _, _, _, _ => false
def chkI : Nat → PrN → Cxt → Expr → Expr → I → Bool
  | 0, _, _, _, _, _ => false
  | n + 1, pn, c, tg, e, i => match i with
    | .seq e' => chkE n pn c e e'
    | .rng1 a' => (match e with
      | .Call (.Name x _) [a] [] _ => decide (x = ("range" : Str)) && glB c.sc x && chkE n pn c a a' && nSt a
      | _ => false)
    | .rng2 a' b' => (match e with
      | .Call (.Name x _) [a, b] [] _ => decide (x = ("range" : Str)) && glB c.sc x && chkE n pn c a a' && chkE n pn c b b' && nSt a && nSt b
      | _ => false)
    | .zip a' b' => (match tg, e with
      | .Tuple _ _ _, .Call (.Name x _) [a, b] [] _ => decide (x = ("zip" : Str)) && glB c.sc x && chkE n pn c a a' && chkE n pn c b b' && nSt a && nSt b
      | _, _ => false)
    | .enum a' => (match tg, e with
      | .Tuple _ _ _, .Call (.Name x _) [a] [] _ => decide (x = ("enumerate" : Str)) && glB c.sc x && chkE n pn c a a' && nSt a
      | _, _ => false)
    | .items a' => (match tg, e with
      | .Tuple _ _ _, .Call (.Attribute a m apos) [] [] cpos => decide (m = ("items" : Str)) && chkE n pn c a a' && nSup a && (apos.endLine == cpos.line)
      | _, _ => false)
end
end Bk
set_option Elab.async false
set_option linter.all false
set_option maxRecDepth 100000
set_option maxHeartbeats 2000000
namespace Bk
open PySem L2
open Evl (Ex ex_l ex_t)
theorem vis_of {sc : Scope} {x : Str} (h : visB sc x = true) : Vis sc x := by
  unfold visB at h
  split at h
  · exact .inl (by assumption)
  · exact .inr (.inl (by assumption))
  · exact .inr (.inr (by assumption))
  · cases h
theorem gl_of {sc : Scope} {x : Str} (h : glB sc x = true) : sc.names.lookup x = some .globalImplicit := by
  unfold glB at h
  split at h
  · assumption
  · cases h
theorem star_of {e : Expr} (h : nSt e = true) (es : List Expr) (env : Env) : starEach (e :: es) env = (false, eval e env) :: starEach es env := by
  cases e <;> first | rfl | cases h
def nSts : List Expr → Bool
  | [] => true
  | e :: es => nSt e && nSts es
theorem back_of (pos : Pos) (env : Env) : ∀ {es : List Expr}, nSts es = true → (backTo pos (starEach es env)).any (·.1) = false
  | [], _ => rfl
  | e :: es, h => by
    simp only [nSts, Bool.and_eq_true] at h
    rw [star_of h.1]
    show (false || (backTo pos (starEach es env)).any (·.1)) = false
    rw [back_of pos env h.2]
    rfl
theorem set_of {e : Expr} (h : nSet e = true) (env : Env) (x : Value) : foldedSetIterable e env x = pure x := by
  cases e <;> first | rfl | cases h
theorem marks_of {e : Expr} (h : nSet e = true) (op : CmpOp) : behindInMarks op e = false := by
  cases e <;> first | rfl | cases h
theorem ix_of {e : Expr} (h : nSli e = true) : PlainIx e := by
  intro o i
  cases e <;> first | rfl | cases h
theorem op_of {o : Op} {op : Operator} (h : opB o op = true) : op = opOf o := by
  cases o <;> cases op <;> first | rfl | cases h
theorem cm_of {o : Cm} {op : CmpOp} (h : cmB o op = true) : op = cmOf o := by
  cases o <;> cases op <;> first | rfl | cases h
def bNames : List Str := ["len", "all", "any", "sum", "min", "max", "sorted", "tuple", "list", "int", "repr", "isinstance", "range", "zip", "enumerate", "bool", "str"]
/-- how deep a call of level k may go -/
abbrev ix (k : Nat) : Nat := 4 * k + 2
/-- the def x is one that tells what comes of a call -/
structure SaidOk (P : Program) (w : World) (K : PySem.W.Frag) (mg : Str → Option Value) (base : Heap) (xc : List (Nat × Addr × List Str)) (x : Str) (tb : List (Nat × Str)) : Prop where
  ex : ∃ (g : Addr) (pg : Arguments) (bg : List Stmt) (sg : Scope) (dV kV doc pm cdv ct oc : Value) (an od : Option Addr) (osl : Array (Option Value)) (a : Str) (Ng : List Str), mg x = some (.ref g) ∧ PySem.W.keepIn K (.ref g) = true ∧
    K.lookup g = some ⟨oc, od, .func (PySem.W.fnOf x x pg bg sg dV kV doc pm an cdv ct), osl⟩ ∧ PySem.W.codeIn K cdv x = true ∧ L2.Binds K (PySem.W.fnOf x x pg bg sg dV kV doc pm an cdv ct) [a] [] ∧ FnScope Ng [a] sg ∧ Ng[0]? = some a ∧ Vis sg a ∧ okN a = true ∧ okN x = true ∧
    ∀ X : Cx, X.prog = P → X.w = w → X.K = K → X.mg = mg → X.base = base → GivesM X Ng x sg g cdv bg a (X.env.qual ++ "<lambda>") (TSaid xc tb)
/-- the lambda's scope: one parameter, or some with written defaults -/
structure Lam1 (N : List Str) (sc scope : Scope) (y : Str) : Prop where
  kind : scope.kind = .function
  co : scope.isCoroutine = false
  gen : scope.isGenerator = false
  par : scope.names.lookup y = some .local
  nc : ∀ z ∈ scope.names, z.2 ≠ .cell
  loc : ∀ z ∈ scope.names, z.2 = .local → z.1 = y ∨ z.1 ∉ N
  free : ∀ z ∈ scope.names, z.2 = .free → sc.names.lookup z.1 = some .cell ∨ sc.names.lookup z.1 = some .free
theorem lam1B_ok {N : List Str} {sc scope : Scope} {y : Str} (h : lam1B N sc scope y = true) : Lam1 N sc scope y := by
  unfold lam1B at h
  simp only [Bool.and_eq_true, Bool.or_eq_true, Bool.not_eq_true', decide_eq_true_eq, decide_eq_false_iff_not, List.all_eq_true] at h
  obtain ⟨⟨⟨⟨h1, h2⟩, h3⟩, h4⟩, h5⟩ := h
  refine ⟨h1, h2, h3, h4, fun z hz => (h5 z hz).1.1, fun z hz e => ?_, fun z hz e => ?_⟩
  · rcases (h5 z hz).1.2 with (q | q) | q
    · exact absurd e q
    · exact .inl q
    · exact .inr q
  · rcases (h5 z hz).2 with (q | q) | q
    · exact absurd e q
    · exact .inl q
    · exact .inr q
/-- arguments, one by one -/
inductive Pes (X : Cx) (W : Wd) (Ew : XK) : List Expr → (Gm → G → R (List D)) → Prop where
  | nil : Pes X W Ew [] fun _ g => .ok [] g
  | cons {e : Expr} {es : List Expr} {f : Gm → G → R D} {fs : Gm → G → R (List D)} : nSt e = true → PE X e (tE X.K W Ew f) → Pes X W Ew es fs → Pes X W Ew (e :: es) fun Γ g => (f Γ g).bind fun x g => (fs Γ g).bind fun xs g => .ok (x :: xs) g
/-- what is promised of a def that gets a function last -/
def LamFn (W : Wd) (pn : PrN) (k : Nat) (kl : Calls) (X : Cx) (f : Nat) (x : Str) : Prop :=
  ∀ {c : Cxt} {Ew : XK} {es : List Expr} {fs : Gm → G → R (List D)} {params : Arguments} {body : Expr} {scope : Scope} {y : Str} {i : Nat} {q lp pos : Pos} {ev : Gm → G → R D},
    Passes (L2.CX X.prog X.w) X Ew → X.N = c.N → X.env.scope = c.sc → Gl X x → Pes X W Ew es fs → lam1 params = some y → c.N[i]? = some y → okN y = true → Lam1 c.N c.sc scope y →
    (∀ {A : Around} {outer : List Env} {s : Shared} {H : Hp} {E : XK} {f c' : Addr}, Room (4 * k + 3) (A.deeper (LamX.lamEnv X scope s.heap.objs.size f c')) → (A.deeper (LamX.lamEnv X scope s.heap.objs.size f c')).guards = some [] → PE (LamX.lamCx X A outer s H E scope f c') body (tE X.K W E ev)) →
    PE X (.Call (.Name x q) (es ++ [.Lambda params body scope lp]) [] pos) (tE X.K W Ew fun Γ g => (fs Γ g).bind fun xs g => if noFns xs && decide (i < Γ.length) then plainR (kl.l f xs (fun d g => if noFn d then plainR (ev ((noOwn Γ).set i (.val d)) g) else .st) g) else .st)
/-- what is promised of a def that gets a function of nothing last, and may hear its exceptions -/
def LamFn0 (W : Wd) (pn : PrN) (k : Nat) (kl : Calls) (X : Cx) (f : Nat) (x : Str) : Prop :=
  ∀ {c : Cxt} {Ew : XK} {es : List Expr} {fs : Gm → G → R (List D)} {params : Arguments} {body : Expr} {scope : Scope} {ys : List Str} {q lp pos : Pos} {ev : Gm → G → R D},
    Passes (L2.CX X.prog X.w) X Ew → X.N = c.N → X.env.scope = c.sc → Gl X x → Pes X W Ew es fs → LPar params ys → LamQ c.N c.sc scope ys →
    (∀ {A : Around} {outer : List Env} {s : Shared} {H : Hp} {E : XK} {f c' : Addr}, Room (4 * k + 3) (A.deeper (LamX.lamEnv X scope s.heap.objs.size f c')) → (A.deeper (LamX.lamEnv X scope s.heap.objs.size f c')).guards = some [] → PE (LamX.lamCx X A outer s H E scope f c') body (tE X.K W E ev)) →
    PE X (.Call (.Name x q) (es ++ [.Lambda params body scope lp]) [] pos) (tE X.K W Ew fun Γ g => (fs Γ g).bind fun xs g => if noFns xs then plainX (kl.l f xs (fun _ g => plainX (ev (noOwn Γ) g)) g) else .st)
/-- the value of a class -/
def vV : V → Value
  | .ref a => .ref a
  | .ty t => .type t
  | _ => .none
/-- a class's name: an own one, a built-in one -/
def ClsN (mg : Str → Option Value) (y : Str) (c : V) : Prop := okN y = true ∧ ((∃ C, c = .ref C ∧ mg y = some (.ref C)) ∨ ∃ T, c = .ty T ∧ mg y = none ∧ bootBuiltins y = some (.type T))
/-- classes that are asked of exceptions -/
def XiOk (K : PySem.W.Frag) (mg : Str → Option Value) (xc : List (Nat × Addr × List Str)) (ys : List Str) (yes no : List Nat) : Prop := ∃ cvs : List V, Paired (ClsN mg) ys cvs ∧ ∀ n C ns, xc.lookup n = some (C, ns) →
  (n ∈ yes → PySem.W.exmAny K (.ref C) (cvs.map vV) = some true ∧ ∀ c, cvs = [c] → PySem.W.kitOne K (.ref C) (vV c) = some true) ∧ (n ∈ no → ∀ c, cvs = [c] → PySem.W.kitOne K (.ref C) (vV c) = some false)
def call0R (kl : Calls) (j : Nat) : Gm → G → R D := fun Γ g => match Γ[j]? with
  | some (.val .fn) => kl LAM [.non] g
  | _ => .st
/-- lambdas may be made -/
structure LamC (W : Wd) (pn : PrN) (p : Pr) (k : Nat) (kl : Calls) (X : Cx) : Prop where
  room : Room (4 * k + 5) X.A
  ex : ∃ c0 P, X.env.code = .ref c0 ∧ LamX.TabB X.base X.mg c0 P ∧ (P, X.env.qual ++ "<lambda>") ∈ W.tb ∧ ∀ p ∈ W.tb, p.1 = P → p.2 = X.env.qual ++ "<lambda>"
  sd : ∀ v x tb, pn.sd.lookup v = some (x, tb) → SaidOk X.prog X.w X.K X.mg X.base W.xc x tb
  ls : ∀ f x, f < 500000 → pn.ls.lookup f = some x → LamFn W pn k kl X f x
  ls0 : ∀ f x, pn.ls.lookup (f + 500000) = some x → LamFn0 W pn k kl X f x
structure Ok (CX : CXT) (W : Wd) (pn : PrN) (p : Pr) (k : Nat) (kl : Calls) (c : Cxt) (Ew : XK) (X : Cx) : Prop where
  N : X.N = c.N
  sc : X.env.scope = c.sc
  fn : X.fn = c.fn
  nd : X.N.Nodup
  nm : ∀ x ∈ X.N, okN x = true
  calm : X.calm = true
  room : Room (ix k) X.A
  gd : X.A.guards = some []
  pass : Passes CX X Ew
  own : PassesOwn (model X.prog X.w) X.A X.env X.xe
  cxf : ∀ outer H s e s', CX outer H s E0 e s' → False
  cs : ∀ (i : Nat) (d : D) (x : Str), p.cs.lookup i = some d → (i, x) ∈ pn.cs → ∃ u v, okN x = true ∧ X.mg x = some u ∧ RelV v u ∧ ∀ H, Rp X.K W H d v
  ds : ∀ (f : Nat) (x : Str), f ≠ LAM → (f, x) ∈ pn.ds → ∃ a fd ps, okN x = true ∧ X.mg x = some (.ref a) ∧ PySem.W.keepIn X.K (.ref a) = true ∧ Binds X.K fd ps [] ∧ FnOkG X.prog X.w X.K X.mg X.base CX (ix k) a fd ps (spD X.K W ps (kl f)) ∧ ∀ ds g, kl f ds g ≠ .st → ds.length = ps.length
  kd : ∀ (f : Nat) (x : Str) (ks : List Str), f ≠ LAM → pn.kw.lookup f = some (x, ks) → ∃ a fd ps, okN x = true ∧ X.mg x = some (.ref a) ∧ PySem.W.keepIn X.K (.ref a) = true ∧ BindK X.K fd ps ks ∧ FnOkG X.prog X.w X.K X.mg X.base CX (ix k) a fd ps (spD X.K W ps (kl f)) ∧ ∀ ds g, kl f ds g ≠ .st → ds.length = ps.length
  kp : ∀ (v f : Nat) (x : Str) (n : Nat) (ks : List Str) (ix : List Pik), f ≠ LAM → pn.kp.lookup v = some (f, x, n, ks, ix) → ∃ a fd ps, okN x = true ∧ X.mg x = some (.ref a) ∧ PySem.W.keepIn X.K (.ref a) = true ∧ BindP X.K fd ps n ks ix ∧ FnOkG X.prog X.w X.K X.mg X.base CX (Bk.ix k) a fd ps (spD X.K W ps (kl f)) ∧ ∀ ds g, kl f ds g ≠ .st → ds.length = ps.length
  dr : ∃ a fd ps, X.mg "_law_draw" = some (.ref a) ∧ PySem.W.keepIn X.K (.ref a) = true ∧ Binds X.K fd ps [] ∧ FnOkG X.prog X.w X.K X.mg X.base CX (ix k) a fd ps (spDraw W)
  bn : ∀ x ∈ bNames, X.mg x = none
  w : W.w = X.w
  kk : W.k = X.K
  cx : CX = L2.CX X.prog X.w
  tk : Takes X (fun cls d _ H => Ew cls d H)
  xs : ∀ (c : Nat) (x : Str) (ns : List Str), pn.xs.lookup c = some (x, ns) → ∃ C, W.xc.lookup c = some (C, ns) ∧ okN x = true ∧ X.mg x = some (.ref C) ∧ XcOk X.prog X.K C ns
  lm : c.lam = true → LamC W pn p k kl X
  lv : ∀ x j, c.lv = some (x, j) → j < 1000 → ∀ {a : Expr} {fa : Gm → G → R D} {p1 p2 : Pos}, nSt a = true → PE X a (tE X.K W Ew fa) → PE X (.Call (.Name x p1) [a] [] p2) (tE X.K W Ew fun Γ g => match Γ[j]? with
    | some (.val .fn) => (fa Γ g).bind fun d g => kl LAM [d] g
    | _ => .st)
  lv0 : ∀ x j, c.lv = some (x, j + 1000) → ∀ (pn' : List (Addr × Obj)) (xe' : Value → Shared → Prop) (E' : XK), Takes (X.tr pn' xe') (fun cls d _ H => E' cls d H) → ∀ (p1 p2 : Pos), PE (X.tr pn' xe') (.Call (.Name x p1) [] [] p2) (tE X.K W E' (call0R kl j))
  tr : (c.lam = true ∨ c.lv ≠ none) → X.stack = X.env :: X.outer ∧ X.env.frame = some X.env.locals ∧ X.ex = []
  xi : ∀ ys yes no, (ys, yes, no) ∈ pn.xi → XiOk X.K X.mg W.xc ys yes no
  xv : ∀ n C ns, W.xc.lookup n = some (C, ns) → ClsF X.K C ns ∧ ExcC X.K C
  sm : smB X.K = true
section
variable {CX : CXT} {W : Wd} {pn : PrN} {p : Pr} {k : Nat} {kl : Calls} {c : Cxt} {Ew : XK} {X : Cx}
theorem okN1 {x : Str} (h : okN x = true) : (x == ("__debug__" : Str)) = false := by
  unfold okN at h
  simp only [Bool.and_eq_true, Bool.not_eq_true'] at h
  exact h.1.1
theorem okN2 {x : Str} (h : okN x = true) : (x == ("__classdict__" : Str)) = false := by
  unfold okN at h
  simp only [Bool.and_eq_true, Bool.not_eq_true'] at h
  exact h.1.2
theorem okN3 {x : Str} (h : okN x = true) : x ≠ "__name__" := by
  unfold okN at h
  simp only [Bool.and_eq_true, Bool.not_eq_true'] at h
  intro e
  have h2 := h.2
  rw [e] at h2
  revert h2
  decide
theorem Ok.gl (o : Ok CX W pn p k kl c Ew X) {x : Str} (h : glB c.sc x = true) : Gl X x := by
  show X.env.scope.names.lookup x = some .globalImplicit
  rw [o.sc]
  exact gl_of h
theorem Ok.un (o : Ok CX W pn p k kl c Ew X) : X.A.units + 64 < cLine := o.room.units
theorem Ok.un2 (o : Ok CX W pn p k kl c Ew X) : X.A.units + 66 < cLine := by have := o.room.un; omega
theorem Ok.blk (o : Ok CX W pn p k kl c Ew X) (s : Shared) (H : Hp) (scope : Scope) (cl : List (Str × Addr)) (C : Addr) (fp : List Addr) : Ok CX W pn p k kl (blkCtx c scope) E0 (X.blk s H scope (compEnvC scope cl C X.env) fp) where
  N := o.N
  sc := by
    show relS scope X.env.scope = relS scope c.sc
    rw [o.sc]
  fn := rfl
  nd := o.nd
  nm := o.nm
  calm := o.calm
  room := o.room
  gd := o.gd
  pass := fun pins σ H s e s' I h => o.cxf _ _ _ _ _ h
  own := PassesOwn.never
  cxf := o.cxf
  cs := o.cs
  ds := o.ds
  kd := o.kd
  kp := o.kp
  dr := o.dr
  bn := o.bn
  w := o.w
  kk := o.kk
  cx := o.cx
  tk := LamX.takes0
  xs := o.xs
  lm := fun z => by cases z
  lv := fun _ _ z => by cases z
  lv0 := fun _ _ z => by cases z
  tr := fun z => by rcases z with z | z <;> first | cases z | exact absurd rfl z
  xi := o.xi
  xv := o.xv
  sm := o.sm
theorem Ok.lamc (o : Ok CX W pn p k kl c Ew X) {scope : Scope} {A : Around} {outer : List Env} {s : Shared} {H : Hp} {E : XK} {f c' : Addr} (hr : Room (4 * k + 3) (A.deeper (LamX.lamEnv X scope s.heap.objs.size f c'))) (hg : (A.deeper (LamX.lamEnv X scope s.heap.objs.size f c')).guards = some []) :
    Ok CX W pn p k kl (lamCtx c scope) E (LamX.lamCx X A outer s H E scope f c') := by
  have tk : Takes (LamX.lamCx X A outer s H E scope f c') (fun cls d _ H => E cls d H) := takes_of rfl rfl rfl rfl
  exact {
    N := o.N
    sc := rfl
    fn := rfl
    nd := o.nd
    nm := o.nm
    calm := rfl
    room := hr.mono (by unfold ix; omega)
    gd := hg
    pass := by
      have e : CX = L2.CX X.prog X.w := o.cx
      rw [e]
      exact passes_call tk fun _ _ _ _ h => h
    own := passes_of rfl
    cxf := o.cxf
    cs := o.cs
    ds := o.ds
    kd := o.kd
    kp := o.kp
    dr := o.dr
    bn := o.bn
    w := o.w
    kk := o.kk
    cx := o.cx
    tk := tk
    xs := o.xs
    lm := fun z => by cases z
    lv := fun _ _ z => by cases z
    lv0 := fun _ _ z => by cases z
    tr := fun z => by rcases z with z | z <;> first | cases z | exact absurd rfl z
    xi := o.xi
    xv := o.xv
    sm := o.sm }
/-- the body of a try -/
theorem Ok.try_ (o : Ok CX W pn p k kl c Ew X) {pn' : List (Addr × Obj)} {xe' : Value → Shared → Prop} {E' : XK} (tk : Takes (X.tr pn' xe') fun cls d _ H => E' cls d H) (own : PassesOwn (model X.prog X.w) X.A X.env xe') : Ok CX W pn p k kl (tryCtx c) E' (X.tr pn' xe') where
  N := o.N
  sc := o.sc
  fn := o.fn
  nd := o.nd
  nm := o.nm
  calm := o.calm
  room := o.room
  gd := o.gd
  pass := by
    have e : CX = L2.CX X.prog X.w := o.cx
    rw [e]
    exact passes_call tk fun _ _ _ _ h => h
  own := own
  cxf := o.cxf
  cs := o.cs
  ds := o.ds
  kd := o.kd
  kp := o.kp
  dr := o.dr
  bn := o.bn
  w := o.w
  kk := o.kk
  cx := o.cx
  tk := tk
  xs := o.xs
  lm := fun z => by cases z
  lv := fun x j z hj => by
    exfalso
    unfold tryCtx at z
    simp only at z
    split at z
    · split at z
      · cases z; omega
      · cases z
    · cases z
  lv0 := fun x j z => by
    refine o.lv0 x j ?_
    unfold tryCtx at z
    simp only at z
    split at z
    · rename_i e
      split at z
      · cases z; exact e
      · cases z
    · cases z
  tr := fun z => by
    rcases z with z | z
    · cases z
    · refine o.tr (.inr fun q => z ?_)
      unfold tryCtx
      rw [q]
  xi := o.xi
  xv := o.xv
  sm := o.sm
theorem flds_lk {K : PySem.W.Frag} {W : Wd} {Hk : Hp} {fs : List (Str × V)} : ∀ {ns : List Str} {ds : List D}, Flds K W Hk ns ds fs → ∃ vs, Lk fs ns vs ∧ RpL K W Hk ds vs
  | [], [], _ => ⟨[], True.intro, rfl⟩
  | [], _ :: _, h => h.elim
  | _ :: _, [], h => h.elim
  | n :: ns, d :: ds, h => by
    obtain ⟨⟨v, e, r⟩, h2⟩ := h
    obtain ⟨vs, l, q⟩ := flds_lk h2
    exact ⟨v :: vs, ⟨e, l⟩, .cons r q⟩
theorem flds_zip {K : PySem.W.Frag} {W : Wd} {Hk : Hp} {fs : List (Str × V)} : ∀ {ns : List Str} {ds : List D} {vs : List V}, vs.length = ns.length → RpL K W Hk ds vs → (∀ q ∈ ns.zip vs, fs.lookup q.1 = some q.2) → Flds K W Hk ns ds fs
  | [], [], _, _, _, _ => True.intro
  | [], d :: ds, vs, hl, h, _ => by
    obtain ⟨y, ys, rfl, _⟩ := h
    simp at hl
  | n :: ns, [], vs, hl, h, _ => by
    have h : vs = [] := h
    subst h
    simp at hl
  | n :: ns, d :: ds, vs, hl, h, hq => by
    obtain ⟨y, ys, rfl, h1, h2⟩ := h
    exact ⟨⟨y, hq (n, y) (by simp), h1⟩, flds_zip (by simpa using hl) h2 fun q z => hq q (by simp [z])⟩
theorem mem_lookup' {α : Type} : ∀ {l : List (Nat × α)} {i : Nat} {x : α}, l.lookup i = some x → (i, x) ∈ l
  | [], _, _, h => by cases h
  | (j, y) :: l, i, x, h => by
    rw [List.lookup_cons] at h
    cases e : i == j with
    | true => rw [e] at h; cases h; rw [eq_of_beq e]; exact List.mem_cons_self
    | false => rw [e] at h; exact List.mem_cons_of_mem _ (mem_lookup' h)
/-- a lambda is made: the drawing state stays -/
theorem DrawAt.lam {g : G} {H H1 : Hp} (h : DrawAt W g H) (e : LamX.ExtN H H1) (t : TIn H H1) (T : LamX.Tabs W.tb H1) : DrawAt W g H1 :=
  ⟨e _ _ h.m (fun ps z => by cases z), e _ _ h.c (fun ps z => by cases z), e _ _ h.gr (fun ps z => by cases z), h.ne, h.ok, T, fun b ps q => by
    obtain ⟨ps', q'⟩ := t b ps q
    exact h.tin b ps' q'⟩
theorem e_said (o : Ok CX W pn p k kl c Ew X) (hl : c.lam = true) {v : Nat} {x : Str} {tb : List (Nat × Str)} (hv : pn.sd.lookup v = some (x, tb)) (hg : glB c.sc x = true) {params : Arguments} {ys : List Str} {body : Expr} {scope : Scope} {q lp pos : Pos} {ev : Gm → G → R D} (hp : LPar params ys) (L : LamQ c.N c.sc scope ys)
    (hbody : ∀ {A : Around} {outer : List Env} {s : Shared} {H : Hp} {E : XK} {f c' : Addr}, Room (4 * k + 3) (A.deeper (LamX.lamEnv X scope s.heap.objs.size f c')) → (A.deeper (LamX.lamEnv X scope s.heap.objs.size f c')).guards = some [] → PE (LamX.lamCx X A outer s H E scope f c') body (tE X.K W E ev)) :
    PE X (.Call (.Name x q) [.Lambda params body scope lp] [] pos) (tE X.K W Ew (fun Γ g => caughtR tb (ev Γ g))) := by
  have lm := o.lm hl
  obtain ⟨c0, P0, hc0, TB, hm0, hu0⟩ := lm.ex
  obtain ⟨g0, pg, bg, sg, dV, kV, doc, pm, cdv, ct, oc, an, od, osl, a, Ng, mx, kp, lk, cd, bd, S, n0, va, oka, okx, gv⟩ := (lm.sd v x tb hv).ex
  have LQ : LamQ X.N X.env.scope scope ys := by rw [o.N, o.sc]; exact L
  refine PE.imp (pe_lamG (k := 4 * k + 3) (t := fun E => tE X.K W E ev) (T := W.tb) (TT := TSaid W.xc tb) (o.gl hg) mx kp lk cd bd S n0 va (gv X rfl rfl rfl rfl rfl) TB hc0 hm0 hu0 lm.room o.gd LQ hp (fun E σ H Q Q' hQ ⟨Hk0, H0, Γ, g, Hk, fr, h⟩ => ⟨Hk0, H0, Γ, g, Hk, fr, h.mono fun d g' Hk' H' _ _ z v r => hQ _ _ (z v r)⟩) (fun A outer s H E f c' hr hg' => hbody hr hg') (okN1 okx) (okN1 oka) (okN2 oka)) ?_
  intro σ H Q ⟨Hk0, H0, Γ, g, Hk, fr, h⟩
  have h : Fin W Ew Hk H (caughtR tb (ev Γ g)) _ := h
  refine ⟨fr.wk.dr.tab, fun H1 eN tI T1 p0 hp0 => ?_⟩
  have s1 : Step W Hk H Hk H1 := Step.lam fr.wk.ex fr.wk.dr fr.wk.tk eN T1
  have dr1 : DrawAt W g H1 := fr.wk.dr.lam eN tI T1
  have fr1 := fr.step s1 dr1
  have s2 : Step W Hk H1 Hk (upd H1 p0 (.lst [])) := Step.hid fr1.wk.ex hp0
  have fr2 := fr1.step s2 (dr1.new hp0)
  have s12 := s1.trans s2
  refine ⟨Hk0, H0, Γ, g, Hk, fr2, ?_⟩
  cases e : ev Γ g with
  | st => rw [e] at h; exact h.elim
  | ok d g' =>
    rw [e] at h
    intro Hk' H' st dr v r p hp'
    have fr3 := fr2.step st dr
    have s3 : Step W Hk' H' (upd Hk' p (.lst [v])) (upd H' p (.lst [v])) := Step.new fr3.wk.ex hp'
    exact h _ _ ((s12.trans st).trans s3) (dr.new hp') (.ref p) ⟨p, [v], rfl, upd_same, v, [], rfl, r.mono s3.k, rfl⟩
  | ex cc ds g' =>
    rw [e] at h
    have h : Fin W Ew Hk H (match tb.lookup cc with | some x => R.ok (D.tup (.str x :: ds)) g' | none => .st) _ := h
    cases hx : tb.lookup cc with
    | none => rw [hx] at h; exact h.elim
    | some y =>
      rw [hx] at h
      intro Hk' H' cls dx st dr ⟨C, ns, d, fs, z1, z2, z3, z4, z5, _⟩
      obtain ⟨vs, lkv, rv⟩ := flds_lk z5
      refine ⟨cc, y, C, ns, d, fs, vs, mem_lookup' hx, z1, z2, z3, z4, lkv, fun p hp' => ?_⟩
      have fr3 := fr2.step st dr
      rw [o.kk] at rv
      have s3 : Step W Hk' H' (upd Hk' p (.tup (.str y :: vs))) (upd H' p (.tup (.str y :: vs))) := Step.new fr3.wk.ex hp'
      exact h _ _ ((s12.trans st).trans s3) (dr.new hp') (.ref p) ⟨p, _, rfl, SqT.of upd_same, .cons rfl (rv.mono s3.k)⟩
theorem Ok.ty (o : Ok CX W pn p k kl c Ew X) {e : Expr} {t : Ty} (h : tyB c e t = true) : PE X e (tC (.ty (tyN t))) := by
  unfold tyB at h
  split at h
  · simp only [Bool.and_eq_true, decide_eq_true_eq] at h
    have hg := o.gl h.2
    rw [h.1] at hg ⊢
    refine pe_bltn hg (o.bn _ ?_) (u := .type (tyN t)) ?_ rfl ?_ ?_
    · cases t <;> simp [bNames, tyN]
    · cases t <;> simp only [tyN] <;> decide +kernel
    · cases t <;> simp only [tyN] <;> decide
    · cases t <;> simp only [tyN] <;> decide
  · cases h
theorem ty_nst {e : Expr} {t : Ty} (h : tyB c e t = true) : nSt e = true := by
  cases e <;> first | rfl | (unfold tyB at h; cases h)
theorem Ok.bi (o : Ok CX W pn p k kl c Ew X) {a : Expr} {es : List Expr} {pos q : Pos} {fs : Gm → G → R (List D)} (b : Bi) (hg : glB c.sc (biN b) = true) (ha : PA X (a :: es) (tAa X.K W Ew fs)) (hn : nSts (a :: es) = true) :
    PE X (.Call (.Name (biN b) q) (a :: es) [] pos) (tE X.K W Ew fun Γ g => (fs Γ g).bind fun xs g => lift (biD b xs) g) := by
  simp only [nSts, Bool.and_eq_true] at hn
  have hh := o.gl hg
  have hm : X.mg (biN b) = none := o.bn _ (by cases b <;> simp [biN, bNames])
  have hc := call_D (W := W) o.calm o.gd o.un2 o.sm b
  cases b with
  | tuple => exact e_biT hc hh hm (by decide +kernel) ha (by decide) (by decide) (star_of hn.1 _ _) (back_of _ _ hn.2)
  | list => exact e_biT hc hh hm (by decide +kernel) ha (by decide) (by decide) (star_of hn.1 _ _) (back_of _ _ hn.2)
  | int => exact e_biT hc hh hm (by decide +kernel) ha (by decide) (by decide) (star_of hn.1 _ _) (back_of _ _ hn.2)
  | _ => exact e_biB hc hh hm (by decide +kernel) ha (by decide) (by decide) (star_of hn.1 _ _) (back_of _ _ hn.2)
theorem own_map (c : Cxt) (t : T) : (ownOf c t).map (·.2) = t.vars := by
  unfold ownOf
  rw [List.map_map]
  exact List.map_id' _
theorem asg_of {e : Expr} (h : nSt e = true) (es : List Expr) (env : Env) : assignEach (e :: es) env = (false, assign e env) :: assignEach es env := by
  cases e <;> first | rfl | cases h
theorem chkTs_nst : ∀ {n : Nat} {es : List Expr} {ts : List T}, chkTs n c es ts = true → ts.length = es.length ∧ ∀ env, (assignEach es env).length = es.length ∧ (assignEach es env).findIdx? (·.1) = none
  | 0, _, _, h => by cases h
  | n + 1, [], [], _ => ⟨rfl, fun _ => ⟨rfl, rfl⟩⟩
  | n + 1, [], _ :: _, h => by cases h
  | n + 1, _ :: _, [], h => by cases h
  | n + 1, e :: es, t :: ts, h => by
    simp only [chkTs, Bool.and_eq_true] at h
    obtain ⟨h1, h2⟩ := chkTs_nst h.2
    refine ⟨by simp [h1], fun env => ?_⟩
    rw [asg_of h.1.1]
    refine ⟨by simp [(h2 env).1], ?_⟩
    rw [List.findIdx?_cons]
    simp [(h2 env).2]
theorem sndT (o : Ok CX W pn p k kl c Ew X) : ∀ n, (∀ e t, chkT n c e t = true → PG X e (tGg X.K W t)) ∧ (∀ es ts, chkTs n c es ts = true → PGs X es (tGgs X.K W ts))
  | 0 => ⟨fun _ _ h => (by cases h), fun _ _ h => (by cases h)⟩
  | n + 1 => by
    obtain ⟨i1, i2⟩ := sndT o n
    refine ⟨fun e t h => ?_, fun es ts h => ?_⟩
    · cases t with
      | var i =>
        simp only [chkT] at h
        split at h
        · rename_i x q
          simp only [Bool.and_eq_true, decide_eq_true_eq] at h
          have h2 := h.2
          unfold locB at h2
          refine g_var (pg_name o.nd (by rw [o.N]; exact h.1) ?_ ?_)
          · show X.env.scope.names.lookup x = some .local ∨ X.env.scope.names.lookup x = some .cell
            rw [o.sc]
            revert h2
            cases c.sc.names.lookup x with
            | none => intro h; cases h
            | some kd => cases kd <;> intro h <;> first | exact .inl rfl | exact .inr rfl | cases h
          · rw [o.sc, o.fn]
            revert h2
            cases c.sc.names.lookup x with
            | none => intro h; cases h
            | some kd => cases kd <;> intro h <;> first | exact .inr rfl | exact .inl h | cases h
        · cases h
      | tup ts =>
        simp only [chkT] at h
        split at h
        · rename_i es _ _
          obtain ⟨h1, h2⟩ := chkTs_nst h
          exact g_tup o.calm (i2 es ts h) (h2 X.env).1 (h2 X.env).2 h1
        · cases h
    · cases es with
      | nil =>
        cases ts with
        | nil => exact gs_nil
        | cons _ _ => cases h
      | cons e es =>
        cases ts with
        | nil => cases h
        | cons t ts =>
          simp only [chkTs, Bool.and_eq_true] at h
          exact gs_cons (i1 e t h.1.2) (i2 es ts h.2) (by rw [asg_of h.1.1]; rfl)
theorem chkA_len {n : Nat} : ∀ {n : Nat} {es : List Expr} {as : A}, chkA n pn c es as = true → nSts es = true ∧ ∀ cs call Γ g ds g', evA cs call as Γ g = .ok ds g' → ds.length = es.length
  | 0, _, _, h => by cases h
  | n + 1, [], .nil, _ => ⟨rfl, fun _ _ _ _ ds g' e => by simp only [evA] at e; cases e; rfl⟩
  | n + 1, [], .cons _ _, h => by cases h
  | n + 1, [], .star _ _, h => by cases h
  | n + 1, _ :: _, .star _ _, h => by cases h
  | n + 1, _ :: _, .nil, h => by cases h
  | n + 1, e :: es, .cons e' as, h => by
    simp only [chkA, Bool.and_eq_true] at h
    obtain ⟨h1, h2⟩ := chkA_len (n := n) h.2
    refine ⟨by simp only [nSts, Bool.and_eq_true]; exact ⟨h.1.1, h1⟩, fun cs call Γ g ds g' e => ?_⟩
    simp only [evA] at e
    obtain ⟨x, g1, _, e⟩ := bind_ok e
    obtain ⟨xs, g2, e2, e⟩ := bind_ok e
    cases e
    simp [h2 _ _ _ _ _ _ e2]
/-- c if t else d, as a test -/
theorem t_ife {t a b : Expr} {pos : Pos} {ft fa fb : Gm → G → R D} (ht : PT X t (tTt X.K W Ew fun Γ g => blR (ft Γ g))) (ha : PT X a (tTt X.K W Ew fun Γ g => blR (fa Γ g))) (hb : PT X b (tTt X.K W Ew fun Γ g => blR (fb Γ g))) :
    PT X (.IfExp t a b pos) (tTt X.K W Ew fun Γ g => blR (ifeR ft fa fb Γ g)) := by
  refine ⟨fun pins s σ H Q I ⟨Hk0, H0, Γ, g, Hk, fr, h⟩ => ?_⟩
  unfold PySem.isTrue
  have h : Fin W Ew Hk H (blR (ifeR ft fa fb Γ g)) _ := h
  have e : blR (ifeR ft fa fb Γ g) = (blR (ft Γ g)).bind fun k g => if k then blR (fa Γ g) else blR (fb Γ g) := by
    unfold ifeR
    cases blR (ft Γ g) with
    | ok k g1 => cases k <;> rfl
    | ex _ _ _ => rfl
    | st => rfl
  rw [e] at h
  refine wpAny_bind (thn (ht.run pins s σ H (fun k H1 => if k = true then tTt X.K W Ew (fun Γ g => blR (fa Γ g)) σ H1 Q else tTt X.K W Ew (fun Γ g => blR (fb Γ g)) σ H1 Q) I (seqT (f := fun Γ g => blR (ft Γ g)) fr h fun k g1 Hk1 H1 fr1 s1 h1 => ?_)) fun k s1 ⟨H1, I1, q1⟩ => ?_)
  · cases k with
    | true => exact iteT ⟨Hk0, H0, Γ, g1, Hk1, fr1, h1⟩
    | false => exact iteF ⟨Hk0, H0, Γ, g1, Hk1, fr1, h1⟩
  · cases k with
    | true => exact ha.run pins s1 σ H1 Q I1 q1
    | false => exact hb.run pins s1 σ H1 Q I1 q1
end
end Bk
set_option Elab.async false
set_option linter.all false
set_option maxRecDepth 100000
set_option maxHeartbeats 4000000
namespace Bk
open PySem L2
open Evl (Ex ex_l ex_t)
section
variable {CX : CXT} {W : Wd} {pn : PrN} {p : Pr} {k : Nat} {kl : Calls}
/-- new lists -/
def frE : E → Bool
  | .lst _ => true
  | .lc _ _ _ _ => true
  | .cat _ _ => true
  | .rev _ => true
  | .lstS _ => true
  | .dnil => true
  | .done _ _ => true
  | .bi .list _ => true
  | .bi .sorted _ => true
  | .bi .sortd _ => true
  | .lrng1 _ => true
  | .lrng2 _ _ => true
  | .dcp _ _ _ _ => true
  | _ => false
theorem bind_as {α β γ : Type} {r : R α} {f : α → G → R β} {k : β → G → R γ} : (r.bind f).bind k = r.bind fun a g => (f a g).bind k := by cases r <;> rfl
theorem evA_split : ∀ {n : Nat} {as a1 a2 : A}, splitA n as = some (a1, a2) → ∀ cs call Γ g, evA cs call as Γ g = (evA cs call a1 Γ g).bind fun xs g => (evA cs call a2 Γ g).bind fun ys g => .ok (xs ++ ys) g
  | 0, as, a1, a2, h, cs, call, Γ, g => by
    cases h
    simp only [evA]
    show _ = (evA cs call as Γ g).bind fun ys g => .ok ([] ++ ys) g
    cases evA cs call as Γ g <;> rfl
  | n + 1, .cons e as, a1, a2, h, cs, call, Γ, g => by
    simp only [splitA] at h
    split at h
    · rename_i b1 b2 hh
      cases h
      simp only [evA, bind_as]
      congr 1
      funext x g
      rw [evA_split hh, bind_as]
      congr 1
      funext xs g
      show _ = (evA cs call a2 Γ g).bind fun ys g => .ok (x :: xs ++ ys) g
      cases evA cs call a2 Γ g <;> rfl
    · cases h
  | n + 1, .nil, _, _, h, _, _, _, _ => by cases h
  | n + 1, .star _ _, _, _, h, _, _, _, _ => by cases h
theorem kw_facts (pos : Pos) (env : Env) : ∀ {kws : List Keyword} {ks : List Str}, kws.map (·.arg) = ks.map some → (backToKw pos (keywordEach kws env)).all (·.1.isSome) = true ∧ (backToKw pos (keywordEach kws env)).filterMap (·.1) = ks ∧ (backToKw pos (keywordEach kws env)).any (·.1.isNone) = false
  | [], [], _ => ⟨rfl, rfl, rfl⟩
  | [], _ :: _, h => by cases h
  | ⟨a, v, p⟩ :: kws, [], h => by cases h
  | ⟨a, v, p⟩ :: kws, k :: ks, h => by
    simp only [List.map_cons, List.cons.injEq] at h
    obtain ⟨rfl, h⟩ := h
    obtain ⟨h1, h2, h3⟩ := kw_facts pos env h
    refine ⟨?_, ?_, ?_⟩
    · show (true && (backToKw pos (keywordEach kws env)).all (·.1.isSome)) = true
      rw [h1]; rfl
    · show k :: (backToKw pos (keywordEach kws env)).filterMap (·.1) = k :: ks
      rw [h2]
    · show (false || (backToKw pos (keywordEach kws env)).any (·.1.isNone)) = false
      rw [h3]; rfl
section
variable {X : Cx} {W : Wd} {Ew : XK}
theorem pk_of {es : List Expr} {fs : Gm → G → R (List D)} (h : Pes X W Ew es fs) : ∀ {kws : List Keyword}, kws.map (·.value) = es → PK X kws (tAa X.K W Ew fs) := by
  induction h with
  | nil =>
    intro kws e
    have e : kws = [] := List.map_eq_nil_iff.mp e
    subst e
    exact ⟨fun pos pins s σ H Q I ⟨Hk0, H0, Γ, g, Hk, fr, h⟩ => pk_nil.run pos pins s σ H Q I (Fin.now fr h [] rfl)⟩
  | @cons e es fe fs hn he _ ih =>
    intro kws ee
    cases kws with
    | nil => cases ee
    | cons kw kws =>
      obtain ⟨nm, v, kpos⟩ := kw
      simp only [List.map_cons, List.cons.injEq] at ee
      obtain ⟨e1, ee⟩ := ee
      subst e1
      refine ⟨fun pos pins s σ H Q I h => (pk_cons (nm := nm) (kpos := kpos) he (ih ee)).run pos pins s σ H Q I ?_⟩
      obtain ⟨Hk0, H0, Γ, g, Hk, fr, h⟩ := h
      exact seqE fr h fun v d g1 Hk1 H1 fr1 s1 r1 h1 => seqA fr1 h1 fun vs ds g2 Hk2 H2 fr2 s2 r2 h2 => Fin.now fr2 h2 (v :: vs) ⟨v, vs, rfl, r1.mono s2.k, r2⟩
theorem rpl_app2 {K : PySem.W.Frag} {H : Hp} {es : List D} {ws : List V} : ∀ {ds : List D} {vs : List V}, RpL K W H ds vs → RpL K W H es ws → RpL K W H (ds ++ es) (vs ++ ws)
  | [], vs, h, r => by
    have h : vs = [] := h
    subst h
    exact r
  | e :: ds, vs, h, r => by
    obtain ⟨y, ys, rfl, h1, h2⟩ := h
    exact ⟨y, ys ++ ws, rfl, h1, rpl_app2 h2 r⟩
theorem e_callK {CX : CXT} {k : Nat} {f : Addr} {fd : FuncData} {ps ks : List Str} {x : Str} {p pos : Pos} {dn : List D → G → R D} {e : Expr} {es : List Expr} {kws : List Keyword} {f1 f2 : Gm → G → R (List D)} (F : FnOkG X.prog X.w X.K X.mg X.base CX k f fd ps (spD X.K W ps dn)) (hr : Room k X.A) (hgd : X.A.guards = some [])
    (hg : Gl X x) (hm : X.mg x = some (.ref f)) (hk : PySem.W.keepIn X.K (.ref f) = true) (hb : BindK X.K fd ps ks) (hx : Passes CX X Ew) (hln : ∀ ds g, dn ds g ≠ .st → ds.length = ps.length) (hl2 : ∀ Γ g ys g', f2 Γ g = .ok ys g' → ys.length = ks.length)
    (ha : PA X (e :: es) (tAa X.K W Ew f1)) (hkw : PK X kws (tAa X.K W Ew f2)) (ha2 : kws.map (·.arg) = ks.map some) (hdb : (x == ("__debug__" : Str)) = false) (he : starEach (e :: es) X.env = (false, eval e X.env) :: starEach es X.env) (hpl : (backTo pos (starEach (e :: es) X.env)).any (·.1) = false) :
    PE X (.Call (.Name x p) (e :: es) kws pos) (tE X.K W Ew fun Γ g => (f1 Γ g).bind fun xs g => (f2 Γ g).bind fun ys g => dn (xs ++ ys) g) := by
  obtain ⟨q1, q2, q3⟩ := kw_facts pos X.env ha2
  refine PE.imp (pe_callKG F hr hgd hg hm hk hb hx ha hkw q1 q2 hdb he (by rw [hpl, q3]; rfl)) fun σ H Q ⟨Hk0, H0, Γ, g, Hk, fr, h⟩ => seqA fr h fun vs ds g1 Hk1 H1 fr1 s1 r1 h1 => seqAE fr1 h1 fun zs es g2 Hk2 H2 e2 fr2 s2 r2 h2 => ?_
  have l0 := hln _ _ (nst h2)
  have l2 := hl2 _ _ _ _ e2
  rw [List.length_append] at l0
  refine ⟨by rw [r1.len]; omega, by rw [r2.len]; exact l2, by rw [List.length_append, r1.len, r2.len]; exact l0, ds ++ es, g2, Hk2, fr2.wk, rpl_app2 (r1.mono s2.k) r2, h2⟩
theorem pick_rpl {K : PySem.W.Frag} {W : Wd} {H : Hp} {xs : List D} {vs : List V} (h : RpL K W H xs vs) : ∀ {ix : List Pik} {ys : List D}, pickD ix xs = some ys → ∃ zs, PickX vs ix zs ∧ RpL K W H ys zs
  | [], ys, e => by
    simp only [pickD, Option.some.injEq] at e
    subst e
    exact ⟨[], .nil, rfl⟩
  | .at i :: r, ys, e => by
    simp only [pickD] at e
    split at e
    · rename_i x hx
      obtain ⟨zs, h1, rfl⟩ := Option.map_eq_some_iff.mp e
      obtain ⟨v, e1, e2⟩ := h.get hx
      obtain ⟨us, q1, q2⟩ := pick_rpl h (ix := r) h1
      exact ⟨v :: us, .at e1 q1, v, us, rfl, e2, q2⟩
    · cases e
  | .cst b :: r, ys, e => by
    simp only [pickD] at e
    obtain ⟨zs, h1, rfl⟩ := Option.map_eq_some_iff.mp e
    obtain ⟨us, q1, q2⟩ := pick_rpl h (ix := r) h1
    refine ⟨pikX b :: us, .cst q1, pikX b, us, rfl, ?_, q2⟩
    cases b with
    | none => exact rfl
    | some b => exact rfl
theorem e_callP {CX : CXT} {k : Nat} {f : Addr} {fd : FuncData} {ps ks : List Str} {x : Str} {n : Nat} {ix : List Pik} {p pos : Pos} {dn : List D → G → R D} {es : List Expr} {kws : List Keyword} {f1 f2 : Gm → G → R (List D)} (F : FnOkG X.prog X.w X.K X.mg X.base CX k f fd ps (spD X.K W ps dn)) (hr : Room k X.A) (hgd : X.A.guards = some [])
    (hg : Gl X x) (hm : X.mg x = some (.ref f)) (hk : PySem.W.keepIn X.K (.ref f) = true) (hb : BindP X.K fd ps n ks ix) (hx : Passes CX X Ew) (hl1 : ∀ Γ g ys g', f1 Γ g = .ok ys g' → ys.length = n) (hl2 : ∀ Γ g ys g', f2 Γ g = .ok ys g' → ys.length = ks.length) (hln : ∀ ds g, dn ds g ≠ .st → ds.length = ps.length)
    (ha : PA X es (tAa X.K W Ew f1)) (h0 : es = [] → f1 = fun _ g => .ok [] g) (hns : nSts es = true) (hkw : PK X kws (tAa X.K W Ew f2)) (ha2 : kws.map (·.arg) = ks.map some) (hdb : (x == ("__debug__" : Str)) = false) :
    PE X (.Call (.Name x p) es kws pos) (tE X.K W Ew fun Γ g => (f1 Γ g).bind fun xs g => (f2 Γ g).bind fun ys g => match pickD ix (xs ++ ys) with | some ds => dn ds g | none => .st) := by
  obtain ⟨q1, q2, q3⟩ := kw_facts pos X.env ha2
  have key : ∀ σ H Q, tE X.K W Ew (fun Γ g => (f1 Γ g).bind fun xs g => (f2 Γ g).bind fun ys g => match pickD ix (xs ++ ys) with | some ds => dn ds g | none => .st) σ H Q → tCallP n ks ix (spD X.K W ps dn) Ew (tAa X.K W Ew f1) (tAa X.K W Ew f2) σ H Q := fun σ H Q ⟨Hk0, H0, Γ, g, Hk, fr, h⟩ => seqAE fr h fun vs ds g1 Hk1 H1 e1 fr1 s1 r1 h1 => seqAE fr1 h1 fun zs es g2 Hk2 H2 e2 fr2 s2 r2 h2 => by
    have l1 := hl1 _ _ _ _ e1
    have l2 := hl2 _ _ _ _ e2
    cases hp : pickD ix (ds ++ es) with
    | none => rw [hp] at h2; exact absurd rfl (nst h2)
    | some ys =>
      rw [hp] at h2
      obtain ⟨us, p1, p2⟩ := pick_rpl (rpl_app2 (r1.mono s2.k) r2) hp
      have l0 := hln _ _ (nst h2)
      exact ⟨by rw [r1.len]; exact l1, by rw [r2.len]; exact l2, us, p1, by rw [p2.len]; exact l0, ys, g2, Hk2, fr2.wk, p2, h2⟩
  cases es with
  | nil =>
    have h0 := h0 rfl
    subst h0
    have n0 : 0 = n := hl1 [] ⟨[], [], 0⟩ [] _ rfl
    refine PE.imp (pe_callP0 F hr hgd hg hm hk hb hx hkw q1 q2 hdb q3) fun σ H Q ⟨Hk0, H0, Γ, g, Hk, fr, h⟩ => ?_
    have h : Fin W Ew Hk H ((f2 Γ g).bind fun ys g => match pickD ix ([] ++ ys) with | some ds => dn ds g | none => .st) _ := h
    refine seqAE fr h fun zs es g2 Hk2 H2 e2 fr2 s2 r2 h2 => ?_
    have l2 := hl2 _ _ _ _ e2
    cases hp : pickD ix ([] ++ es) with
    | none => rw [hp] at h2; exact absurd rfl (nst h2)
    | some ys =>
      rw [hp] at h2
      obtain ⟨us, p1, p2⟩ := pick_rpl (show RpL X.K W Hk2 ([] ++ es) ([] ++ zs) from r2) hp
      have l0 := hln _ _ (nst h2)
      exact ⟨n0, by rw [r2.len]; exact l2, us, p1, by rw [p2.len]; exact l0, ys, g2, Hk2, fr2.wk, p2, h2⟩
  | cons e es =>
    simp only [nSts, Bool.and_eq_true] at hns
    exact PE.imp (pe_callP F hr hgd hg hm hk hb hx ha hkw q1 q2 hdb (star_of hns.1 _ _) (by rw [back_of pos X.env (es := e :: es) (by simp only [nSts, Bool.and_eq_true]; exact hns), q3]; rfl)) key
end
theorem pickD_len : ∀ {ix : List Pik} {xs ys : List D}, pickD ix xs = some ys → ys.length = ix.length
  | [], _, ys, e => by simp only [pickD, Option.some.injEq] at e; subst e; rfl
  | .at i :: r, xs, ys, e => by
    simp only [pickD] at e
    split at e
    · obtain ⟨zs, h1, rfl⟩ := Option.map_eq_some_iff.mp e
      simp [pickD_len h1]
    · cases e
  | .cst b :: r, xs, ys, e => by
    simp only [pickD] at e
    obtain ⟨zs, h1, rfl⟩ := Option.map_eq_some_iff.mp e
    simp [pickD_len h1]
theorem kws_len {ns ks : List Str} {ix : List Pik} (h : (ks, ix) ∈ kwsOf ns) : ix.length = ns.length := by
  unfold kwsOf at h
  split at h
  · simp only [List.mem_cons, List.not_mem_nil, or_false, Prod.mk.injEq] at h
    rw [h.2]; rfl
  · simp only [List.mem_cons, List.not_mem_nil, or_false, Prod.mk.injEq] at h
    rcases h with h | h <;> rw [h.2] <;> rfl
  · cases h
section
variable {X : Cx} {W : Wd} {Ew : XK}
/-- C(n=e, ..), not raised -/
theorem e_mkXk {c : Nat} {C : Addr} {x : Str} {ns ks : List Str} {ix : List Pik} {kws : List Keyword} {p pos : Pos} {fs : Gm → G → R (List D)} (T : XcOk X.prog X.K C ns) (hxc : W.xc.lookup c = some (C, ns)) (hr : Room 1 X.A) (hg : Gl X x) (hm : X.mg x = some (.ref C)) (hw : (ks, ix) ∈ kwsOf ns) (hkw : PK X kws (tAa X.K W Ew fs)) (ha2 : kws.map (·.arg) = ks.map some)
    (hdb : (x == ("__debug__" : Str)) = false) (hlen : ∀ Γ g ds g', fs Γ g = .ok ds g' → ds.length = ks.length) :
    PE X (.Call (.Name x p) [] kws pos) (tE X.K W Ew fun Γ g => (fs Γ g).bind fun xs g => match pickD ix xs with | some ds => .ok (.exc c ds) g | none => .st) := by
  obtain ⟨q1, q2, q3⟩ := kw_facts pos X.env ha2
  have mk := pmk_xk (p := p) T hw hr hg hm hkw q1 q2 hdb q3
  refine ⟨fun pins s σ H Q I ⟨Hk0, H0, Γ, g, Hk, fr, h⟩ => ?_⟩
  refine wpAny_mono (mk pins s σ H (fun cls dx H' => ∀ a o, H' a = none → Zc cls dx o → (∃ us, o.data = .fields us) → Q (.ref a) (upd H' a (ObX a o))) I ?_) (fun u s' hu => ?_) fun _ _ z => z
  · refine ⟨Hk0, H0, Γ, g, Hk, fr, (Fin.bind h).monoE fun ds g' Hk' H' ee s dr kq vs r => ?_⟩
    have hzl : vs.length = ks.length := by rw [r.len, hlen Γ g ds g' ee]
    cases hp : pickD ix ds with
    | none => rw [hp] at kq; exact kq.elim
    | some es =>
    rw [hp] at kq
    obtain ⟨zs, p1, p2⟩ := pick_rpl r hp
    have hel : es.length = ns.length := by rw [pickD_len hp]; exact kws_len hw
    have hvl : zs.length = ns.length := by rw [p2.len, hel]
    refine ⟨hzl, zs, p1, hvl, fun d hd a o na z hf => ?_⟩
    have fr1 := fr.step s dr
    have s1 : Step W Hk' H' (upd Hk' d (.xd (ns.zip zs).reverse)) (upd H' d (.xd (ns.zip zs).reverse)) := Step.new fr1.wk.ex hd
    have fr2 := fr1.step s1 (dr.new hd)
    have s2 : Step W (upd Hk' d (.xd (ns.zip zs).reverse)) (upd H' d (.xd (ns.zip zs).reverse)) (upd (upd Hk' d (.xd (ns.zip zs).reverse)) a (ObX a o)) (upd (upd H' d (.xd (ns.zip zs).reverse)) a (ObX a o)) := Step.new fr2.wk.ex na
    have dn : d ≠ a := fun z => by rw [← z, upd_same] at na; cases na
    refine kq _ _ (s1.trans s2) ((dr.new hd).new na) (.ref a) ⟨a, o, C, d, ns, (ns.zip zs).reverse, zs, rfl, upd_same, hxc, z, hf, by rw [upd_ne dn, upd_same], lk_of hvl fun q hq => ?_, p2.mono (s1.k.trans s2.k)⟩
    refine lookup_nd ?_ (by simpa using hq)
    rw [List.map_reverse]
    refine (List.reverse_perm _).nodup_iff.mpr ?_
    rw [map_zip hvl]
    exact T.nd
  · obtain ⟨a, oe, vs, sI, H', cls, d, rfl, I', kp, ns0, he', hz, hd, h1, na, os, bare, rs, q⟩ := hu
    exact ⟨.ref a, _, inv_adopt I' kp ns0 na he' os bare, rfl, q a oe na hz ⟨vs, hd⟩⟩
inductive KeysE : List (Option Expr) → List Str → Prop where
  | nil : KeysE [] []
  | cons {k : Str} {j : Nat} {q : Pos} {r : List (Option Expr)} {ks : List Str} : KeysE r ks → KeysE (some (.Constant (.str k) j q) :: r) (k :: ks)
theorem bind_snoc {β : Type} {r : R (List D)} {d : D} {k : List D → G → R β} : ((r.bind fun xs g => .ok (d :: xs) g).bind k) = r.bind fun xs g => k (d :: xs) g := by cases r <;> rfl
theorem pps_dks {pos : Pos} {es : List Expr} {fs : Gm → G → R (List D)} (h : Pes X W Ew es fs) : ∀ {keys : List (Option Expr)} {ks : List Str}, KeysE keys ks → ks.length = es.length →
    ∃ trs, PPs X pos keys es trs ∧ ∀ {β : Type} {k : List D → G → R β} {kk : β → G → Hp → Hp → Prop} {σ : L2.St} {Hk0 H0 HkB HB Hk H : Hp} {Γ : Gm} {g : G} {Q : List (V × V) → Hp → Prop}, Fr X.K W Hk0 H0 Γ g σ Hk H → Step W HkB HB Hk H → Fin W Ew HkB HB ((fs Γ g).bind k) kk →
      (∀ vs ds g' Hk' H', Fr X.K W Hk0 H0 Γ g' σ Hk' H' → Step W HkB HB Hk' H' → Step W Hk H Hk' H' → RpL X.K W Hk' ds vs → Fin W Ew HkB HB (k ds g') kk → Q ((ks.zip vs).map fun q => (V.str q.1, q.2)) H') → tPairs trs σ H Q := by
  induction h with
  | nil =>
    intro keys ks hk hl
    cases hk with
    | nil => exact ⟨[], pps_nil, fun {β k kk σ Hk0 H0 HkB HB Hk H Γ g Q} fr sB h q => q [] [] g Hk H fr sB (Step.refl fr.wk.ex) rfl h⟩
    | cons _ => cases hl
  | @cons e es f fs ns he hs ih =>
    intro keys ks hk hl
    cases hk with
    | nil => cases hl
    | @cons k0 j q r ks hk =>
      obtain ⟨trs, pp, rd⟩ := ih hk (by simpa using hl)
      refine ⟨_, pps_cons pe_str he pp, fun {β k kk σ Hk0 H0 HkB HB Hk H Γ g Q} fr sB h q => ?_⟩
      refine ⟨Hk0, H0, Γ, g, Hk, fr, ?_⟩
      have h : Fin W Ew HkB HB (((f Γ g).bind fun x g => (fs Γ g).bind fun xs g => R.ok (x :: xs) g).bind k) kk := h
      cases ef : f Γ g with
      | st => rw [ef] at h; exact h.elim
      | ex c ds g1 => rw [ef] at h; exact fun Hk' H' cls dx s d x => h Hk' H' cls dx (sB.trans s) d x
      | ok d g1 =>
        rw [ef] at h
        intro Hk1 H1 s1 dr1 v r1
        have h : Fin W Ew HkB HB (((fs Γ g1).bind fun xs g => .ok (d :: xs) g).bind k) kk := h
        rw [bind_snoc] at h
        refine rd (fr.step s1 dr1) (sB.trans s1) h fun vs ds g2 Hk2 H2 fr2 sB2 s2 r2 h2 => ?_
        exact q (v :: vs) (d :: ds) g2 Hk2 H2 fr2 sB2 (s1.trans s2) (.cons (r1.mono s2.k) r2) h2
theorem mergeK_nd : ∀ {more kvs : List (Key × V)}, ((kvs ++ more).map (·.1)).Nodup → mergeK kvs more = kvs ++ more
  | [], kvs, _ => by simp [mergeK]
  | p :: more, kvs, h => by
    have hp : putK kvs p.1 p.2 = kvs ++ [p] := by
      unfold putK
      rw [if_neg]
      intro z
      simp only [List.any_eq_true, decide_eq_true_eq] at z
      obtain ⟨q, hq, e⟩ := z
      rw [List.map_append, List.map_cons, List.nodup_append] at h
      exact h.2.2 _ (List.mem_map.mpr ⟨q, hq, rfl⟩) _ List.mem_cons_self e
    show mergeK (putK kvs p.1 p.2) more = _
    rw [hp, mergeK_nd (by simpa using h)]
    simp
theorem keys_all : ∀ {keys : List (Option Expr)} {ks : List Str}, KeysE keys ks → keys.all (·.isSome) = true ∧ keys.length = ks.length
  | _, _, .nil => ⟨rfl, rfl⟩
  | _, _, .cons h => by
    obtain ⟨a, b⟩ := keys_all h
    exact ⟨by rw [List.all_cons, a]; rfl, by simp [b]⟩
theorem e_dkd {pos : Pos} {es : List Expr} {fs : Gm → G → R (List D)} {keys : List (Option Expr)} {ks : List Str} (h : Pes X W Ew es fs) (hk : KeysE keys ks) (hl : ks.length = es.length) (h0 : 1 ≤ ks.length) (h15 : ks.length ≤ 15) :
    PE X (.Dict keys es pos) (tE X.K W Ew fun Γ g => (fs Γ g).bind fun vs g => if vs.length = ks.length ∧ ks.length ≤ 15 ∧ ks.Nodup then .ok (.dks ks vs) g else .st) := by
  obtain ⟨trs, pp, rd⟩ := pps_dks (pos := pos) h hk hl
  obtain ⟨a1, a2⟩ := keys_all hk
  refine PE.imp (pe_disp pp a1 (by rw [a2, hl]) (fun z => by rw [z] at a2; simp at a2; omega) (by rw [a2]; exact h15)) fun σ H Q ⟨Hk0, H0, Γ, g, Hk, fr, h⟩ p hp => ?_
  have s0 : Step W Hk H Hk (upd H p (.dK [])) := Step.hid fr.wk.ex hp
  have out := ex_upd_out fr.wk.dr hp
  have fr0 := fr.step s0 (fr.wk.dr.upd out (nc_none hp))
  have k0 := fr.wk.dr.unk_of fr.wk hp
  refine rd fr0 s0 h fun vs ds g1 Hk1 H1 fr1 sB s1 r1 h1 => ?_
  have p1 : H1 p = some (.dK []) := s1.h _ _ upd_same out
  have n1 : Hk1 p = none := s1.unk k0 upd_same
  by_cases hc : ds.length = ks.length ∧ ks.length ≤ 15 ∧ ks.Nodup
  · have h1 : Fin W Ew Hk H (R.ok (D.dks ks ds) g1) (fun d _ Hk' H' => ∀ v, Rp X.K W Hk' d v → Q v H') := by
      rw [if_pos hc] at h1
      exact h1
    have hv : vs.length = ks.length := by rw [r1.len, hc.1]
    have nd : ((([] : List (Key × V)) ++ (ks.zip vs).map fun q => ((.inr q.1 : Key), q.2)).map (·.1)).Nodup := by
      rw [List.nil_append, List.map_map]
      have : ((ks.zip vs).map ((fun z : Key × V => z.1) ∘ fun q : Str × V => ((Sum.inr q.1 : Key), q.2))) = ks.map Sum.inr := by
        rw [show ((fun z : Key × V => z.1) ∘ fun q : Str × V => ((Sum.inr q.1 : Key), q.2)) = (Sum.inr ∘ Prod.fst) from rfl, ← List.map_map, map_zip hv]
      rw [this]
      exact List.pairwise_map.mpr (hc.2.2.imp fun h e => h (Sum.inr.inj e))
    refine ⟨p1, (ks.zip vs).map fun q => (.inr q.1, q.2), by rw [List.map_map]; rfl, by rw [List.length_map, List.length_zip]; omega, ?_⟩
    rw [mergeK_nd nd, List.nil_append]
    have st : Step W Hk H (upd Hk1 p (.dK ((ks.zip vs).map fun q => (.inr q.1, q.2)))) (upd H1 p (.dK ((ks.zip vs).map fun q => (.inr q.1, q.2)))) := (sB.mut hp n1).tell hp upd_same
    refine h1 _ _ st (fr1.wk.dr.upd out (nc_dK p1)) (.ref p) ⟨p, vs, rfl, upd_same, hc.1.symm, r1.mono (Ex.new n1)⟩
  · rw [if_neg hc] at h1
    exact h1.elim
end
theorem keysB_ok : ∀ {keys : List (Option Expr)} {ks : List Str}, keysB keys ks = true → KeysE keys ks
  | [], [], _ => .nil
  | [], _ :: _, h => by simp [keysB] at h
  | k :: keys, ks, h => by
    unfold keysB at h
    split at h
    · rename_i e; cases e
    · rename_i x j q r k0 ks0 e
      simp only [Bool.and_eq_true, decide_eq_true_eq] at h
      obtain ⟨rfl, h⟩ := h
      cases e
      exact .cons (keysB_ok h)
    · cases h
structure SE (CX : CXT) (W : Wd) (pn : PrN) (p : Pr) (k : Nat) (kl : Calls) (n : Nat) : Prop where
  e : ∀ {c : Cxt} {Ew : XK} {X : Cx}, Ok CX W pn p k kl c Ew X → ∀ {e : Expr} {E : E}, chkE n pn c e E = true → PE X e (tE X.K W Ew (evE p.cs kl E))
  t : ∀ {c : Cxt} {Ew : XK} {X : Cx}, Ok CX W pn p k kl c Ew X → ∀ {e : Expr} {E : E}, chkE n pn c e E = true → PT X e (tTt X.K W Ew fun Γ g => blR (evE p.cs kl E Γ g))
  w : ∀ {c : Cxt} {Ew : XK} {X : Cx}, Ok CX W pn p k kl c Ew X → ∀ {op : BoolOp} {es : List Expr} {pos : Pos} {E : E}, chkE n pn c (.BoolOp op es pos) E = true → PW X (.BoolOp op es pos) (tTt X.K W Ew fun Γ g => blR (evE p.cs kl E Γ g))
  o : ∀ {c : Cxt} {Ew : XK} {X : Cx}, Ok CX W pn p k kl c Ew X → ∀ {e : Option Expr} {E : Option E}, chkO n pn c e E = true → PO X e (tOo X.K W Ew (evO p.cs kl E))
  a : ∀ {c : Cxt} {Ew : XK} {X : Cx}, Ok CX W pn p k kl c Ew X → ∀ {e : List Expr} {E : A}, chkA n pn c e E = true → PA X e (tAa X.K W Ew (evA p.cs kl E))
  q : ∀ {c : Cxt} {Ew : XK} {X : Cx}, Ok CX W pn p k kl c Ew X → ∀ {e : List Expr} {E : A}, chkA n pn c e E = true → Pes X W Ew e (evA p.cs kl E)
  as : ∀ {c : Cxt} {Ew : XK} {X : Cx}, Ok CX W pn p k kl c Ew X → ∀ {e : List Expr} {E : A}, chkAS n pn c e E = true → PA X e (tAa X.K W Ew (evA p.cs kl E))
  i : ∀ {c : Cxt} {Ew : XK} {X : Cx}, Ok CX W pn p k kl c Ew X → ∀ {tg e : Expr} {E : I}, chkI n pn c tg e E = true → PI X tg e (tIi X.K W Ew (evI p.cs kl E))
theorem one_some {e x : Expr} (h : one? e = some x) : ∃ op pos, e = .BoolOp op [x] pos := by
  unfold one? at h
  split at h
  · cases h; exact ⟨_, _, rfl⟩
  · cases h
theorem cst_snd {X : Cx} {Ew : XK} {kc : Const} {j : Nat} {pos : Pos} {d : D} (h : cstB kc d = true) : PE X (.Constant kc j pos) (tE X.K W Ew fun _ g => .ok d g) := by
  cases kc <;> cases d <;> (try (cases h; done))
  · exact e_cst pe_non fun _ => rfl
  · have e := eq_of_beq h; subst e; exact e_cst pe_bl fun _ => rfl
  · have e := of_decide_eq_true h; subst e; exact e_cst pe_int fun _ => rfl
  · have e := of_decide_eq_true h; subst e; exact e_cst pe_str fun _ => rfl
theorem lc_snd {n : Nat} (ih : SE CX W pn p k kl n) {c : Cxt} {Ew : XK} {X : Cx} (ok : Ok CX W pn p k kl c Ew X) {elt tg iter : Expr} {ifs : List Expr} {scope : Scope} {elt' : E} {t : T} {it : I} {cond : Option E}
    (hb : blkC c.N c.sc scope (ownOf c t) = true) (hs : nSet iter = true) (ht : chkT n (blkCtx c scope) tg t = true) (hi : chkI n pn c tg iter it = true)
    (hc : (match ifs, cond with | [], none => true | [q], some q' => chkE n pn (blkCtx c scope) q q' | _, _ => false) = true) (he : chkE n pn (blkCtx c scope) elt elt' = true) :
    ∃ (wi : TI) (g : TG) (tt : TT) (te : TE) (own : List (Str × Nat)), PI X tg iter wi ∧ BlkOk X.N X.env.scope scope own ∧
      (∀ (s : Shared) (H : Hp) (C : Addr) (cl : List (Str × Addr)) (fp : List Addr), PG (X.blk s H scope (compEnvC scope cl C X.env) fp) tg g) ∧
      (∀ (s : Shared) (H : Hp) (C : Addr) (cl : List (Str × Addr)) (fp : List Addr), PTs (X.blk s H scope (compEnvC scope cl C X.env) fp) ifs tt) ∧
      (∀ (s : Shared) (H : Hp) (C : Addr) (cl : List (Str × Addr)) (fp : List Addr), PE (X.blk s H scope (compEnvC scope cl C X.env) fp) elt te) ∧
      (∀ x, foldedSetIterable iter X.env x = pure x) ∧
      ∀ σ H Q, tFf X.K W Ew (evE p.cs kl (.lc elt' t it cond)) σ H Q → tLc wi g tt te (own.map (·.2)) σ H Q := by
  have bo : BlkOk X.N X.env.scope scope (ownOf c t) := by rw [ok.N, ok.sc]; exact blkOk_by hb
  have hi' := ih.i ok hi
  have hg : ∀ (s : Shared) (H : Hp) (C : Addr) (cl : List (Str × Addr)) (fp : List Addr), PG (X.blk s H scope (compEnvC scope cl C X.env) fp) tg (tGg X.K W t) := fun s H C cl fp => (sndT (ok.blk s H scope cl C fp) n).1 tg t ht
  have he' : ∀ (s : Shared) (H : Hp) (C : Addr) (cl : List (Str × Addr)) (fp : List Addr), PE (X.blk s H scope (compEnvC scope cl C X.env) fp) elt (tE X.K W E0 (evE p.cs kl elt')) := fun s H C cl fp => ih.e (ok.blk s H scope cl C fp) he
  match ifs, cond, hc with
  | [], none, _ =>
    have ht' : ∀ (s : Shared) (H : Hp) (C : Addr) (cl : List (Str × Addr)) (fp : List Addr), PTs (X.blk s H scope (compEnvC scope cl C X.env) fp) [] (tTt X.K W E0 fun _ g => .ok true g) := fun s H C cl fp => ts_nil
    refine ⟨_, _, _, _, _, hi', bo, hg, ht', he', set_of hs X.env, fun σ H Q h => f_lc ok.calm ok.nd hi' bo (own_map c t) hg ht' he' (set_of hs X.env) σ H Q ?_⟩
    simp only [evE] at h
    exact h
  | [q], some q', hq =>
    have ht' : ∀ (s : Shared) (H : Hp) (C : Addr) (cl : List (Str × Addr)) (fp : List Addr), PTs (X.blk s H scope (compEnvC scope cl C X.env) fp) [q] (tTt X.K W E0 fun Γ g => blR (evE p.cs kl q' Γ g)) := fun s H C cl fp => pts_one (ih.t (ok.blk s H scope cl C fp) hq)
    refine ⟨_, _, _, _, _, hi', bo, hg, ht', he', set_of hs X.env, fun σ H Q h => f_lc ok.calm ok.nd hi' bo (own_map c t) hg ht' he' (set_of hs X.env) σ H Q ?_⟩
    simp only [evE] at h
    exact h
  | [], some _, h => cases h
  | [_], none, h => cases h
  | _ :: _ :: _, none, h => cases h
  | _ :: _ :: _, some _, h => cases h
theorem unsnoc_eq : ∀ {l r : List Expr} {x : Expr}, unsnoc l = some (r, x) → l = r ++ [x]
  | [], _, _, h => by cases h
  | [a], r, x, h => by
    simp only [unsnoc, Option.some.injEq, Prod.mk.injEq] at h
    obtain ⟨rfl, rfl⟩ := h
    rfl
  | a :: b :: l, r, x, h => by
    simp only [unsnoc, Option.map_eq_some_iff] at h
    obtain ⟨⟨r', x'⟩, e, h⟩ := h
    simp only [Prod.mk.injEq] at h
    obtain ⟨rfl, rfl⟩ := h
    rw [unsnoc_eq e]
    rfl
theorem lst_shape {cs : List (Nat × D)} {call : Calls} {as : A} {Γ : Gm} {g g' : G} {d : D} (h : evE cs call (.lst as) Γ g = .ok d g') : isOb d = true := by
  simp only [evE] at h
  obtain ⟨x, g1, _, h⟩ := bind_ok h
  cases h
  rfl
theorem lc_shape {cs : List (Nat × D)} {call : Calls} {elt : E} {t : T} {it : I} {cond : Option E} {Γ : Gm} {g g' : G} {d : D} (h : evE cs call (.lc elt t it cond) Γ g = .ok d g') : isOb d = true := by
  simp only [evE] at h
  obtain ⟨x, g1, _, h⟩ := bind_ok h
  obtain ⟨x, g1, _, h⟩ := bind_ok h
  cases h
  rfl
theorem lst_snd {n : Nat} (ih : SE CX W pn p k kl n) {c : Cxt} {Ew : XK} {X : Cx} (ok : Ok CX W pn p k kl c Ew X) {es : List Expr} {pos : Pos} {as : A} (h : chkA n pn c es as = true) (hl : es.length ≤ 1000) : PE X (.List es pos) (tFf X.K W Ew (evE p.cs kl (.lst as))) := by
  have q := f_lst (pos := pos) (fs := evA p.cs kl as) (fun Γ g ds g' e => by rw [(chkA_len (n := n) h).2 _ _ _ _ _ _ e]; omega) (ih.a ok h)
  have e : evE p.cs kl (.lst as) = fun Γ g => (evA p.cs kl as Γ g).bind fun xs g => .ok (.lst xs) g := by funext Γ g; first | rfl | (simp only [evE]; done) | (simp only [evE]; rfl)
  rw [e]
  exact q
theorem snd_e {n : Nat} (ih : SE CX W pn p k kl n) {c : Cxt} {Ew : XK} {X : Cx} (ok : Ok CX W pn p k kl c Ew X) {e : Expr} {E : E} (h : chkE (n + 1) pn c e E = true) : PE X e (tE X.K W Ew (evE p.cs kl E)) := by
  unfold chkE at h
  split at h
  · rename_i x hx
    obtain ⟨op, pos, rfl⟩ := one_some hx
    exact pe_one (ih.e ok h)
  · rename_i h1
    cases E with
    | cst d =>
      dsimp only at h
      split at h
      · have e : evE p.cs kl (.cst d) = fun _ g => .ok d g := by funext Γ g; first | rfl | (simp only [evE]; done) | (simp only [evE]; rfl)
        rw [e]
        exact cst_snd h
      · cases h
    | var i =>
      dsimp only at h
      split at h
      · rename_i x q
        simp only [Bool.and_eq_true, decide_eq_true_eq] at h
        have hN : X.N[i]? = some x := by rw [ok.N]; exact h.1
        have hm := ok.nm x (List.mem_of_getElem? hN)
        have e : evE p.cs kl (.var i) = fun Γ g => match Γ[i]? with | some (.val d) => .ok d g | _ => .st := by funext Γ g; first | rfl | (simp only [evE]; done) | (simp only [evE]; rfl)
        rw [e]
        exact e_var (pe_var hN (by rw [ok.sc]; exact vis_of h.2) (okN1 hm) (okN2 hm))
      · cases h
    | glb i =>
      dsimp only at h
      split at h
      · rename_i x q
        simp only [Bool.and_eq_true, decide_eq_true_eq] at h
        cases hd : p.cs.lookup i with
        | none =>
          refine ⟨fun pins s σ H Q I ⟨Hk0, H0, Γ, g, Hk, fr, hf⟩ => ?_⟩
          simp only [evE, hd] at hf
          exact hf.elim
        | some d =>
          obtain ⟨u, v, h1, h2, h3, h4⟩ := ok.cs i d x hd h.1
          have e : evE p.cs kl (.glb i) = fun _ g => .ok d g := by funext Γ g; simp only [evE, hd]; rfl
          rw [e]
          exact e_cst (pe_glob (ok.gl h.2) h2 h3 (okN1 h1)) h4
      · cases h
    | bin o a' b' =>
      dsimp only at h
      split at h
      · simp only [Bool.and_eq_true] at h
        rw [op_of h.1.1]
        have e := e_bin (pos := ‹Pos›) o (ih.e ok h.1.2) (ih.e ok h.2)
        have e2 : evE p.cs kl (.bin o a' b') = fun Γ g => (evE p.cs kl a' Γ g).bind fun x g => (evE p.cs kl b' Γ g).bind fun y g => lift (opD o x y) g := by funext Γ g; first | rfl | (simp only [evE]; done) | (simp only [evE]; rfl)
        rw [e2]
        exact e
      · cases h
    | neg a' =>
      dsimp only at h
      split at h
      · have e := e_neg (pos := ‹Pos›) (ih.e ok h)
        have e2 : evE p.cs kl (.neg a') = fun Γ g => (evE p.cs kl a' Γ g).bind fun x g => match x with | .int i => .ok (.int (-i)) g | _ => .st := by funext Γ g; first | rfl | (simp only [evE]; done) | (simp only [evE]; rfl)
        rw [e2]
        exact e
      · cases h
    | cmp o a' b' =>
      dsimp only at h
      split at h
      · simp only [Bool.and_eq_true] at h
        rw [cm_of h.1.1.1]
        have e := e_cmp (pos := ‹Pos›) ok.un ok.w o (ih.e ok h.1.1.2) (ih.e ok h.1.2) (marks_of h.2 _)
        have e2 : evE p.cs kl (.cmp o a' b') = fun Γ g => (evE p.cs kl a' Γ g).bind fun x g => (evE p.cs kl b' Γ g).bind fun y g => lift ((cmpD o x y).map .bl) g := by funext Γ g; first | rfl | (simp only [evE]; done) | (simp only [evE]; rfl)
        rw [e2]
        exact e
      · cases h
    | chn o o' a' b' d' =>
      dsimp only at h
      split at h
      · simp only [Bool.and_eq_true] at h
        rw [cm_of h.1.1.1.1.1, cm_of h.1.1.1.1.2]
        have e := e_chn (pos := ‹Pos›) ok.un ok.w o o' (ih.e ok h.1.1.1.2) (ih.e ok h.1.1.2) (ih.e ok h.1.2) (by show behindInMarks _ _ = false; exact marks_of h.2 _)
        have e2 : evE p.cs kl (.chn o o' a' b' d') = chnR o o' (evE p.cs kl a') (evE p.cs kl b') (evE p.cs kl d') := by funext Γ g; simp only [evE, chnR]
        rw [e2]
        exact e
      · cases h
    | and a b =>
      dsimp only at h
      split at h
      · simp only [Bool.and_eq_true] at h
        have e := e_and (ih.e ok h.1) (ih.e ok h.2)
        have e2 : evE p.cs kl (.and a b) = andR (evE p.cs kl a) (evE p.cs kl b) := by funext Γ g; simp only [evE, andR]
        rw [e2]
        exact e
      · cases h
    | or a b =>
      dsimp only at h
      split at h
      · simp only [Bool.and_eq_true] at h
        have e := e_or (ih.e ok h.1) (ih.e ok h.2)
        have e2 : evE p.cs kl (.or a b) = orR (evE p.cs kl a) (evE p.cs kl b) := by funext Γ g; simp only [evE, orR]
        rw [e2]
        exact e
      · cases h
    | not a' =>
      dsimp only at h
      split at h
      · have e := e_not (pos := ‹Pos›) (ih.e ok h)
        have e2 : evE p.cs kl (.not a') = fun Γ g => (blR (evE p.cs kl a' Γ g)).bind fun k g => .ok (.bl (!k)) g := by funext Γ g; first | rfl | (simp only [evE]; done) | (simp only [evE]; rfl)
        rw [e2]
        exact e
      · cases h
    | ife t' a' b' =>
      dsimp only at h
      split at h
      · simp only [Bool.and_eq_true] at h
        have e := e_ife (pos := ‹Pos›) (ih.t ok h.1.1) (ih.e ok h.1.2) (ih.e ok h.2)
        have e2 : evE p.cs kl (.ife t' a' b') = ifeR (evE p.cs kl t') (evE p.cs kl a') (evE p.cs kl b') := by funext Γ g; simp only [evE, ifeR]
        rw [e2]
        exact e
      · cases h
    | tup as =>
      dsimp only at h
      split at h
      · simp only [Bool.and_eq_true, decide_eq_true_eq] at h
        have e := e_tup (pos := ‹Pos›) (x1 := ‹Nat›) (fs := evA p.cs kl as) (fun Γ g ds g' e => by rw [(chkA_len (n := n) h.1).2 _ _ _ _ _ _ e]; omega) (ih.a ok h.1)
        have e2 : evE p.cs kl (.tup as) = fun Γ g => (evA p.cs kl as Γ g).bind fun xs g => .ok (.tup xs) g := by funext Γ g; first | rfl | (simp only [evE]; done) | (simp only [evE]; rfl)
        rw [e2]
        exact e
      · cases h
    | lst as =>
      dsimp only at h
      split at h
      · simp only [Bool.and_eq_true, decide_eq_true_eq] at h
        exact f_tell (lst_snd ih ok h.1 h.2) fun Γ g d g' e => lst_shape e
      · cases h
    | sl a' lo' hi' =>
      dsimp only at h
      split at h
      · simp only [Bool.and_eq_true] at h
        have e := e_sl (pos := ‹Pos›) (p2 := ‹Pos›) (ih.e ok h.1.1) (ih.o ok h.1.2) (ih.o ok h.2)
        have e2 : evE p.cs kl (.sl a' lo' hi') = fun Γ g => (evE p.cs kl a' Γ g).bind fun x g => (evO p.cs kl lo' Γ g).bind fun l g => (evO p.cs kl hi' Γ g).bind fun h g => lift (slD x l h) g := by funext Γ g; first | rfl | (simp only [evE]; done) | (simp only [evE]; rfl)
        rw [e2]
        exact e_sl (ih.e ok h.1.1) (ih.o ok h.1.2) (ih.o ok h.2)
      · cases h
    | idx a' b' =>
      dsimp only at h
      split at h
      · simp only [Bool.and_eq_true] at h
        have e2 : evE p.cs kl (.idx a' b') = fun Γ g => (evE p.cs kl a' Γ g).bind fun x g => (evE p.cs kl b' Γ g).bind fun y g => lift (idxD x y) g := by funext Γ g; first | rfl | (simp only [evE]; done) | (simp only [evE]; rfl)
        rw [e2]
        exact e_idx ok.un ok.w (ih.e ok h.1.1) (ih.e ok h.1.2) (ix_of h.2)
      · cases h
    | lc elt' t it cond =>
      dsimp only at h
      split at h
      · rename_i elt tg iter ifs z scope pos
        simp only [Bool.and_eq_true, decide_eq_true_eq] at h
        obtain ⟨⟨⟨⟨⟨⟨hz, hb⟩, hs⟩, ht⟩, hi⟩, hc⟩, he⟩ := h
        subst hz
        obtain ⟨wi, g, tt, te, own, q1, q2, q3, q4, q5, q6, q7⟩ := lc_snd ih ok hb hs ht hi hc he
        exact f_tell (PE.imp (pe_lc ok.calm ok.nd q1 q2 q3 q4 q5 q6) q7) fun Γ g d g' e => lc_shape e
      · cases h
    | call f as =>
      dsimp only at h
      split at h
      · rename_i x q es pos
        simp only [Bool.and_eq_true, decide_eq_true_eq] at h
        obtain ⟨a, fd, ps, n1, n2, n3, n4, n5, n6⟩ := ok.ds f x h.1.1.1 h.1.1.2
        have hn := (chkA_len (n := n) h.2).1
        have e2 : evE p.cs kl (.call f as) = fun Γ g => (evA p.cs kl as Γ g).bind fun xs g => kl f xs g := by funext Γ g; first | rfl | (simp only [evE]; done) | (simp only [evE]; rfl)
        rw [e2]
        cases es with
        | nil =>
          cases as with
          | nil =>
            have e3 : (fun Γ g => (evA p.cs kl .nil Γ g).bind fun xs g => kl f xs g) = fun (Γ : Gm) g => R.bind (R.ok [] g) fun xs g => kl f xs g := by funext Γ g; simp only [evA]
            rw [e3]
            exact e_call0 n5 ok.room ok.gd (ok.gl h.1.2) n2 n3 n4 ok.pass n6 (okN1 n1)
          | cons _ _ => cases n <;> cases h.2
          | star _ _ => cases n <;> cases h.2
        | cons e es =>
          simp only [nSts, Bool.and_eq_true] at hn
          exact e_call n5 ok.room ok.gd (ok.gl h.1.2) n2 n3 n4 ok.pass n6 (ih.a ok h.2) (okN1 n1) (star_of hn.1 _ _) (back_of _ _ hn.2)
      · rename_i x q es kws pos _
        split at h
        · rename_i y ks hkw
          split at h
          · rename_i a1 a2 hsp
            simp only [Bool.and_eq_true, decide_eq_true_eq] at h
            obtain ⟨⟨⟨⟨⟨⟨z1, z2⟩, z3⟩, z4⟩, z5⟩, z6⟩, z7⟩ := h
            subst z2
            obtain ⟨a, fd, ps, n1, n2, n3, n4, n5, n6⟩ := ok.kd f _ ks z1 hkw
            have hn := (chkA_len (n := n) z6).1
            have e2 : evE p.cs kl (.call f as) = fun Γ g => (evA p.cs kl a1 Γ g).bind fun xs g => (evA p.cs kl a2 Γ g).bind fun ys g => kl f (xs ++ ys) g := by
              funext Γ g
              have : evE p.cs kl (.call f as) Γ g = (evA p.cs kl as Γ g).bind fun xs g => kl f xs g := by first | rfl | (simp only [evE]; done) | (simp only [evE]; rfl)
              rw [this, evA_split hsp, bind_as]
              congr 1
              funext xs g
              rw [bind_as]
              congr 1
            rw [e2]
            cases es with
            | nil => cases z4
            | cons e es =>
              have hn0 := hn
              simp only [nSts, Bool.and_eq_true] at hn
              have lk : kws.length = ks.length := by have := congrArg List.length z5; simpa using this
              exact e_callK n5 ok.room ok.gd (ok.gl z3) n2 n3 n4 ok.pass n6 (fun Γ g ys g' e => by rw [(chkA_len (n := n) z7).2 _ _ _ _ _ _ e, List.length_map, lk]) (ih.a ok z6) (pk_of (ih.q ok z7) rfl) z5 (okN1 n1) (star_of hn.1 _ _) (back_of _ _ hn0)
          · cases h
        · cases h
      · cases h
    | callP f v ix as =>
      dsimp only at h
      split at h
      · rename_i x q es kws pos
        split at h
        · rename_i g y m ks jx hkp
          split at h
          · rename_i a1 a2 hsp
            simp only [Bool.and_eq_true, decide_eq_true_eq] at h
            obtain ⟨⟨⟨⟨⟨⟨⟨⟨z1, z2⟩, z3⟩, z4⟩, z5⟩, z6⟩, z7⟩, z8⟩, z9⟩ := h
            subst z2 z3 z4 z5
            obtain ⟨a, fd, ps, n1, n2, n3, n4, n5, n6⟩ := ok.kp v g y es.length ks ix z1 hkp
            have lk : kws.length = ks.length := by have := congrArg List.length z7; simpa using this
            have e2 : evE p.cs kl (.callP g v ix as) = fun Γ g' => (evA p.cs kl a1 Γ g').bind fun xs g' => (evA p.cs kl a2 Γ g').bind fun ys g' => match pickD ix (xs ++ ys) with | some ds => kl g ds g' | none => .st := by
              funext Γ g'
              have : evE p.cs kl (.callP g v ix as) Γ g' = (evA p.cs kl as Γ g').bind fun xs g' => match pickD ix xs with | some ds => kl g ds g' | none => .st := by first | rfl | (simp only [evE]; done) | (simp only [evE]; rfl)
              rw [this, evA_split hsp, bind_as]
              congr 1
              funext xs g'
              rw [bind_as]
              congr 1
            rw [e2]
            refine e_callP n5 ok.room ok.gd (ok.gl z6) n2 n3 n4 ok.pass (fun Γ g ys g' e => (chkA_len (n := n) z8).2 _ _ _ _ _ _ e) (fun Γ g ys g' e => by rw [(chkA_len (n := n) z9).2 _ _ _ _ _ _ e, List.length_map, lk]) n6 (ih.a ok z8) (fun e0 => ?_) (chkA_len (n := n) z8).1 (pk_of (ih.q ok z9) rfl) z7 (okN1 n1)
            subst e0
            have : a1 = .nil := by
              simp only [List.length_nil, splitA, Option.some.injEq, Prod.mk.injEq] at hsp
              exact hsp.1.symm
            subst this
            funext Γ g'
            simp only [evA]
          · cases h
        · cases h
      · cases h
    | bi b as =>
      dsimp only at h
      split at h
      · rename_i x q es pos
        simp only [Bool.and_eq_true, decide_eq_true_eq] at h
        obtain ⟨⟨⟨rfl, hg⟩, ha⟩, hne⟩ := h
        have hn := (chkA_len (n := n) ha).1
        have e2 : evE p.cs kl (.bi b as) = fun Γ g => (evA p.cs kl as Γ g).bind fun xs g => lift (biD b xs) g := by funext Γ g; first | rfl | (simp only [evE]; done) | (simp only [evE]; rfl)
        rw [e2]
        cases es with
        | nil => cases hne
        | cons e es => exact ok.bi b hg (ih.a ok ha) hn
      · cases h
    | isi a' ts =>
      dsimp only at h
      split at h
      · rename_i x q a b pos
        simp only [Bool.and_eq_true, decide_eq_true_eq] at h
        obtain ⟨⟨⟨⟨rfl, hg⟩, ha⟩, hn⟩, ht⟩ := h
        have e2 : evE p.cs kl (.isi a' ts) = fun Γ g => (evE p.cs kl a' Γ g).bind fun x g => lift ((isiD ts x).map .bl) g := by funext Γ g; first | rfl | (simp only [evE]; done) | (simp only [evE]; rfl)
        rw [e2]
        have hm : X.mg "isinstance" = none := ok.bn _ (by simp [bNames])
        match ts, ht with
        | [t], ht =>
          have hb := ty_nst ht
          exact e_isi1 (tx := "") (p2 := q) (ih.e ok ha) (ok.ty ht) (ok.gl hg) hm (star_of hn _ _) (star_of hb _ _) (back_of _ _ (by simp only [nSts, Bool.and_eq_true]; exact ⟨hb, trivial⟩))
        | [t, u], ht =>
          dsimp only at ht
          split at ht
          · rename_i b1 b2 _ _ _
            simp only [Bool.and_eq_true] at ht
            have n1 := ty_nst ht.1
            have n2 := ty_nst ht.2
            have hb : PE X (.Tuple [b1, b2] ‹Nat› ‹Pos›) (tTup fun _ H Q => Q [.ty (tyN t), .ty (tyN u)] H) := pe_tup (pa_cons (ok.ty ht.1) (pa_cons (ok.ty ht.2) pa_nil (star_of n2 _ _)) (star_of n1 _ _))
            exact e_isi2 (tc := tNil) (ih.e ok ha) hb (ok.gl hg) hm (star_of hn _ _) rfl rfl
          · cases ht
        | [], ht => cases ht
        | _ :: _ :: _ :: _, ht => cases ht
      · cases h
    | cat a' b' =>
      dsimp only at h
      split at h
      · simp only [Bool.and_eq_true] at h
        have e2 : evE p.cs kl (.cat a' b') = catR (evE p.cs kl a') (evE p.cs kl b') := by funext Γ g; simp only [evE, catR] <;> rfl
        rw [e2]
        exact f_tell (f_cat (ih.e ok h.1) (ih.e ok h.2)) fun Γ g d g' e => cat_shape e
      · cases h
    | rev a' =>
      dsimp only at h
      split at h
      · simp only [Bool.and_eq_true, decide_eq_true_eq] at h
        obtain ⟨rfl, h⟩ := h
        have e2 : evE p.cs kl (.rev a') = revR (evE p.cs kl a') := by funext Γ g; simp only [evE, revR] <;> rfl
        rw [e2]
        exact f_tell (f_rev (ih.e ok h)) fun Γ g d g' e => rev_shape e
      · cases h
    | idxO i b' =>
      dsimp only at h
      split at h
      · rename_i x q b pos
        simp only [Bool.and_eq_true, decide_eq_true_eq] at h
        obtain ⟨⟨⟨hN0, hv⟩, hb⟩, hs⟩ := h
        have hN : X.N[i]? = some x := by rw [ok.N]; exact hN0
        have hm := ok.nm x (List.mem_of_getElem? hN)
        have e2 : evE p.cs kl (.idxO i b') = idxOR i (evE p.cs kl b') := by funext Γ g; simp only [evE, idxOR] <;> rfl
        rw [e2]
        exact e_idxO ok.un ok.w (pe_var hN (by rw [ok.sc]; exact vis_of hv) (okN1 hm) (okN2 hm)) (ih.e ok hb) (ix_of hs)
      · cases h
    | emO neg i =>
      dsimp only at h
      split at h
      · rename_i x q op q2 pos
        simp only [Bool.and_eq_true, decide_eq_true_eq] at h
        obtain ⟨⟨h1, hN0⟩, hv⟩ := h
        have hN : X.N[i]? = some x := by rw [ok.N]; exact hN0
        have hm := ok.nm x (List.mem_of_getElem? hN)
        have e2 : evE p.cs kl (.emO neg i) = emOR neg i := by funext Γ g; simp only [evE, emOR] <;> rfl
        rw [e2]
        have pv : PE X (.Name x q) (tVar i) := pe_var hN (by rw [ok.sc]; exact vis_of hv) (okN1 hm) (okN2 hm)
        cases neg <;> cases op <;> (try (cases h1; done))
        · exact PE.imp (pe_cmpR (op_eqNil ok.un) pv (pe_lst pa_nil) rfl) fun σ H Q z => em_read z
        · exact PE.imp (pe_cmpR (op_neNil ok.un) pv (pe_lst pa_nil) rfl) fun σ H Q z => em_read z
      · cases h
    | tupS as =>
      dsimp only at h
      split at h
      · have e2 : evE p.cs kl (.tupS as) = fun Γ g => (evA p.cs kl as Γ g).bind fun xs g => if xs.length ≤ 1000000 then .ok (.tup xs) g else .st := by funext Γ g; simp only [evE] <;> rfl
        rw [e2]
        exact e_tupS (ih.as ok h)
      · cases h
    | dnil =>
      dsimp only at h
      split at h
      · have e2 : evE p.cs kl .dnil = fun _ g => .ok (.dct [] []) g := by funext Γ g; simp only [evE]
        rw [e2]
        exact f_tell f_dnil fun Γ g d g' e => by cases e; rfl
      · cases h
    | done k' v' =>
      dsimp only at h
      split at h
      · simp only [Bool.and_eq_true] at h
        have e2 : evE p.cs kl (.done k' v') = doneR (evE p.cs kl k') (evE p.cs kl v') := by funext Γ g; simp only [evE, doneR] <;> rfl
        rw [e2]
        exact f_tell (f_done ok.un ok.w (ih.e ok h.1) (ih.e ok h.2)) fun Γ g d g' e => done_shape e
      · cases h
    | inO neg a' i =>
      dsimp only at h
      split at h
      · rename_i a op x q pos
        simp only [Bool.and_eq_true, decide_eq_true_eq] at h
        obtain ⟨⟨⟨h1, ha⟩, hN0⟩, hv⟩ := h
        have hN : X.N[i]? = some x := by rw [ok.N]; exact hN0
        have hm := ok.nm x (List.mem_of_getElem? hN)
        have e2 : evE p.cs kl (.inO neg a' i) = inOR neg (evE p.cs kl a') i := by funext Γ g; simp only [evE, inOR] <;> rfl
        rw [e2]
        have pv : PE X (.Name x q) (tVar i) := pe_var hN (by rw [ok.sc]; exact vis_of hv) (okN1 hm) (okN2 hm)
        cases neg <;> cases op <;> (try (cases h1; done))
        · exact e_inO (neg := false) ok.un ok.w (ih.e ok ha) pv rfl
        · exact e_inO (neg := true) ok.un ok.w (ih.e ok ha) pv rfl
      · cases h
    | lrng1 a' =>
      dsimp only at h
      split at h
      · rename_i f q1 r q2 a q3 q4
        simp only [Bool.and_eq_true, decide_eq_true_eq] at h
        obtain ⟨⟨⟨⟨⟨rfl, hg⟩, rfl⟩, hg2⟩, ha⟩, hn⟩ := h
        have e2 : evE p.cs kl (.lrng1 a') = lrng1R (evE p.cs kl a') := by funext Γ g; simp only [evE, lrng1R] <;> rfl
        rw [e2]
        exact f_tell (f_lrng1 ok.calm (ok.gl hg) (ok.bn _ (by simp [bNames])) (ok.gl hg2) (ok.bn _ (by simp [bNames])) (ih.e ok ha) (star_of hn _ _)) fun Γ g d g' e => lrng1_shape e
      · cases h
    | lrng2 a' b' =>
      dsimp only at h
      split at h
      · rename_i f q1 r q2 a b q3 q4
        simp only [Bool.and_eq_true, decide_eq_true_eq] at h
        obtain ⟨⟨⟨⟨⟨⟨⟨rfl, hg⟩, rfl⟩, hg2⟩, ha⟩, hn⟩, hb⟩, hn2⟩ := h
        have e2 : evE p.cs kl (.lrng2 a' b') = lrng2R (evE p.cs kl a') (evE p.cs kl b') := by funext Γ g; simp only [evE, lrng2R] <;> rfl
        rw [e2]
        exact f_tell (f_lrng2 ok.calm (ok.gl hg) (ok.bn _ (by simp [bNames])) (ok.gl hg2) (ok.bn _ (by simp [bNames])) (ih.e ok ha) (ih.e ok hb) (star_of hn _ _) (star_of hn2 _ _) (by rw [star_of hn2]; rfl)) fun Γ g d g' e => lrng2_shape e
      · cases h
    | lenO i =>
      dsimp only at h
      split at h
      · rename_i f q x q2 pos
        simp only [Bool.and_eq_true, decide_eq_true_eq] at h
        obtain ⟨⟨⟨rfl, hg⟩, hN0⟩, hv⟩ := h
        have hN : X.N[i]? = some x := by rw [ok.N]; exact hN0
        have hm := ok.nm x (List.mem_of_getElem? hN)
        have e2 : evE p.cs kl (.lenO i) = lenOR i := by funext Γ g; simp only [evE, lenOR] <;> rfl
        rw [e2]
        exact e_lenO ok.w (pe_var hN (by rw [ok.sc]; exact vis_of hv) (okN1 hm) (okN2 hm)) (ok.gl hg) (ok.bn _ (by simp [bNames]))
      · cases h
    | lstS as =>
      dsimp only at h
      split at h
      · have e2 : evE p.cs kl (.lstS as) = fun Γ g => (evA p.cs kl as Γ g).bind fun xs g => if xs.length ≤ 1000000 then .ok (.lst xs) g else .st := by funext Γ g; simp only [evE] <;> rfl
        rw [e2]
        exact f_tell (f_lstS (ih.as ok h)) fun Γ g d g' e => lstS_shape e
      · cases h
    | said v tb e' =>
      dsimp only at h
      split at h
      · rename_i x q params body scope lp pos
        simp only [Bool.and_eq_true, decide_eq_true_eq] at h
        obtain ⟨⟨⟨⟨h1, h2⟩, h3⟩, h4⟩, h5⟩ := h
        split at h4
        · rename_i ys hys
          have e2 : evE p.cs kl (.said v tb e') = fun Γ g => caughtR tb (evE p.cs kl e' Γ g) := by funext Γ g; simp only [evE]
          rw [e2]
          exact e_said ok h1 h2 h3 (lamYs_ok hys) (lamQ_ok h4) fun hr hg => ih.e (ok.lamc hr hg) h5
        · cases h4
      · cases h
    | callL f as i e' =>
      dsimp only at h
      split at h
      · rename_i x q es pos
        split at h
        · rename_i es0 params body scope lp hun
          simp only [Bool.and_eq_true, decide_eq_true_eq] at h
          obtain ⟨⟨⟨⟨⟨z1, z2⟩, z3⟩, z4⟩, z5⟩, z6⟩ := h
          split at z5
          · rename_i y hy
            simp only [Bool.and_eq_true, decide_eq_true_eq] at z5
            obtain ⟨⟨g1, g2⟩, g3⟩ := z5
            have ee := unsnoc_eq hun
            subst ee
            have e2 : evE p.cs kl (.callL f as i e') = fun Γ g => (evA p.cs kl as Γ g).bind fun xs g => if noFns xs && decide (i < Γ.length) then plainR (kl.l f xs (fun d g => if noFn d then plainR (evE p.cs kl e' ((noOwn Γ).set i (.val d)) g) else .st) g) else .st := by funext Γ g; simp only [evE]
            rw [e2]
            exact (ok.lm z1).ls f x z2.2 z2.1 (by have := ok.pass; rw [ok.cx] at this; exact this) ok.N ok.sc (ok.gl z3) (ih.q ok z4) hy g1 g2 (lam1B_ok g3) fun hr hg => ih.e (ok.lamc hr hg) z6
          · cases z5
        · cases h
      · cases h
    | callv i a' =>
      dsimp only at h
      split at h
      · rename_i x q a pos
        simp only [Bool.and_eq_true, decide_eq_true_eq] at h
        have e2 : evE p.cs kl (.callv i a') = fun Γ g => match Γ[i]? with
          | some (.val .fn) => (evE p.cs kl a' Γ g).bind fun d g => kl LAM [d] g
          | _ => .st := by funext Γ g; simp only [evE] <;> rfl
        rw [e2]
        exact ok.lv x i h.1.1.1 h.2 h.1.1.2 (ih.e ok h.1.2)
      · cases h
    | isX a' yes no =>
      dsimp only at h
      split at h
      · rename_i x q a y q2 pos
        simp only [Bool.and_eq_true, decide_eq_true_eq] at h
        obtain ⟨⟨⟨⟨⟨rfl, hg⟩, hgy⟩, hn⟩, hx⟩, ha⟩ := h
        obtain ⟨cvs, pr, fx⟩ := ok.xi [y] yes no hx
        cases pr with
        | cons hy rest =>
          cases rest
          rename_i c0
          have e2 : evE p.cs kl (.isX a' yes no) = fun Γ g => (evE p.cs kl a' Γ g).bind fun x g => lift ((isXD yes no x).map .bl) g := by funext Γ g; simp only [evE]
          rw [e2]
          obtain ⟨hoy, hcase⟩ := hy
          have ht : PE X (.Name y q2) (tC c0) := by
            rcases hcase with ⟨C, rfl, hm⟩ | ⟨T, rfl, hm, hb⟩
            · exact pe_glob (ok.gl hgy) hm rfl (okN1 hoy)
            · exact pe_bltn (ok.gl hgy) hm hb rfl (okN3 hoy) (okN1 hoy)
          have hcv : ∀ u, L2.RelV c0 u → u = vV c0 := by
            rcases hcase with ⟨C, rfl, hm⟩ | ⟨T, rfl, hm, hb⟩ <;> exact fun u r => r
          exact e_isX (ih.e ok ha) ht (ok.gl hg) (ok.bn _ (by simp [bNames])) hcv (fun m C ns hl => ⟨(ok.xv m C ns hl).2, fun z => ((fx m C ns hl).1 z).2 c0 rfl, fun z => (fx m C ns hl).2 z c0 rfl⟩) (star_of hn _ _) rfl (back_of _ _ rfl)
      · cases h
    | fld a' m cs =>
      dsimp only at h
      split at h
      · rename_i a m' pos
        simp only [Bool.and_eq_true, decide_eq_true_eq, List.all_eq_true] at h
        obtain ⟨⟨⟨rfl, hs⟩, ha⟩, hall⟩ := h
        have e2 : evE p.cs kl (.fld a' m' cs) = fun Γ g => (evE p.cs kl a' Γ g).bind fun x g => lift (fldD cs x) g := by funext Γ g; simp only [evE]
        rw [e2]
        refine e_fld (ih.e ok ha) (nSup_ok hs m' X.env _) fun c0 i hl C ns hx => ?_
        have h1 := hall (c0, i) (mem_lookup' hl)
        simp only at h1
        split at h1
        · rename_i x0 ns0 h2
          obtain ⟨C1, h3, h4, h5, h6⟩ := ok.xs c0 x0 ns0 h2
          rw [hx] at h3
          cases h3
          have h1 := of_decide_eq_true h1
          have cf := (ok.xv c0 C ns hx).1
          exact ⟨cf.xf, h1, cf.no _ (List.mem_of_getElem? h1)⟩
        · cases h1
      · cases h
    | mkX k0 as =>
      dsimp only at h
      split at h
      · rename_i x q e0 es pos
        split at h
        · rename_i y ns hx
          simp only [Bool.and_eq_true, decide_eq_true_eq] at h
          obtain ⟨⟨⟨rfl, h1⟩, h2⟩, h3⟩ := h
          obtain ⟨C, g1, g2, g3, g4⟩ := ok.xs k0 x ns hx
          obtain ⟨q1, q2⟩ := chkA_len (n := n) h2
          simp only [nSts, Bool.and_eq_true] at q1
          have e2 : evE p.cs kl (.mkX k0 as) = fun Γ g => (evA p.cs kl as Γ g).bind fun ds g => .ok (.exc k0 ds) g := by funext Γ g; simp only [evE]
          rw [e2]
          exact e_mkX g4 g1 (ok.room.mono (by unfold ix; omega)) (ok.gl h1) g3 (ih.a ok h2) (okN1 g2) (star_of q1.1 _ _) (back_of _ _ q1.2) fun Γ g ds g' e => by rw [q2 _ _ _ _ _ _ e, h3]
        · cases h
      · cases h
    | mkXk k0 ix as =>
      dsimp only at h
      split at h
      · rename_i x q kws pos
        split at h
        · rename_i y ns hx
          simp only [Bool.and_eq_true, decide_eq_true_eq, List.any_eq_true] at h
          obtain ⟨⟨⟨rfl, h1⟩, h2⟩, qq, hq, h3, h4⟩ := h
          obtain ⟨ks, ix'⟩ := qq
          simp only at h3 h4
          subst h4
          obtain ⟨C, g1, g2, g3, g4⟩ := ok.xs k0 x ns hx
          have e2 : evE p.cs kl (.mkXk k0 ix' as) = fun Γ g => (evA p.cs kl as Γ g).bind fun xs g => match pickD ix' xs with | some ds => .ok (.exc k0 ds) g | none => .st := by funext Γ g; simp only [evE] <;> rfl
          rw [e2]
          have lk : kws.length = ks.length := by have := congrArg List.length h3; simpa using this
          exact e_mkXk g4 g1 (ok.room.mono (by unfold ix; omega)) (ok.gl h1) g3 hq (pk_of (ih.q ok h2) rfl) h3 (okN1 g2) fun Γ g ds g' e => by rw [(chkA_len (n := n) h2).2 _ _ _ _ _ _ e, List.length_map, lk]
        · cases h
      · cases h
    | dkd ks as =>
      dsimp only at h
      split at h
      · rename_i keys es pos
        simp only [Bool.and_eq_true, decide_eq_true_eq] at h
        obtain ⟨⟨h1, h2⟩, h3, h4, h5⟩ := h
        have e2 : evE p.cs kl (.dkd ks as) = fun Γ g => (evA p.cs kl as Γ g).bind fun vs g => if vs.length = ks.length ∧ ks.length ≤ 15 ∧ ks.Nodup then .ok (.dks ks vs) g else .st := by funext Γ g; simp only [evE] <;> rfl
        rw [e2]
        exact e_dkd (ih.q ok h2) (keysB_ok h1) h5 h3 h4
      · cases h
    | callL0 f as e' =>
      dsimp only at h
      split at h
      · rename_i x q es pos
        split at h
        · rename_i es0 params body scope lp hun
          simp only [Bool.and_eq_true, decide_eq_true_eq] at h
          obtain ⟨⟨⟨⟨⟨z1, z2⟩, z3⟩, z4⟩, z5⟩, z6⟩ := h
          split at z5
          · rename_i ys hys
            have ee := unsnoc_eq hun
            subst ee
            have e2 : evE p.cs kl (.callL0 f as e') = fun Γ g => (evA p.cs kl as Γ g).bind fun xs g => if noFns xs then plainX (kl.l f xs (fun _ g => plainX (evE p.cs kl e' (noOwn Γ) g)) g) else .st := by funext Γ g; simp only [evE]
            rw [e2]
            exact (ok.lm z1).ls0 f x z2 (by have := ok.pass; rw [ok.cx] at this; exact this) ok.N ok.sc (ok.gl z3) (ih.q ok z4) (lamYs_ok hys) (lamQ_ok z5) fun hr hg => ih.e (ok.lamc hr hg) z6
          · cases z5
        · cases h
      · cases h
    | callv0 i =>
      dsimp only at h
      split at h
      · rename_i x q pos
        have h := of_decide_eq_true h
        have e2 : evE p.cs kl (.callv0 i) = call0R kl i := by funext Γ g; simp only [evE, call0R] <;> rfl
        rw [e2]
        exact ok.lv0 x i h X.pn X.xe Ew ok.tk _ _
      · cases h
    | dcp k' v' t it =>
      dsimp only at h
      split at h
      · rename_i kx vx tg iter ifs z scope pos
        simp only [Bool.and_eq_true, decide_eq_true_eq, List.isEmpty_iff] at h
        obtain ⟨⟨⟨⟨⟨⟨⟨hz, hif⟩, hb⟩, hs⟩, ht⟩, hi⟩, hk⟩, hv⟩ := h
        subst hz hif
        have bo : BlkOk X.N X.env.scope scope (ownOf c t) := by rw [ok.N, ok.sc]; exact blkOk_by hb
        have e2 : evE p.cs kl (.dcp k' v' t it) = fun Γ g => (evI p.cs kl it Γ g).bind fun xs g => dcR (dcF t (evE p.cs kl k') (evE p.cs kl v') Γ) xs (.dct [] []) g := by funext Γ g; simp only [evE]; rfl
        rw [e2]
        refine f_tell (PE.imp (pe_dx (W := W) ok.calm ok.nd ok.un ok.w (ih.i ok hi) bo (fun s H C cl' fp => (sndT (ok.blk s H scope cl' C fp) n).1 tg t ht) (fun s H C cl' fp => ih.e (ok.blk s H scope cl' C fp) hk) (fun s H C cl' fp => ih.e (ok.blk s H scope cl' C fp) hv) (set_of hs X.env)) (f_dcp (tg := tg) (iter := iter) (scope := scope) (own_map c t))) fun Γ g d g' e => ?_
        obtain ⟨xs, g1, _, e⟩ := bind_ok e
        exact dcR_shape e
      · cases h
    | dcp2 k' v' t it t1 it1 =>
      dsimp only at h
      split at h
      · rename_i kx vx tg iter z tg1 iter1 z1 scope pos
        simp only [Bool.and_eq_true, decide_eq_true_eq] at h
        obtain ⟨⟨⟨⟨⟨⟨⟨⟨⟨⟨hz, hz1⟩, hb⟩, hs⟩, hs1⟩, ht⟩, hi⟩, ht1⟩, hi1⟩, hk⟩, hv⟩ := h
        subst hz hz1
        have bo : BlkOk X.N X.env.scope scope (ownOf c (.tup [t, t1])) := by rw [ok.N, ok.sc]; exact blkOk_by hb
        have e2 : evE p.cs kl (.dcp2 k' v' t it t1 it1) = fun Γ g => (evI p.cs kl it Γ g).bind fun xs g => dc2R (dc2F t t1 (evI p.cs kl it1) (evE p.cs kl k') (evE p.cs kl v') Γ) xs (.dct [] []) g := by funext Γ g; simp only [evE]; rfl
        rw [e2]
        refine f_tell (PE.imp (pe_dx2 (W := W) (vs1 := t1.vars) ok.calm ok.nd ok.un ok.w (ih.i ok hi) bo (fun i hi => by rw [own_map]; simp [T.vars, varsT, hi]) (fun s H C cl' fp => (sndT (ok.blk s H scope cl' C fp) n).1 tg t ht) (fun s H C cl' fp => ih.i (ok.blk s H scope cl' C fp) hi1) (fun s H C cl' fp => (sndT (ok.blk s H scope cl' C fp) n).1 tg1 t1 ht1) (fun s H C cl' fp => ih.e (ok.blk s H scope cl' C fp) hk) (fun s H C cl' fp => ih.e (ok.blk s H scope cl' C fp) hv) (set_of hs X.env) (fun env => set_of hs1 env)) (f_dcp2 (own_map c (.tup [t, t1])))) fun Γ g d g' e => ?_
        obtain ⟨xs, g1, _, e⟩ := bind_ok e
        exact dc2R_shape e
      · cases h
    | draw a' b' =>
      dsimp only at h
      split at h
      · rename_i x q a b pos
        simp only [Bool.and_eq_true, decide_eq_true_eq] at h
        obtain ⟨⟨⟨⟨⟨rfl, hg⟩, ha⟩, hb⟩, n1⟩, n2⟩ := h
        obtain ⟨f, fd, ps, d1, d2, d3, d4⟩ := ok.dr
        have e2 : evE p.cs kl (.draw a' b') = fun Γ g => (evE p.cs kl a' Γ g).bind fun x g => (evE p.cs kl b' Γ g).bind fun y g => drawR x y g := by funext Γ g; simp only [evE]; rfl
        rw [e2]
        exact e_draw d4 ok.room ok.gd (ok.gl hg) d1 d2 d3 ok.pass (ih.e ok ha) (ih.e ok hb) (by decide) (star_of n1 _ _) (star_of n2 _ _) (back_of _ _ (by simp only [nSts, Bool.and_eq_true]; exact ⟨n2, trivial⟩))
      · cases h
end
end Bk
set_option Elab.async false
set_option linter.all false
set_option maxRecDepth 100000
set_option maxHeartbeats 4000000
namespace Bk
open PySem L2
open Evl (Ex ex_l ex_t)
section
variable {CX : CXT} {W : Wd} {pn : PrN} {p : Pr} {k : Nat} {kl : Calls}
theorem snd_w {n : Nat} (ih : SE CX W pn p k kl n) {c : Cxt} {Ew : XK} {X : Cx} (ok : Ok CX W pn p k kl c Ew X) {op : BoolOp} {es : List Expr} {pos : Pos} {E : E} (h : chkE (n + 1) pn c (.BoolOp op es pos) E = true) :
    PW X (.BoolOp op es pos) (tTt X.K W Ew fun Γ g => blR (evE p.cs kl E Γ g)) := by
  unfold chkE at h
  split at h
  · rename_i x hx
    obtain ⟨op', pos', e⟩ := one_some hx
    cases e
    cases op with
    | And => exact pw_and1 (ih.t ok h)
    | Or => exact pw_or1 (ih.t ok h)
  · cases E with
    | and a b =>
      dsimp only at h
      split at h
      · rename_i x y r pos' e
        cases e
        simp only [Bool.and_eq_true] at h
        have e2 : evE p.cs kl (.and a b) = andR (evE p.cs kl a) (evE p.cs kl b) := by funext Γ g; first | rfl | (simp only [evE, andR]; done) | (simp only [evE, andR]; rfl)
        rw [e2]
        exact w_and (ih.t ok h.1) (ih.w ok h.2)
      · cases h
    | or a b =>
      dsimp only at h
      split at h
      · rename_i x y r pos' e
        cases e
        simp only [Bool.and_eq_true] at h
        have e2 : evE p.cs kl (.or a b) = orR (evE p.cs kl a) (evE p.cs kl b) := by funext Γ g; first | rfl | (simp only [evE, orR]; done) | (simp only [evE, orR]; rfl)
        rw [e2]
        exact w_or (ih.t ok h.1) (ih.w ok h.2)
      · cases h
    | _ => cases h
/-- what is asked by its value -/
def plT : Expr → Bool
  | .UnaryOp .Not _ _ => false
  | .BoolOp .. => false
  | .IfExp .. => false
  | .Compare .. => false
  | _ => true
theorem plT_of {e : Expr} (h : plT e = true) (env : Env) : ∀ whole, PySem.isTrue e env whole = (do let v ← whole; standAt e.pos; holding [v] (truthy v)) := by
  intro whole
  cases e <;> first | rfl | (cases h; done) | skip
  rename_i op a pos
  cases op <;> first | rfl | cases h
theorem snd_t {n : Nat} (ih : SE CX W pn p k kl n) {c : Cxt} {Ew : XK} {X : Cx} (ok : Ok CX W pn p k kl c Ew X) {e : Expr} {E : E} (h : chkE (n + 1) pn c e E = true) : PT X e (tTt X.K W Ew fun Γ g => blR (evE p.cs kl E Γ g)) := by
  by_cases hp : plT e = true
  · exact t_val (snd_e ih ok h) (plT_of hp X.env)
  · cases e with
    | BoolOp op es pos => exact (snd_w ih ok h).pt
    | UnaryOp op a pos =>
      cases op with
      | Not =>
        unfold chkE at h
        split at h
        · rename_i x hx; cases hx
        · cases E with
          | not a' =>
            dsimp only at h
            have e2 : evE p.cs kl (.not a') = fun Γ g => (blR (evE p.cs kl a' Γ g)).bind fun k g => .ok (.bl (!k)) g := by funext Γ g; first | rfl | (simp only [evE]; done) | (simp only [evE]; rfl)
            rw [e2]
            exact t_not (ih.t ok h)
          | _ => cases h
      | _ => exact absurd rfl hp
    | IfExp t a b pos =>
      unfold chkE at h
      split at h
      · rename_i x hx; cases hx
      · cases E with
        | ife t' a' b' =>
          dsimp only at h
          simp only [Bool.and_eq_true] at h
          have e2 : evE p.cs kl (.ife t' a' b') = ifeR (evE p.cs kl t') (evE p.cs kl a') (evE p.cs kl b') := by funext Γ g; first | rfl | (simp only [evE, ifeR]; done) | (simp only [evE, ifeR]; rfl)
          rw [e2]
          exact t_ife (ih.t ok h.1.1) (ih.t ok h.1.2) (ih.t ok h.2)
        | _ => cases h
    | Compare a ops bs pos =>
      unfold chkE at h
      split at h
      · rename_i x hx; cases hx
      · cases E with
        | cmp o a' b' =>
          dsimp only at h
          split at h
          · rename_i e
            cases e
            simp only [Bool.and_eq_true] at h
            rw [cm_of h.1.1.1]
            have e2 : evE p.cs kl (.cmp o a' b') = fun Γ g => (evE p.cs kl a' Γ g).bind fun x g => (evE p.cs kl b' Γ g).bind fun y g => lift ((cmpD o x y).map .bl) g := by funext Γ g; first | rfl | (simp only [evE]; done) | (simp only [evE]; rfl)
            rw [e2]
            exact t_cmp ok.un ok.w o (ih.e ok h.1.1.2) (ih.e ok h.1.2) (marks_of h.2 _)
          · cases h
        | emO neg i =>
          dsimp only at h
          split at h
          · rename_i x q op q2 pos' e
            cases e
            simp only [Bool.and_eq_true, decide_eq_true_eq] at h
            obtain ⟨⟨h1, hN0⟩, hv⟩ := h
            have hN : X.N[i]? = some x := by rw [ok.N]; exact hN0
            have hm := ok.nm x (List.mem_of_getElem? hN)
            have e2 : evE p.cs kl (.emO neg i) = emOR neg i := by funext Γ g; simp only [evE, emOR] <;> rfl
            rw [e2]
            have pv : PE X (.Name x q) (tVar i) := pe_var hN (by rw [ok.sc]; exact vis_of hv) (okN1 hm) (okN2 hm)
            cases neg <;> cases op <;> (try (cases h1; done))
            · exact PT.imp (pt_cmpR (op_eqNil ok.un) pv (pe_lst pa_nil) rfl) fun σ H Q z => tm_read z
            · exact PT.imp (pt_cmpR (op_neNil ok.un) pv (pe_lst pa_nil) rfl) fun σ H Q z => tm_read z
          · cases h
        | inO neg a' i =>
          dsimp only at h
          split at h
          · rename_i a0 op x q pos' e
            cases e
            simp only [Bool.and_eq_true, decide_eq_true_eq] at h
            obtain ⟨⟨⟨h1, ha⟩, hN0⟩, hv⟩ := h
            have hN : X.N[i]? = some x := by rw [ok.N]; exact hN0
            have hm := ok.nm x (List.mem_of_getElem? hN)
            have e2 : evE p.cs kl (.inO neg a' i) = inOR neg (evE p.cs kl a') i := by funext Γ g; simp only [evE, inOR] <;> rfl
            rw [e2]
            have pv : PE X (.Name x q) (tVar i) := pe_var hN (by rw [ok.sc]; exact vis_of hv) (okN1 hm) (okN2 hm)
            cases neg <;> cases op <;> (try (cases h1; done))
            · exact t_inO (neg := false) ok.un ok.w (ih.e ok ha) pv rfl
            · exact t_inO (neg := true) ok.un ok.w (ih.e ok ha) pv rfl
          · cases h
        | chn o o' a' b' d' =>
          dsimp only at h
          split at h
          · rename_i e
            cases e
            simp only [Bool.and_eq_true] at h
            rw [cm_of h.1.1.1.1.1, cm_of h.1.1.1.1.2]
            have e2 : evE p.cs kl (.chn o o' a' b' d') = chnR o o' (evE p.cs kl a') (evE p.cs kl b') (evE p.cs kl d') := by funext Γ g; first | rfl | (simp only [evE, chnR]; done) | (simp only [evE, chnR]; rfl)
            rw [e2]
            exact t_chn ok.un ok.w o o' (ih.e ok h.1.1.1.2) (ih.e ok h.1.1.2) (ih.e ok h.1.2) (by show behindInMarks _ _ = false; exact marks_of h.2 _)
          · cases h
        | _ => cases h
    | _ => exact absurd rfl hp
theorem snd_o {n : Nat} (ih : SE CX W pn p k kl n) {c : Cxt} {Ew : XK} {X : Cx} (ok : Ok CX W pn p k kl c Ew X) {e : Option Expr} {E : Option E} (h : chkO (n + 1) pn c e E = true) : PO X e (tOo X.K W Ew (evO p.cs kl E)) := by
  cases e with
  | none =>
    cases E with
    | none =>
      have e2 : evO p.cs kl none = fun _ g => .ok none g := by funext Γ g; first | rfl | (simp only [evO]; done) | (simp only [evO]; rfl)
      rw [e2]
      exact o_none
    | some _ => cases h
  | some e =>
    cases E with
    | none => cases h
    | some E =>
      simp only [chkO] at h
      have e2 : evO p.cs kl (some E) = fun Γ g => (evE p.cs kl E Γ g).bind fun x g => match x with | .int i => .ok (some i) g | _ => .st := by funext Γ g; first | rfl | (simp only [evO]; done) | (simp only [evO]; rfl)
      rw [e2]
      exact o_some (ih.e ok h)
theorem snd_a {n : Nat} (ih : SE CX W pn p k kl n) {c : Cxt} {Ew : XK} {X : Cx} (ok : Ok CX W pn p k kl c Ew X) {es : List Expr} {as : A} (h : chkA (n + 1) pn c es as = true) : PA X es (tAa X.K W Ew (evA p.cs kl as)) := by
  cases es with
  | nil =>
    cases as with
    | nil =>
      have e2 : evA p.cs kl .nil = fun _ g => .ok [] g := by funext Γ g; first | rfl | (simp only [evA]; done) | (simp only [evA]; rfl)
      rw [e2]
      exact a_nil
    | cons _ _ => cases h
    | star _ _ => cases h
  | cons e es =>
    cases as with
    | nil => cases h
    | star _ _ => cases h
    | cons e' as =>
      simp only [chkA, Bool.and_eq_true] at h
      have e2 : evA p.cs kl (.cons e' as) = fun Γ g => (evE p.cs kl e' Γ g).bind fun x g => (evA p.cs kl as Γ g).bind fun xs g => .ok (x :: xs) g := by funext Γ g; first | rfl | (simp only [evA]; done) | (simp only [evA]; rfl)
      rw [e2]
      exact a_cons (ih.e ok h.1.2) (ih.a ok h.2) (star_of h.1.1 _ _)
theorem snd_q {n : Nat} (ih : SE CX W pn p k kl n) {c : Cxt} {Ew : XK} {X : Cx} (ok : Ok CX W pn p k kl c Ew X) {es : List Expr} {as : A} (h : chkA (n + 1) pn c es as = true) : Pes X W Ew es (evA p.cs kl as) := by
  cases es with
  | nil =>
    cases as with
    | nil =>
      have e2 : evA p.cs kl .nil = fun _ g => .ok [] g := by funext Γ g; first | rfl | (simp only [evA]; done) | (simp only [evA]; rfl)
      rw [e2]
      exact .nil
    | cons _ _ => cases h
    | star _ _ => cases h
  | cons e es =>
    cases as with
    | nil => cases h
    | star _ _ => cases h
    | cons e' as =>
      simp only [chkA, Bool.and_eq_true] at h
      have e2 : evA p.cs kl (.cons e' as) = fun Γ g => (evE p.cs kl e' Γ g).bind fun x g => (evA p.cs kl as Γ g).bind fun xs g => .ok (x :: xs) g := by funext Γ g; first | rfl | (simp only [evA]; done) | (simp only [evA]; rfl)
      rw [e2]
      exact .cons h.1.1 (ih.e ok h.1.2) (ih.q ok h.2)
theorem snd_as {n : Nat} (ih : SE CX W pn p k kl n) {c : Cxt} {Ew : XK} {X : Cx} (ok : Ok CX W pn p k kl c Ew X) {es : List Expr} {as : A} (h : chkAS (n + 1) pn c es as = true) : PA X es (tAa X.K W Ew (evA p.cs kl as)) := by
  cases as with
  | nil =>
    cases es with
    | nil =>
      have e2 : evA p.cs kl .nil = fun _ g => .ok [] g := by funext Γ g; first | rfl | (simp only [evA]; done) | (simp only [evA]; rfl)
      rw [e2]
      exact a_nil
    | cons e es => simp only [chkAS] at h; cases h
  | cons e' as =>
    cases es with
    | nil => simp only [chkAS] at h; cases h
    | cons e es =>
      simp only [chkAS, Bool.and_eq_true] at h
      have e2 : evA p.cs kl (.cons e' as) = fun Γ g => (evE p.cs kl e' Γ g).bind fun x g => (evA p.cs kl as Γ g).bind fun xs g => .ok (x :: xs) g := by funext Γ g; first | rfl | (simp only [evA]; done) | (simp only [evA]; rfl)
      rw [e2]
      exact a_cons (ih.e ok h.1.2) (ih.as ok h.2) (star_of h.1.1 _ _)
  | star e' as =>
    have e2 : evA p.cs kl (.star e' as) = starR (evE p.cs kl e') (evA p.cs kl as) := by funext Γ g; simp only [evA, starR] <;> rfl
    rw [e2]
    cases es with
    | nil => simp only [chkAS] at h; cases h
    | cons e es =>
      cases e with
      | Starred e pos =>
        simp only [chkAS, Bool.and_eq_true] at h
        exact a_star (ih.e ok h.1) (ih.as ok h.2)
      | _ => simp only [chkAS] at h; cases h
theorem snd_i {n : Nat} (ih : SE CX W pn p k kl n) {c : Cxt} {Ew : XK} {X : Cx} (ok : Ok CX W pn p k kl c Ew X) {tg e : Expr} {E : I} (h : chkI (n + 1) pn c tg e E = true) : PI X tg e (tIi X.K W Ew (evI p.cs kl E)) := by
  have mr : X.mg "range" = none := ok.bn _ (by simp [bNames])
  have mz : X.mg "zip" = none := ok.bn _ (by simp [bNames])
  have me : X.mg "enumerate" = none := ok.bn _ (by simp [bNames])
  cases E with
  | seq e' =>
    simp only [chkI] at h
    have e2 : evI p.cs kl (.seq e') = fun Γ g => (evE p.cs kl e' Γ g).bind fun x g => lift (seqD x) g := by funext Γ g; first | rfl | (simp only [evI]; done) | (simp only [evI]; rfl)
    rw [e2]
    exact i_seq (ih.e ok h)
  | rng1 a' =>
    simp only [chkI] at h
    split at h
    · simp only [Bool.and_eq_true, decide_eq_true_eq] at h
      obtain ⟨⟨⟨rfl, hg⟩, ha⟩, hn⟩ := h
      have e2 : evI p.cs kl (.rng1 a') = fun Γ g => (evE p.cs kl a' Γ g).bind fun x g => match x with | .int i => if -1000000 ≤ i ∧ i ≤ 1000000 then .ok (rngD 0 i.toNat) g else .st | _ => .st := by funext Γ g; first | rfl | (simp only [evI]; done) | (simp only [evI]; rfl)
      rw [e2]
      exact i_rng1 (ok.gl hg) mr (ih.e ok ha) (star_of hn _ _)
    · cases h
  | rng2 a' b' =>
    simp only [chkI] at h
    split at h
    · simp only [Bool.and_eq_true, decide_eq_true_eq] at h
      obtain ⟨⟨⟨⟨⟨rfl, hg⟩, ha⟩, hb⟩, n1⟩, n2⟩ := h
      have e2 : evI p.cs kl (.rng2 a' b') = fun Γ g => (evE p.cs kl a' Γ g).bind fun x g => (evE p.cs kl b' Γ g).bind fun y g => match x, y with
        | .int i, .int j => if (-1000000 ≤ i ∧ i ≤ 1000000) ∧ -1000000 ≤ j ∧ j ≤ 1000000 then .ok (rngD i (j - i).toNat) g else .st
        | _, _ => .st := by funext Γ g; first | rfl | (simp only [evI]; done) | (simp only [evI]; rfl)
      rw [e2]
      exact i_rng2 (ok.gl hg) mr (ih.e ok ha) (ih.e ok hb) (star_of n1 _ _) (star_of n2 _ _)
    · cases h
  | zip a' b' =>
    simp only [chkI] at h
    split at h
    · simp only [Bool.and_eq_true, decide_eq_true_eq] at h
      obtain ⟨⟨⟨⟨⟨rfl, hg⟩, ha⟩, hb⟩, n1⟩, n2⟩ := h
      have e2 : evI p.cs kl (.zip a' b') = fun Γ g => (evE p.cs kl a' Γ g).bind fun x g => (evE p.cs kl b' Γ g).bind fun y g => match itemsD x, itemsD y with
        | some xs, some ys => .ok (zipD xs ys) g
        | _, _ => .st := by funext Γ g; first | rfl | (simp only [evI]; done) | (simp only [evI]; rfl)
      rw [e2]
      exact i_zip (ok.gl hg) mz (ih.e ok ha) (ih.e ok hb) (star_of n1 _ _) (star_of n2 _ _) (back_of _ _ (by simp only [nSts, Bool.and_eq_true]; exact ⟨n2, trivial⟩))
    · cases h
  | enum a' =>
    simp only [chkI] at h
    split at h
    · simp only [Bool.and_eq_true, decide_eq_true_eq] at h
      obtain ⟨⟨⟨rfl, hg⟩, ha⟩, hn⟩ := h
      have e2 : evI p.cs kl (.enum a') = fun Γ g => (evE p.cs kl a' Γ g).bind fun x g => match itemsD x with
        | some xs => .ok (enumD 0 xs) g
        | _ => .st := by funext Γ g; first | rfl | (simp only [evI]; done) | (simp only [evI]; rfl)
      rw [e2]
      exact i_enum (ok.gl hg) me (ih.e ok ha) (star_of hn _ _)
    · cases h
  | items a' =>
    simp only [chkI] at h
    split at h
    · simp only [Bool.and_eq_true, decide_eq_true_eq] at h
      obtain ⟨⟨⟨rfl, ha⟩, hn⟩, hl⟩ := h
      have e2 : evI p.cs kl (.items a') = fun Γ g => (evE p.cs kl a' Γ g).bind fun x g => match x with
        | .dct ks vs => if ks.length ≤ 1000000 then .ok (zipD ks vs) g else .st
        | _ => .st := by funext Γ g; first | rfl | (simp only [evI]; done) | (simp only [evI]; rfl)
      rw [e2]
      exact i_items (ih.e ok ha) (nSup_ok hn _ _ _) hl
    · cases h
theorem se_all : ∀ n, SE CX W pn p k kl n
  | 0 => ⟨fun _ _ _ h => (by unfold chkE at h; cases h), fun _ _ _ h => (by unfold chkE at h; cases h), fun _ _ _ _ _ h => (by unfold chkE at h; cases h), fun _ _ _ h => (by unfold chkO at h; cases h), fun _ _ _ h => (by unfold chkA at h; cases h), fun _ _ _ h => (by unfold chkA at h; cases h), fun _ _ _ h => (by unfold chkAS at h; cases h), fun _ _ _ _ h => (by unfold chkI at h; cases h)⟩
  | n + 1 => by
    have ih := se_all n
    exact ⟨fun ok _ _ h => snd_e ih ok h, fun ok _ _ h => snd_t ih ok h, fun ok _ _ _ _ h => snd_w ih ok h, fun ok _ _ h => snd_o ih ok h, fun ok _ _ h => snd_a ih ok h, fun ok _ _ h => snd_q ih ok h, fun ok _ _ h => snd_as ih ok h, fun ok _ _ _ h => snd_i ih ok h⟩
end
end Bk
set_option Elab.async false
set_option linter.all false
set_option maxRecDepth 100000
set_option maxHeartbeats 4000000
namespace Bk
open PySem L2
open Evl (Ex ex_l ex_t)
section
variable (K : PySem.W.Frag) (W : Wd) (Ew : XK) (Hk0 H0 : Hp)
def FinS (Hb : Hp) (Dn : Ends) (r : R Fl) : Prop := match r with
  | .ok (.nx Γ') g' => ∀ σ' Hk' H', Fr K W Hk0 H0 Γ' g' σ' Hk' H' → Ex Hb Hk' → Dn.nx σ' H'
  | .ok (.rt d) g' => ∀ v Hk' H', Step W Hk0 H0 Hk' H' → DrawAt W g' H' → Rp K W Hk' d v → Dn.rt v H'
  | .ex c ds g' => ∀ Hk' H' cls dx, Step W Hk0 H0 Hk' H' → DrawAt W g' H' → ExcAt W c ds cls dx Hk' H' → Ew cls dx H'
  | .st => False
def tSt (ev : Gm → G → R Fl) : TS := fun Dn σ H => ∃ Hb Γ g Hk, Fr K W Hk0 H0 Γ g σ Hk H ∧ Ex Hb Hk ∧ FinS K W Ew Hk0 H0 Hb Dn (ev Γ g)
end
section
variable {X : Cx} {W : Wd} {Ew : XK} {Hk0 H0 Hk H : Hp} {Γ : Gm} {g : G} {σ : L2.St} {K : PySem.W.Frag} {Dn : Ends} {Hb : Hp}
theorem PS.imp {s : Stmt} {t t' : TS} (h : PS X s t') (i : ∀ D σ H, t D σ H → t' D σ H) : PS X s t := ⟨fun pins s σ H D I q => h.run pins s σ H D I (i D σ H q)⟩
theorem PSs.imp {s : List Stmt} {t t' : TS} (h : PSs X s t') (i : ∀ D σ H, t D σ H → t' D σ H) : PSs X s t := ⟨fun pins s σ H D I q => h.run pins s σ H D I (i D σ H q)⟩
theorem FinS.bind {α : Type} {r : R α} {k : α → G → R Fl} (fr : Fr K W Hk0 H0 Γ g σ Hk H) (h : FinS K W Ew Hk0 H0 Hb Dn (r.bind k)) : Fin W Ew Hk H r fun a g' _ _ => FinS K W Ew Hk0 H0 Hb Dn (k a g') := by
  cases r with
  | ok a g' => exact fun _ _ _ _ => h
  | ex c ds g' => exact fun Hk' H' cls dx s dr x => h Hk' H' cls dx (fr.en.trans s) dr x
  | st => exact h
theorem seqSE {f : Gm → G → R D} {k : D → G → R Fl} {Q : VK} (fr : Fr K W Hk0 H0 Γ g σ Hk H) (h : FinS K W Ew Hk0 H0 Hb Dn ((f Γ g).bind k))
    (hq : ∀ v d g' Hk' H', Fr K W Hk0 H0 Γ g' σ Hk' H' → Step W Hk H Hk' H' → Rp K W Hk' d v → FinS K W Ew Hk0 H0 Hb Dn (k d g') → Q v H') : tE K W Ew f σ H Q :=
  ⟨Hk0, H0, Γ, g, Hk, fr, (FinS.bind fr h).mono fun d g' Hk' H' s dr kq v r => hq v d g' Hk' H' (fr.step s dr) s r kq⟩
theorem seqST {f : Gm → G → R Bool} {k : Bool → G → R Fl} {Q : Bool → Hp → Prop} (fr : Fr K W Hk0 H0 Γ g σ Hk H) (h : FinS K W Ew Hk0 H0 Hb Dn ((f Γ g).bind k))
    (hq : ∀ b g' Hk' H', Fr K W Hk0 H0 Γ g' σ Hk' H' → Step W Hk H Hk' H' → FinS K W Ew Hk0 H0 Hb Dn (k b g') → Q b H') : tTt K W Ew f σ H Q :=
  ⟨Hk0, H0, Γ, g, Hk, fr, (FinS.bind fr h).mono fun d g' Hk' H' s dr kq => hq d g' Hk' H' (fr.step s dr) s kq⟩
theorem seqSI {f : Gm → G → R (List D)} {k : List D → G → R Fl} {Q : It → Hp → Prop} (fr : Fr K W Hk0 H0 Γ g σ Hk H) (h : FinS K W Ew Hk0 H0 Hb Dn ((f Γ g).bind k))
    (hq : ∀ J ds g' Hk' H', Fr K W Hk0 H0 Γ g' σ Hk' H' → Step W Hk H Hk' H' → ItOk K W J ds Hk' → FinS K W Ew Hk0 H0 Hb Dn (k ds g') → Q J H') : tIi K W Ew f σ H Q :=
  ⟨Hk0, H0, Γ, g, Hk, fr, (FinS.bind fr h).mono fun d g' Hk' H' s dr kq v r => hq v d g' Hk' H' (fr.step s dr) s r kq⟩
/-- a new list, then the rest -/
theorem seqSF {f : Gm → G → R D} {k : D → G → R Fl} {Q : VK} (fr : Fr K W Hk0 H0 Γ g σ Hk H) (h : FinS K W Ew Hk0 H0 Hb Dn ((f Γ g).bind k))
    (hq : ∀ p u d g' Hk' H', Fr K W Hk0 H0 Γ g' σ Hk' H' → Step W Hk H Hk' H' → H p = none → Hk' p = none → H' p = some u → Ob K W Hk' d p u → FinS K W Ew Hk0 H0 Hb Dn (k d g') → Q (.ref p) H') : tFf K W Ew f σ H Q :=
  ⟨Hk0, H0, Γ, g, Hk, fr, (FinS.bind fr h).mono fun d g' Hk' H' s dr kq p u h1 h2 h3 h4 => hq p u d g' Hk' H' (fr.step s dr) s h1 h2 h3 h4 kq⟩
theorem Fr.hn (fr : Fr K W Hk0 H0 Γ g σ Hk H) {p : Addr} (hp : H p = none) : ∀ (j : Nat) (q : D), Γ[j]? = some (Slot.own q) → σ[j]? ≠ some (some (V.ref p)) := by
  intro j q e1 e2
  obtain ⟨os, sl, _⟩ := fr.sl
  obtain ⟨p', xs, h2, _, h4, _⟩ := sl.obj_at e1
  rw [e2] at h2
  cases h2
  rw [hp] at h4
  cases h4
theorem Fr.outp (fr : Fr K W Hk0 H0 Γ g σ Hk H) {p : Addr} (hp : H p = none) : W.out p := ex_upd_out fr.wk.dr hp
theorem Fr.h0 (fr : Fr K W Hk0 H0 Γ g σ Hk H) {p : Addr} (hp : H p = none) : H0 p = none := none_back fr.en hp
/-- blocks -/
def seqR (f h : Gm → G → R Fl) : Gm → G → R Fl := fun Γ g => (f Γ g).bind fun fl g => match fl with
  | .nx Γ' => h Γ' g
  | .rt d => .ok (.rt d) g
theorem s_cons {st : Stmt} {rest : List Stmt} {f h : Gm → G → R Fl} (h1 : PS X st (tSt X.K W Ew Hk0 H0 f)) (h2 : PSs X rest (tSt X.K W Ew Hk0 H0 h)) : PSs X (st :: rest) (tSt X.K W Ew Hk0 H0 (seqR f h)) :=
  PSs.imp (pss_cons h1 h2) fun Dn σ H ⟨Hb, Γ, g, Hk, fr, eb, q⟩ => ⟨Hb, Γ, g, Hk, fr, eb, by
    unfold seqR at q
    cases e : f Γ g with
    | ok fl g' =>
      rw [e] at q
      cases fl with
      | nx Γ' => exact fun σ' Hk' H' fr' eb' => ⟨Hb, Γ', g', Hk', fr', eb', q⟩
      | rt d => exact q
    | ex c ds g' => rw [e] at q; exact q
    | st => rw [e] at q; exact q⟩
theorem s_nil : PSs X [] (tSt X.K W Ew Hk0 H0 fun Γ g => .ok (.nx Γ) g) := PSs.imp pss_nil fun Dn σ H ⟨Hb, Γ, g, Hk, fr, eb, q⟩ => q σ Hk H fr eb
theorem s_stop {st : Stmt} : PS X st (tSt X.K W Ew Hk0 H0 fun _ _ => .st) := PS.imp ps_never fun Dn σ H ⟨Hb, Γ, g, Hk, fr, eb, q⟩ => q.elim
/-- raise C(e, ..) -/
theorem s_rais {CX : CXT} {pn : PrN} {p : Pr} {k : Nat} {kl : Calls} {cc : Cxt} (o : Ok CX W pn p k kl cc Ew X) {c : Nat} {x : Str} {ns : List Str} (hx : pn.xs.lookup c = some (x, ns)) (hg : glB cc.sc x = true) {e : Expr} {es : List Expr} {q q' pos : Pos} {fs : Gm → G → R (List D)} (ha : PA X (e :: es) (tAa X.K W Ew fs)) (hn : nSts (e :: es) = true)
    (hlen : ∀ Γ g ds g', fs Γ g = .ok ds g' → ds.length = ns.length) : PS X (.Raise (some (.Call (.Name x q) (e :: es) [] q')) none pos) (tSt X.K W Ew Hk0 H0 fun Γ g => (fs Γ g).bind fun ds g => .ex c ds g) := by
  obtain ⟨C, h1, h2, h3, h4⟩ := o.xs c x ns hx
  simp only [nSts, Bool.and_eq_true] at hn
  refine PS.imp (ps_raise o.calm o.tk (pmk_x h4 (o.room.mono (by unfold ix; omega)) (o.gl hg) h3 ha (okN1 h2) (star_of hn.1 _ _) (back_of _ _ hn.2))) fun Dn σ H ⟨Hb, Γ, g, Hk, fr, eb, qq⟩ => ?_
  refine ⟨Hk0, H0, Γ, g, Hk, fr, (FinS.bind fr qq).monoE fun ds g' Hk' H' ee s dr kq vs r => ?_⟩
  have hl := hlen Γ g ds g' ee
  have hvl : vs.length = ns.length := by rw [r.len, hl]
  refine ⟨hvl, fun d hd => ?_⟩
  have fr1 := fr.step s dr
  have sn : Step W Hk' H' (upd Hk' d (.xd (ns.zip vs).reverse)) (upd H' d (.xd (ns.zip vs).reverse)) := Step.new fr1.wk.ex hd
  refine kq (upd Hk' d (.xd (ns.zip vs).reverse)) (upd H' d (.xd (ns.zip vs).reverse)) (.ref C) (some d) (fr1.en.trans sn) (dr.new hd) ⟨C, ns, d, _, h1, rfl, rfl, upd_same, ?_, upd_same⟩
  rw [o.kk]
  refine flds_zip hvl (r.mono sn.k) fun z hz => ?_
  refine lookup_nd ?_ (by simpa using hz)
  rw [List.map_reverse]
  refine (List.reverse_perm _).nodup_iff.mpr ?_
  rw [map_zip hvl]
  exact h4.nd
theorem s_pass {pos : Pos} : PS X (.Pass pos) (tSt X.K W Ew Hk0 H0 fun Γ g => .ok (.nx Γ) g) := PS.imp ps_pass fun Dn σ H ⟨Hb, Γ, g, Hk, fr, eb, q⟩ => q σ Hk H fr eb
variable {e : Expr} {fe : Gm → G → R D} {pos : Pos}
theorem s_expr (he : PE X e (tE X.K W Ew fe)) (hs : swapsWith e none pos.line X.env = pure false) : PS X (.Expr e pos) (tSt X.K W Ew Hk0 H0 fun Γ g => (fe Γ g).bind fun _ g => .ok (.nx Γ) g) :=
  PS.imp (ps_expr he hs) fun Dn σ H ⟨Hb, Γ, g, Hk, fr, eb, q⟩ => seqSE fr q fun v d g' Hk' H' fr' s r h => h σ Hk' H' fr' (eb.trans s.k)
theorem s_ret (he : PE X e (tE X.K W Ew fe)) : PS X (.Return (some e) pos) (tSt X.K W Ew Hk0 H0 fun Γ g => (fe Γ g).bind fun x g => .ok (.rt x) g) :=
  PS.imp (ps_ret he) fun Dn σ H ⟨Hb, Γ, g, Hk, fr, eb, q⟩ => seqSE fr q fun v d g' Hk' H' fr' s r h => h v Hk' H' fr'.en fr'.wk.dr r
theorem s_retN : PS X (.Return none pos) (tSt X.K W Ew Hk0 H0 fun Γ g => R.bind (R.ok D.non g) fun x g => .ok (.rt x) g) :=
  PS.imp ps_retN fun Dn σ H ⟨Hb, Γ, g, Hk, fr, eb, q⟩ => q .non Hk H fr.en fr.wk.dr rfl
theorem s_asg {tg : Expr} {t : T} (he : PE X e (tE X.K W Ew fe)) (hg : PG X tg (tGg X.K W t)) (hs : swapsWithSole [tg] e pos.line X.env = pure false) (hw : swappedStores [tg] e X.env = pure none) (h1 : (assignEach [tg] X.env).map (·.2) = [assign tg X.env]) :
    PS X (.Assign [tg] e pos) (tSt X.K W Ew Hk0 H0 fun Γ g => (fe Γ g).bind fun x g => (lift (setT t x Γ) g).bind fun Γ' g => .ok (.nx Γ') g) :=
  PS.imp (ps_asg he hg hs hw h1) fun Dn σ H ⟨Hb, Γ, g, Hk, fr, eb, q⟩ => seqSE fr q fun v d g' Hk' H' fr' s r h => by
    cases e1 : setT t d Γ with
    | none => rw [e1] at h; exact h.elim
    | some Γ' =>
      rw [e1] at h
      exact ⟨Hk0, H0, Γ, g', Hk', d, Γ', fr', r, e1, fun σ' fr2 _ => h σ' Hk' H' fr2 (eb.trans s.k)⟩
/-- a name's value by the comprehension's own road -/
theorem s_asgL {i : Nat} {st : Stmt} {te : TE} (h : PS X st (tAsg te (gName i))) (ht : ∀ σ H Q, tE X.K W Ew fe σ H Q → te σ H Q) :
    PS X st (tSt X.K W Ew Hk0 H0 fun Γ g => (fe Γ g).bind fun x g => (lift (setT (.var i) x Γ) g).bind fun Γ' g => .ok (.nx Γ') g) :=
  PS.imp h fun Dn σ H ⟨Hb, Γ, g, Hk, fr, eb, q⟩ => ht _ _ _ (seqSE fr q fun v d g' Hk' H' fr' s r h => by
    simp only [setT] at h
    split at h
    · exact h _ Hk' H' (fr'.set r) (eb.trans s.k)
    · exact h.elim)
def ownR (i : Nat) (fe : Gm → G → R D) : Gm → G → R Fl := fun Γ g => (fe Γ g).bind fun x g => match x with
      | .lst xs => if i < Γ.length then .ok (.nx (Γ.set i (.own (.lst xs)))) g else .st
      | .dct ks vs => if i < Γ.length then .ok (.nx (Γ.set i (.own (.dct ks vs)))) g else .st
      | _ => .st
theorem s_own {i : Nat} {st : Stmt} {te : TE} (h : PS X st (tAsg te (gName i))) (ht : ∀ σ H Q, tFf X.K W Ew fe σ H Q → te σ H Q) : PS X st (tSt X.K W Ew Hk0 H0 (ownR i fe)) :=
  PS.imp h fun Dn σ H ⟨Hb, Γ, g, Hk, fr, eb, q⟩ => ht _ _ _ (seqSF fr q fun p u d g' Hk' H' fr' s h1 h2 h3 h4 h => by
    have hd := h4.is
    have h' : FinS X.K W Ew Hk0 H0 Hb Dn (if i < Γ.length then R.ok (Fl.nx (Γ.set i (.own d))) g' else R.st) := by
      cases d <;> first | exact h | cases hd
    by_cases hi : i < Γ.length
    · rw [if_pos hi] at h'
      exact h' _ Hk' H' (fr'.setOwn hi h3 h2 (fr.h0 h1) (fr.outp h1) h4 (fr.hn h1)) (eb.trans s.k)
    · rw [if_neg hi] at h'; exact h'.elim)
def okT (K : PySem.W.Frag) (W : Wd) (Hk0 H0 : Hp) (o : Bool) (d : D) (v : V) (Hb Hk H : Hp) : Prop := match o with
  | false => Rp K W Hk d v
  | true => ∃ p u, v = .ref p ∧ Hb p = none ∧ Hk p = none ∧ H p = some u ∧ Ob K W Hk d p u
/-- a part, new or not -/
def tP (K : PySem.W.Frag) (W : Wd) (Ew : XK) (o : Bool) (f : Gm → G → R D) : TE := match o with
  | false => tE K W Ew f
  | true => tFf K W Ew f
theorem seqSP {o : Bool} {f : Gm → G → R D} {k : D → G → R Fl} {Q : VK} (hl : o = true → ∀ Γ g d g', f Γ g = .ok d g' → isOb d = true) (fr : Fr K W Hk0 H0 Γ g σ Hk H) (h : FinS K W Ew Hk0 H0 Hb Dn ((f Γ g).bind k))
    (hq : ∀ v d g' Hk' H', Fr K W Hk0 H0 Γ g' σ Hk' H' → Step W Hk H Hk' H' → okT K W Hk0 H0 o d v H Hk' H' → FinS K W Ew Hk0 H0 Hb Dn (k d g') → Q v H') : tP K W Ew o f σ H Q := by
  cases o with
  | false => exact seqSE fr h fun v d g' Hk' H' fr' s r q => hq v d g' Hk' H' fr' s r q
  | true => exact seqSF fr h fun p u d g' Hk' H' fr' s h1 h2 h3 h4 q => hq (.ref p) d g' Hk' H' fr' s ⟨p, u, rfl, h1, h2, h3, h4⟩ q
theorem okT.step {o : Bool} {d : D} {v : V} {Hb Hk' H' : Hp} (w : ∀ p, Hb p = none → W.out p) (h : okT K W Hk0 H0 o d v Hb Hk H) (s : Step W Hk H Hk' H') : okT K W Hk0 H0 o d v Hb Hk' H' := by
  cases o with
  | false => exact Rp.mono s.k h
  | true =>
    obtain ⟨p, u, e2, h1, h2, h3, h4⟩ := h
    exact ⟨p, u, e2, h1, s.unk h2 h3, s.h _ _ h3 (w p h1), h4.mono s.k⟩
def parS (o : Bool) (d : D) : Slot := if o && isOb d then .own d else .val d
/-- one is stored -/
theorem Fr.par (fr : Fr K W Hk0 H0 Γ g σ Hk H) {i : Nat} {o : Bool} {d : D} {v : V} {Hb : Hp} (hi : i < Γ.length) (w : ∀ p, Hb p = none → W.out p ∧ H0 p = none) (h : okT K W Hk0 H0 o d v Hb Hk H)
    (hn : ∀ p, v = .ref p → Hb p = none → ∀ (j : Nat) (q : D), Γ[j]? = some (Slot.own q) → σ[j]? ≠ some (some (V.ref p))) : Fr K W Hk0 H0 (Γ.set i (parS o d)) g (σ.set i (some v)) Hk H := by
  cases o with
  | false => exact fr.set h
  | true =>
    obtain ⟨p, u, rfl, h1, h2, h3, h4⟩ := h
    have e : parS true d = .own d := by simp [parS, h4.is]
    rw [e]
    exact fr.setOwn hi h3 h2 (w p h1).2 (w p h1).1 h4 (hn p rfl h1)
theorem set_own_at {i j : Nat} {o : Bool} {d : D} {v : V} {p : Addr} {q : D} (hp : v ≠ .ref p ∨ o = false) (e : (Γ.set i (parS o d))[j]? = some (Slot.own q)) (h : Γ[j]? = some (Slot.own q) → σ[j]? ≠ some (some (V.ref p))) : (σ.set i (some v))[j]? ≠ some (some (V.ref p)) := by
  by_cases hij : i = j
  · subst hij
    intro z
    have hv : v = .ref p := by
      rw [List.getElem?_set] at z
      simp only [if_true] at z
      split at z
      · injection z with z; injection z
      · cases z
    rcases hp with hp | hp
    · exact hp hv
    · subst hp
      rw [List.getElem?_set] at e
      simp only [if_true] at e
      split at e
      · simp [parS] at e
      · cases e
  · rw [List.getElem?_set_ne hij] at e ⊢
    exact h e
def parR2 (i : Nat) (o1 : Bool) (j : Nat) (o2 : Bool) (fa fb : Gm → G → R D) : Gm → G → R Fl := fun Γ g => (fa Γ g).bind fun x g => (fb Γ g).bind fun y g =>
  if i < Γ.length ∧ j < Γ.length then .ok (.nx ((Γ.set i (parS o1 x)).set j (parS o2 y))) g else .st
theorem okT_ne {o : Bool} {d : D} {v : V} {Hb : Hp} {p : Addr} (h : okT K W Hk0 H0 o d v Hb Hk H) (hp : H p = none) : v ≠ .ref p ∨ o = false := by
  cases o with
  | false => exact .inr rfl
  | true =>
    obtain ⟨q, u, rfl, _, _, h3, _⟩ := h
    refine .inl fun e => ?_
    cases e
    rw [hp] at h3; cases h3
theorem s_par2 {i j : Nat} {o1 o2 : Bool} {fa fb : Gm → G → R D} {st : Stmt} (l1 : o1 = true → ∀ Γ g d g', fa Γ g = .ok d g' → isOb d = true) (l2 : o2 = true → ∀ Γ g d g', fb Γ g = .ok d g' → isOb d = true)
    (h : PS X st (tPar i j (tCons (tP X.K W Ew o1 fa) (tCons (tP X.K W Ew o2 fb) tNil)))) : PS X st (tSt X.K W Ew Hk0 H0 (parR2 i o1 j o2 fa fb)) :=
  PS.imp h fun Dn σ H ⟨Hb, Γ, g, Hk, fr, eb, q⟩ => seqSP l1 fr q fun v d g1 Hk1 H1 fr1 s1 r1 q1 => seqSP l2 fr1 q1 fun v2 d2 g2 Hk2 H2 fr2 s2 r2 q2 => by
    refine ⟨v, v2, rfl, ?_⟩
    have w1 : ∀ p, H p = none → W.out p ∧ H0 p = none := fun p hp => ⟨fr.outp hp, fr.h0 hp⟩
    have w2 : ∀ p, H1 p = none → W.out p ∧ H0 p = none := fun p hp => ⟨fr1.outp hp, fr1.h0 hp⟩
    by_cases hi : i < Γ.length ∧ j < Γ.length
    · have q2' : FinS X.K W Ew Hk0 H0 Hb Dn (if i < Γ.length ∧ j < Γ.length then R.ok (Fl.nx ((Γ.set i (parS o1 d)).set j (parS o2 d2))) g2 else R.st) := q2
      rw [if_pos hi] at q2'
      have ra := r1.step (fun p hp => (w1 p hp).1) s2
      have f1 := fr2.par hi.1 w1 ra fun p _ hp => fr.hn hp
      exact q2' _ Hk2 H2 (f1.par (by simpa using hi.2) w2 r2 fun p _ hp j' q' e => set_own_at (okT_ne r1 hp) e (fr1.hn hp j' q')) ((eb.trans s1.k).trans s2.k)
    · have q2' : FinS X.K W Ew Hk0 H0 Hb Dn (if i < Γ.length ∧ j < Γ.length then R.ok (Fl.nx ((Γ.set i (parS o1 d)).set j (parS o2 d2))) g2 else R.st) := q2
      rw [if_neg hi] at q2'
      exact q2'.elim
def parR3 (i : Nat) (o1 : Bool) (j : Nat) (o2 : Bool) (l : Nat) (o3 : Bool) (fa fb fc : Gm → G → R D) : Gm → G → R Fl := fun Γ g => (fa Γ g).bind fun x g => (fb Γ g).bind fun y g => (fc Γ g).bind fun z g =>
  if i < Γ.length ∧ j < Γ.length ∧ l < Γ.length then .ok (.nx (((Γ.set i (parS o1 x)).set j (parS o2 y)).set l (parS o3 z))) g else .st
theorem s_par3 {i j l : Nat} {o1 o2 o3 : Bool} {fa fb fc : Gm → G → R D} {st : Stmt} (l1 : o1 = true → ∀ Γ g d g', fa Γ g = .ok d g' → isOb d = true) (l2 : o2 = true → ∀ Γ g d g', fb Γ g = .ok d g' → isOb d = true) (l3 : o3 = true → ∀ Γ g d g', fc Γ g = .ok d g' → isOb d = true)
    (h : PS X st (tPar3 i j l (tCons (tP X.K W Ew o1 fa) (tCons (tP X.K W Ew o2 fb) (tCons (tP X.K W Ew o3 fc) tNil))))) : PS X st (tSt X.K W Ew Hk0 H0 (parR3 i o1 j o2 l o3 fa fb fc)) :=
  PS.imp h fun Dn σ H ⟨Hb, Γ, g, Hk, fr, eb, q⟩ => seqSP l1 fr q fun v d g1 Hk1 H1 fr1 s1 r1 q1 => seqSP l2 fr1 q1 fun v2 d2 g2 Hk2 H2 fr2 s2 r2 q2 => seqSP l3 fr2 q2 fun v3 d3 g3 Hk3 H3 fr3 s3 r3 q3 => by
    refine ⟨v, v2, v3, rfl, ?_⟩
    have w1 : ∀ p, H p = none → W.out p ∧ H0 p = none := fun p hp => ⟨fr.outp hp, fr.h0 hp⟩
    have w2 : ∀ p, H1 p = none → W.out p ∧ H0 p = none := fun p hp => ⟨fr1.outp hp, fr1.h0 hp⟩
    have w3 : ∀ p, H2 p = none → W.out p ∧ H0 p = none := fun p hp => ⟨fr2.outp hp, fr2.h0 hp⟩
    have q3' : FinS X.K W Ew Hk0 H0 Hb Dn (if i < Γ.length ∧ j < Γ.length ∧ l < Γ.length then R.ok (Fl.nx (((Γ.set i (parS o1 d)).set j (parS o2 d2)).set l (parS o3 d3))) g3 else R.st) := q3
    by_cases hi : i < Γ.length ∧ j < Γ.length ∧ l < Γ.length
    · rw [if_pos hi] at q3'
      have ra2 := r1.step (fun p hp => (w1 p hp).1) s2
      have ra := ra2.step (fun p hp => (w1 p hp).1) s3
      have rb := r2.step (fun p hp => (w2 p hp).1) s3
      have f1 := fr3.par hi.1 w1 ra fun p _ hp => fr.hn hp
      have f2 := f1.par (by simpa using hi.2.1) w2 rb fun p _ hp j' q' e => set_own_at (okT_ne r1 hp) e (fr1.hn hp j' q')
      exact q3' _ Hk3 H3 (f2.par (by simpa using hi.2.2) w3 r3 fun p _ hp j' q' e => set_own_at (okT_ne r2 hp) e fun e' => set_own_at (okT_ne ra2 hp) e' (fr2.hn hp j' q')) (((eb.trans s1.k).trans s2.k).trans s3.k)
    · rw [if_neg hi] at q3'
      exact q3'.elim
/-- the same by a tuple that is built, then taken apart -/
theorem s_parT2 {i j : Nat} {o1 o2 : Bool} {fa fb : Gm → G → R D} {st : Stmt} (l1 : o1 = true → ∀ Γ g d g', fa Γ g = .ok d g' → isOb d = true) (l2 : o2 = true → ∀ Γ g d g', fb Γ g = .ok d g' → isOb d = true)
    (h : PS X st (tAsg (tTup (tCons (tP X.K W Ew o1 fa) (tCons (tP X.K W Ew o2 fb) tNil))) (gTup X.K 2 (gCons (gName i) (gCons (gName j) gNil))))) : PS X st (tSt X.K W Ew Hk0 H0 (parR2 i o1 j o2 fa fb)) :=
  PS.imp h fun Dn σ H ⟨Hb, Γ, g, Hk, fr, eb, q⟩ => seqSP l1 fr q fun v d g1 Hk1 H1 fr1 s1 r1 q1 => seqSP l2 fr1 q1 fun v2 d2 g2 Hk2 H2 fr2 s2 r2 q2 => by
    refine ⟨by rw [sizeLine_eq]; simp, fun p hp => ⟨p, [v, v2], rfl, SqT.of upd_same, rfl, v, [v2], rfl, v2, [], rfl, rfl, ?_⟩⟩
    have w1 : ∀ p, H p = none → W.out p ∧ H0 p = none := fun p hp => ⟨fr.outp hp, fr.h0 hp⟩
    have w2 : ∀ p, H1 p = none → W.out p ∧ H0 p = none := fun p hp => ⟨fr1.outp hp, fr1.h0 hp⟩
    have q2' : FinS X.K W Ew Hk0 H0 Hb Dn (if i < Γ.length ∧ j < Γ.length then R.ok (Fl.nx ((Γ.set i (parS o1 d)).set j (parS o2 d2))) g2 else R.st) := q2
    have s4 : Step W Hk2 H2 Hk2 (upd H2 p (.tup [v, v2])) := Step.hid fr2.wk.ex hp
    have fr4 := fr2.step s4 (fr2.wk.dr.new hp)
    by_cases hi : i < Γ.length ∧ j < Γ.length
    · rw [if_pos hi] at q2'
      have ra := (r1.step (fun p hp => (w1 p hp).1) s2).step (fun p hp => (w1 p hp).1) s4
      have rb := r2.step (fun p hp => (w2 p hp).1) s4
      have f1 := fr4.par hi.1 w1 ra fun p _ hp => fr.hn hp
      exact q2' _ Hk2 _ (f1.par (by simpa using hi.2) w2 rb fun p _ hp j' q' e => set_own_at (okT_ne r1 hp) e (fr1.hn hp j' q')) (((eb.trans s1.k).trans s2.k).trans s4.k)
    · rw [if_neg hi] at q2'
      exact q2'.elim
theorem s_parT3 {i j l : Nat} {o1 o2 o3 : Bool} {fa fb fc : Gm → G → R D} {st : Stmt} (l1 : o1 = true → ∀ Γ g d g', fa Γ g = .ok d g' → isOb d = true) (l2 : o2 = true → ∀ Γ g d g', fb Γ g = .ok d g' → isOb d = true) (l3 : o3 = true → ∀ Γ g d g', fc Γ g = .ok d g' → isOb d = true)
    (h : PS X st (tAsg (tTup (tCons (tP X.K W Ew o1 fa) (tCons (tP X.K W Ew o2 fb) (tCons (tP X.K W Ew o3 fc) tNil)))) (gTup X.K 3 (gCons (gName i) (gCons (gName j) (gCons (gName l) gNil)))))) : PS X st (tSt X.K W Ew Hk0 H0 (parR3 i o1 j o2 l o3 fa fb fc)) :=
  PS.imp h fun Dn σ H ⟨Hb, Γ, g, Hk, fr, eb, q⟩ => seqSP l1 fr q fun v d g1 Hk1 H1 fr1 s1 r1 q1 => seqSP l2 fr1 q1 fun v2 d2 g2 Hk2 H2 fr2 s2 r2 q2 => seqSP l3 fr2 q2 fun v3 d3 g3 Hk3 H3 fr3 s3 r3 q3 => by
    refine ⟨by rw [sizeLine_eq]; simp, fun p hp => ⟨p, [v, v2, v3], rfl, SqT.of upd_same, rfl, v, [v2, v3], rfl, v2, [v3], rfl, v3, [], rfl, rfl, ?_⟩⟩
    have w1 : ∀ p, H p = none → W.out p ∧ H0 p = none := fun p hp => ⟨fr.outp hp, fr.h0 hp⟩
    have w2 : ∀ p, H1 p = none → W.out p ∧ H0 p = none := fun p hp => ⟨fr1.outp hp, fr1.h0 hp⟩
    have w3 : ∀ p, H2 p = none → W.out p ∧ H0 p = none := fun p hp => ⟨fr2.outp hp, fr2.h0 hp⟩
    have q3' : FinS X.K W Ew Hk0 H0 Hb Dn (if i < Γ.length ∧ j < Γ.length ∧ l < Γ.length then R.ok (Fl.nx (((Γ.set i (parS o1 d)).set j (parS o2 d2)).set l (parS o3 d3))) g3 else R.st) := q3
    have s4 : Step W Hk3 H3 Hk3 (upd H3 p (.tup [v, v2, v3])) := Step.hid fr3.wk.ex hp
    have fr4 := fr3.step s4 (fr3.wk.dr.new hp)
    by_cases hi : i < Γ.length ∧ j < Γ.length ∧ l < Γ.length
    · rw [if_pos hi] at q3'
      have ra2 := r1.step (fun p hp => (w1 p hp).1) s2
      have ra := (ra2.step (fun p hp => (w1 p hp).1) s3).step (fun p hp => (w1 p hp).1) s4
      have rb := (r2.step (fun p hp => (w2 p hp).1) s3).step (fun p hp => (w2 p hp).1) s4
      have rc := r3.step (fun p hp => (w3 p hp).1) s4
      have f1 := fr4.par hi.1 w1 ra fun p _ hp => fr.hn hp
      have f2 := f1.par (by simpa using hi.2.1) w2 rb fun p _ hp j' q' e => set_own_at (okT_ne r1 hp) e (fr1.hn hp j' q')
      exact q3' _ Hk3 _ (f2.par (by simpa using hi.2.2) w3 rc fun p _ hp j' q' e => set_own_at (okT_ne r2 hp) e fun e' => set_own_at (okT_ne ra2 hp) e' (fr2.hn hp j' q')) ((((eb.trans s1.k).trans s2.k).trans s3.k).trans s4.k)
    · rw [if_neg hi] at q3'
      exact q3'.elim
def augR (i : Nat) (fe : Gm → G → R D) : Gm → G → R Fl := fun Γ g => match Γ[i]? with
      | some (.val x) => (fe Γ g).bind fun y g => (match x, y with
        | .int a, .int b => .ok (.nx (Γ.set i (.val (.int (a + b))))) g
        | _, _ => .st)
      | _ => .st
theorem s_aug {i : Nat} {st : Stmt} (h : PS X st (tAug i (tE X.K W Ew fe) (ipI fun i j => i + j))) : PS X st (tSt X.K W Ew Hk0 H0 (augR i fe)) :=
  PS.imp h fun Dn σ H ⟨Hb, Γ, g, Hk, fr, eb, q⟩ => by
    unfold augR at q
    cases e1 : Γ[i]? with
    | none => rw [e1] at q; exact q.elim
    | some s =>
      rw [e1] at q
      cases s with
      | no => exact q.elim
      | own _ => exact q.elim
      | val x =>
        obtain ⟨os, sl, _⟩ := fr.sl
        obtain ⟨v, ev, rv⟩ := sl.val_at e1
        refine ⟨v, ev, seqSE fr q fun v2 d g' Hk' H' fr' s r h => ?_⟩
        cases x <;> (try exact h.elim)
        cases d <;> (try exact h.elim)
        rename_i a b
        exact ⟨a, b, rv, r, h _ Hk' H' (fr'.set rfl) (eb.trans s.k)⟩
def appR (i : Nat) (fe : Gm → G → R D) : Gm → G → R Fl := fun Γ g => match Γ[i]? with
      | some (.own (.lst xs)) => (fe Γ g).bind fun y g => if xs.length < 1000000 then .ok (.nx (Γ.set i (.own (.lst (xs ++ [y]))))) g else .st
      | _ => .st
theorem Fr.chgO (fr : Fr K W Hk0 H0 Γ g σ Hk H) {i : Nat} {d : D} {p : Addr} {es : D} {ys : HO} (e1 : Γ[i]? = some (.own d)) (e2 : σ[i]? = some (some (.ref p))) (r : Ob K W Hk es p ys) : Fr K W Hk0 H0 (Γ.set i (.own es)) g σ Hk (upd H p ys) := by
  obtain ⟨os, sl, nd, ho⟩ := fr.sl
  obtain ⟨p', xs, h2, hm, h4, h5⟩ := sl.obj_at e1
  rw [e2] at h2
  cases h2
  obtain ⟨k1, k2, k3⟩ := ho p hm
  refine ⟨⟨fun b u hb => ?_, fr.wk.m, fr.wk.c, fr.wk.gr, fr.wk.tk, fr.wk.dr.upd k3 (h5.nc h4) r.ntb, fr.wk.hc, fun b o hb ho => by rw [upd_ne (fun z => by subst z; have := fr.hb0 _ _ hb ho; rw [k2] at this; cases this)]; exact fr.wk.hh b o hb ho⟩, fr.en.mut k2 k1, ⟨os, sl.chg nd e1 e2 r, nd, ho⟩, fr.hb0⟩
  rw [upd_ne (ne_of_none hb k1)]
  exact fr.wk.ex b u hb
theorem Fr.chg (fr : Fr K W Hk0 H0 Γ g σ Hk H) {i : Nat} {d : D} {p : Addr} {es : List D} {ys : List V} (e1 : Γ[i]? = some (.own d)) (e2 : σ[i]? = some (some (.ref p))) (r : RpL K W Hk es ys) : Fr K W Hk0 H0 (Γ.set i (.own (.lst es))) g σ Hk (upd H p (.lst ys)) :=
  fr.chgO e1 e2 ⟨ys, rfl, r⟩
theorem s_app {i : Nat} {x : Str} {p apos cpos : Pos} (hv : PE X (.Name x p) (tVar i)) (he : PE X e (tE X.K W Ew fe)) (hn : nSt e = true) (hl : (apos.endLine == cpos.line) = true) (hs : swapsWith (.Call (.Attribute (.Name x p) "append" apos) [e] [] cpos) none pos.line X.env = pure false) :
    PS X (.Expr (.Call (.Attribute (.Name x p) "append" apos) [e] [] cpos) pos) (tSt X.K W Ew Hk0 H0 (appR i fe)) :=
  PS.imp (ps_expr (pe_bm PySem.F.plainAttrs_list PySem.F.slot_list_append PySem.F.type_list_append mt_append hv (pa_cons he pa_nil (star_of hn _ _)) rfl (by rw [star_of hn]; rfl) hl (star_of hn _ _) rfl) hs) fun Dn σ H ⟨Hb, Γ, g, Hk, fr, eb, q⟩ => by
    unfold appR at q
    obtain ⟨os, sl, nd, ho⟩ := fr.sl
    show tVar i σ H fun x H1 => tyV X.K "list" x H1 ∧ tCons (tE X.K W Ew fe) tNil σ H1 fun xs H2 => rAppend x xs H2 fun _ H3 => Dn.nx σ H3
    cases e1 : Γ[i]? with
    | none => rw [e1] at q; exact q.elim
    | some s0 =>
      rw [e1] at q
      cases s0 with
      | no => exact q.elim
      | val _ => exact q.elim
      | own d =>
        cases d <;> (try exact q.elim)
        rename_i ds
        obtain ⟨p, xs, h2, hm, h4, h5⟩ := sl.own_at e1
        refine ⟨.ref p, h2, .inl ⟨rfl, xs, SqL.of h4⟩, seqSE fr q fun v d g' Hk' H' fr' s r h => ?_⟩
        have h' : FinS X.K W Ew Hk0 H0 Hb Dn (if ds.length < 1000000 then R.ok (Fl.nx (Γ.set i (.own (.lst (ds ++ [d]))))) g' else R.st) := h
        by_cases hl : ds.length < 1000000
        · rw [if_pos hl] at h'
          have h4' : H' p = some (.lst xs) := s.h _ _ h4 (ho p hm).2.2
          refine ⟨p, xs, v, rfl, rfl, h4', size_lt (by rw [h5.len]; exact hl), ?_⟩
          exact h' σ Hk' _ (fr'.chg e1 h2 ((h5.mono s.k).append (.cons r .nil))) (eb.trans s.k)
        · rw [if_neg hl] at h'; exact h'.elim
def stoR (i : Nat) (fa fb : Gm → G → R D) : Gm → G → R Fl := fun Γ g => (fb Γ g).bind fun y g => match Γ[i]? with
      | some (.own (.lst xs)) => (fa Γ g).bind fun k g => (match k with
        | .int k => (match ixD xs.length k with
          | some j => .ok (.nx (Γ.set i (.own (.lst (xs.set j y))))) g
          | none => .st)
        | _ => .st)
      | some (.own (.dct ks vs)) => (fa Γ g).bind fun k g => if okK k && decide (ks.length < 1000000) then .ok (.nx (Γ.set i (.own (putD ks vs k y)))) g else .st
      | _ => .st
def rSetO (K : PySem.W.Frag) (W : Wd) : V → V → V → Hp → (Hp → Prop) → Prop := fun o i v H Q => rSetL o i v H Q ∨ ∃ (p : Addr) (ks vs : List D) (k y : D) (Hk : Hp), o = .ref p ∧ Ex Hk H ∧ DAt K W Hk H p ks vs ∧ Rp K W Hk k i ∧ okK k = true ∧ Rp K W Hk y v ∧ ks.length < 1000000 ∧
  ∀ ob, Ob K W Hk (putD ks vs k y) p ob → Q (upd H p ob)
theorem set_O (hu : X.A.units + 64 < cLine) (hw : W.w = X.w) : PSet X (rSetO X.K W) := by
  intro pins s σ H o i v ov iv u Q I ro ri rv h
  rcases h with h | ⟨p, ks, vs, k, y, Hk, rfl, ex, h1, h2, h3, h4, h5, q⟩
  · exact set_list pins s σ H o i v ov iv u Q I ro ri rv h
  · have e2 : ov = Value.ref p := ro
    subst e2
    exact n_set hu I ex hw h1 h2 h3 ri h4 rv h5 fun ob s' hob I' => ⟨_, I', q ob hob⟩
theorem ixD_N {n : Nat} {i : Int} {j : Nat} (h : ixD n i = some j) : ixN n i = some j := by
  unfold ixD at h
  unfold ixN
  by_cases h0 : 0 ≤ i
  · rw [if_pos h0] at h ⊢
    by_cases h1 : i.toNat < n
    · rw [if_pos h1] at h
      rw [if_pos (by omega)]
      exact h
    · rw [if_neg h1] at h; cases h
  · rw [if_neg h0] at h ⊢
    by_cases h1 : 0 ≤ i + n
    · rw [if_pos h1] at h
      rw [if_pos (by omega)]
      exact h
    · rw [if_neg h1] at h; cases h
theorem s_sto {i : Nat} {x : Str} {p tp : Pos} {a b : Expr} {fa fb : Gm → G → R D} (hv : PE X (.Name x p) (tVar i)) (ha : PE X a (tE X.K W Ew fa)) (hb : PE X b (tE X.K W Ew fb)) (hs : swapsWithSole [.Subscript (.Name x p) a tp] b pos.line X.env = pure false) (hw : swappedStores [.Subscript (.Name x p) a tp] b X.env = pure none)
    (hag : PG X (.Subscript (.Name x p) a tp) (gSub (tVar i) (tE X.K W Ew fa) (rSetO X.K W))) :
    PS X (.Assign [.Subscript (.Name x p) a tp] b pos) (tSt X.K W Ew Hk0 H0 (stoR i fa fb)) :=
  PS.imp (ps_asg hb hag hs hw rfl) fun Dn σ H ⟨Hb, Γ, g, Hk, fr, eb, q⟩ => seqSE fr q fun v d g1 Hk1 H1 fr1 s1 r1 h1 => by
    obtain ⟨os, sl, nd, ho⟩ := fr1.sl
    cases e1 : Γ[i]? with
    | none => simp only [e1] at h1; exact h1.elim
    | some s0 =>
      cases s0 with
      | no => simp only [e1] at h1; exact h1.elim
      | val _ => simp only [e1] at h1; exact h1.elim
      | own d0 =>
        cases d0 <;> (try (simp only [e1] at h1; exact h1.elim))
        · rename_i ds
          obtain ⟨p, xs, h2, hm, h4, h5⟩ := sl.own_at e1
          simp only [e1] at h1
          refine ⟨.ref p, h2, seqSE fr1 h1 fun v2 d2 g2 Hk2 H2 fr2 s2 r2 h2' => ?_⟩
          cases d2 <;> (try exact h2'.elim)
          rename_i k
          have h3 : FinS X.K W Ew Hk0 H0 Hb Dn (match ixD ds.length k with
            | some j => R.ok (Fl.nx (Γ.set i (.own (.lst (ds.set j d))))) g2
            | none => R.st) := h2'
          cases ej : ixD ds.length k with
          | none => rw [ej] at h3; exact h3.elim
          | some j =>
            rw [ej] at h3
            have h4' : H2 p = some (.lst xs) := s2.h _ _ h4 (ho p hm).2.2
            refine .inl ⟨p, xs, k, j, rfl, r2, h4', by rw [h5.len]; exact ixD_N ej, ?_⟩
            exact h3 σ Hk2 _ (fr2.chg e1 h2 ((h5.mono s2.k).set j (r1.mono s2.k))) ((eb.trans s1.k).trans s2.k)
        · rename_i ks vs
          obtain ⟨p, u, h2, hm, h4, o, xs, e3, q1, q2, q3, q4, q5, q6⟩ := sl.obj_at e1
          subst e3
          simp only [e1] at h1
          refine ⟨.ref p, h2, seqSE fr1 h1 fun v2 d2 g2 Hk2 H2 fr2 s2 r2 h2' => ?_⟩
          have h4' := s2.h _ _ h4 (ho p hm).2.2
          by_cases hc : (okK d2 && decide (ks.length < 1000000)) = true
          · rw [if_pos hc] at h2'
            simp only [Bool.and_eq_true, decide_eq_true_eq] at hc
            refine .inr ⟨p, ks, vs, d2, d, Hk2, rfl, fr2.wk.ex, ⟨o, xs, h4', q1, q2, q3, q4, q5.mono s2.k, q6.mono s2.k⟩, r2, hc.1, r1.mono s2.k, hc.2, fun ob hob => ?_⟩
            exact h2' σ Hk2 _ (fr2.chgO e1 h2 hob) ((eb.trans s1.k).trans s2.k)
          · rw [if_neg hc] at h2'
            exact h2'.elim
def popR (t : T) (i : Nat) : Gm → G → R Fl := fun Γ g => match Γ[i]? with
      | some (.own (.lst xs)) => (match xs[xs.length - 1]? with
        | some x => (lift (setT t x (Γ.set i (.own (.lst xs.dropLast)))) g).bind fun Γ' g => .ok (.nx Γ') g
        | none => .st)
      | _ => .st
theorem s_pop {i : Nat} {x : Str} {p apos cpos : Pos} {tg : Expr} {t : T} (hv : PE X (.Name x p) (tVar i)) (hg : PG X tg (tGg X.K W t)) (hl : (apos.endLine == cpos.line) = true)
    (hs : swapsWithSole [tg] (.Call (.Attribute (.Name x p) "pop" apos) [] [] cpos) pos.line X.env = pure false) (hw : swappedStores [tg] (.Call (.Attribute (.Name x p) "pop" apos) [] [] cpos) X.env = pure none) (h1 : (assignEach [tg] X.env).map (·.2) = [assign tg X.env]) :
    PS X (.Assign [tg] (.Call (.Attribute (.Name x p) "pop" apos) [] [] cpos) pos) (tSt X.K W Ew Hk0 H0 (popR t i)) :=
  PS.imp (ps_asg (pe_bm0 PySem.F.plainAttrs_list PySem.F.slot_list_pop PySem.F.type_list_pop mt_pop hv rfl hl) hg hs hw h1) fun Dn σ H ⟨Hb, Γ, g, Hk, fr, eb, q⟩ => by
    unfold popR at q
    obtain ⟨os, sl, nd, ho⟩ := fr.sl
    cases e1 : Γ[i]? with
    | none => rw [e1] at q; exact q.elim
    | some s0 =>
      rw [e1] at q
      cases s0 with
      | no => exact q.elim
      | val _ => exact q.elim
      | own d =>
        cases d <;> (try exact q.elim)
        rename_i ds
        obtain ⟨p, xs, h2, hm, h4, h5⟩ := sl.own_at e1
        have q2 : FinS X.K W Ew Hk0 H0 Hb Dn (match ds[ds.length - 1]? with
          | some x => (lift (setT t x (Γ.set i (.own (.lst ds.dropLast)))) g).bind fun Γ' g => R.ok (Fl.nx Γ') g
          | none => R.st) := q
        cases ex : ds[ds.length - 1]? with
        | none => rw [ex] at q2; exact q2.elim
        | some y =>
          rw [ex] at q2
          obtain ⟨v, ev, rv⟩ := h5.get ex
          cases et : setT t y (Γ.set i (.own (.lst ds.dropLast))) with
          | none => simp only [et] at q2; exact q2.elim
          | some Γ' =>
            simp only [et] at q2
            refine ⟨.ref p, h2, .inl ⟨rfl, xs, SqL.of h4⟩, p, xs, v, rfl, rfl, h4, by rw [h5.len]; exact ev, ?_⟩
            exact ⟨Hk0, H0, _, g, Hk, y, Γ', fr.chg e1 h2 h5.dropLast, rv, et, fun σ' fr2 _ => q2 σ' Hk _ fr2 eb⟩
def popER (i : Nat) : Gm → G → R Fl := fun Γ g => match Γ[i]? with
      | some (.own (.lst xs)) => (match xs[xs.length - 1]? with
        | some _ => .ok (.nx (Γ.set i (.own (.lst xs.dropLast)))) g
        | none => .st)
      | _ => .st
theorem s_popE {i : Nat} {x : Str} {p apos cpos : Pos} (hv : PE X (.Name x p) (tVar i)) (hl : (apos.endLine == cpos.line) = true) (hs : swapsWith (.Call (.Attribute (.Name x p) "pop" apos) [] [] cpos) none pos.line X.env = pure false) :
    PS X (.Expr (.Call (.Attribute (.Name x p) "pop" apos) [] [] cpos) pos) (tSt X.K W Ew Hk0 H0 (popER i)) :=
  PS.imp (ps_expr (pe_bm0 PySem.F.plainAttrs_list PySem.F.slot_list_pop PySem.F.type_list_pop mt_pop hv rfl hl) hs) fun Dn σ H ⟨Hb, Γ, g, Hk, fr, eb, q⟩ => by
    unfold popER at q
    obtain ⟨os, sl, nd, ho⟩ := fr.sl
    cases e1 : Γ[i]? with
    | none => rw [e1] at q; exact q.elim
    | some s0 =>
      rw [e1] at q
      cases s0 with
      | no => exact q.elim
      | val _ => exact q.elim
      | own d =>
        cases d <;> (try exact q.elim)
        rename_i ds
        obtain ⟨p, xs, h2, hm, h4, h5⟩ := sl.own_at e1
        have q2 : FinS X.K W Ew Hk0 H0 Hb Dn (match ds[ds.length - 1]? with
          | some x => R.ok (Fl.nx (Γ.set i (.own (.lst ds.dropLast)))) g
          | none => R.st) := q
        cases ex : ds[ds.length - 1]? with
        | none => rw [ex] at q2; exact q2.elim
        | some y =>
          rw [ex] at q2
          obtain ⟨v, ev, rv⟩ := h5.get ex
          exact ⟨.ref p, h2, .inl ⟨rfl, xs, SqL.of h4⟩, p, xs, v, rfl, rfl, h4, by rw [h5.len]; exact ev, q2 σ Hk _ (fr.chg e1 h2 h5.dropLast) eb⟩
def extR (i : Nat) (fe : Gm → G → R D) : Gm → G → R Fl := fun Γ g => match Γ[i]? with
      | some (.own (.lst xs)) => (fe Γ g).bind fun y g => (match y with
        | .lst ys => if xs.length + ys.length ≤ 1000000 then .ok (.nx (Γ.set i (.own (.lst (xs ++ ys))))) g else .st
        | _ => .st)
      | _ => .st
theorem s_ext {i : Nat} {x : Str} {p apos cpos : Pos} (hv : PE X (.Name x p) (tVar i)) (he : PE X e (tE X.K W Ew fe)) (hn : nSt e = true) (hl : (apos.endLine == cpos.line) = true) (hs : swapsWith (.Call (.Attribute (.Name x p) "extend" apos) [e] [] cpos) none pos.line X.env = pure false) :
    PS X (.Expr (.Call (.Attribute (.Name x p) "extend" apos) [e] [] cpos) pos) (tSt X.K W Ew Hk0 H0 (extR i fe)) :=
  PS.imp (ps_expr (pe_bm PySem.F.plainAttrs_list PySem.F.slot_list_extend PySem.F.type_list_extend mt_extend hv (pa_cons he pa_nil (star_of hn _ _)) rfl (by rw [star_of hn]; rfl) hl (star_of hn _ _) rfl) hs) fun Dn σ H ⟨Hb, Γ, g, Hk, fr, eb, q⟩ => by
    unfold extR at q
    obtain ⟨os, sl, nd, ho⟩ := fr.sl
    show tVar i σ H fun x H1 => tyV X.K "list" x H1 ∧ tCons (tE X.K W Ew fe) tNil σ H1 fun xs H2 => rExtend x xs H2 fun _ H3 => Dn.nx σ H3
    cases e1 : Γ[i]? with
    | none => rw [e1] at q; exact q.elim
    | some s0 =>
      rw [e1] at q
      cases s0 with
      | no => exact q.elim
      | val _ => exact q.elim
      | own d =>
        cases d <;> (try exact q.elim)
        rename_i ds
        obtain ⟨p, xs, h2, hm, h4, h5⟩ := sl.own_at e1
        refine ⟨.ref p, h2, .inl ⟨rfl, xs, SqL.of h4⟩, seqSE fr q fun v d g' Hk' H' fr' s r h => ?_⟩
        cases d <;> (try exact h.elim)
        rename_i ys
        obtain ⟨b, zs, rfl, r1, r2⟩ := r
        have h' : FinS X.K W Ew Hk0 H0 Hb Dn (if ds.length + ys.length ≤ 1000000 then R.ok (Fl.nx (Γ.set i (.own (.lst (ds ++ ys))))) g' else R.st) := h
        by_cases hl : ds.length + ys.length ≤ 1000000
        · rw [if_pos hl] at h'
          have h4' : H' p = some (.lst xs) := s.h _ _ h4 (ho p hm).2.2
          refine ⟨p, b, xs, zs, rfl, rfl, h4', fr'.wk.ex _ _ r1, size_le (by rw [h5.len, r2.len]; exact hl), ?_⟩
          exact h' σ Hk' _ (fr'.chg e1 h2 ((h5.mono s.k).append r2)) (eb.trans s.k)
        · rw [if_neg hl] at h'; exact h'.elim
/-- what is owned becomes known -/
theorem GmR.frz {os : List Addr} (h : GmR K W Hk H Γ σ os) : ∀ {i : Nat} {d : D} {p : Addr} {Hk' : Hp}, os.Nodup → Γ[i]? = some (.own d) → σ[i]? = some (some (.ref p)) → Rp K W Hk' d (.ref p) → Ex Hk Hk' →
    ∃ os', GmR K W Hk' H (Γ.set i (.val d)) σ os' ∧ os'.Sublist os ∧ p ∉ os' := by
  induction h with
  | nil => intro i d p Hk' nd e; simp at e
  | no o t ih =>
    intro i d p Hk' nd e e2 r ex
    cases i with
    | zero => simp at e
    | succ i => obtain ⟨os', t', s, n⟩ := ih nd (by simpa using e) (by simpa using e2) r ex; exact ⟨os', .no o t', s, n⟩
  | val q t ih =>
    intro i d p Hk' nd e e2 r ex
    cases i with
    | zero => simp at e
    | succ i => obtain ⟨os', t', s, n⟩ := ih nd (by simpa using e) (by simpa using e2) r ex; exact ⟨os', .val (q.mono ex) t', s, n⟩
  | @own Γ σ os ds p0 xs h1 h2 t ih =>
    intro i d p Hk' nd e e2 r ex
    have nd' := List.nodup_cons.mp nd
    cases i with
    | zero =>
      simp at e2
      subst e2
      exact ⟨os, .val r (t.mono ex fun _ _ _ h => h), List.sublist_cons_self _ _, nd'.1⟩
    | succ i =>
      have hp : p ∈ os := by
        obtain ⟨p', _, q1, q2, _⟩ := t.obj_at (i := i) (d := d) (by simpa using e)
        rw [show σ[i]? = some (some (.ref p)) by simpa using e2] at q1
        cases q1
        exact q2
      obtain ⟨os', t', s, n⟩ := ih nd'.2 (by simpa using e) (by simpa using e2) r ex
      refine ⟨_, .own h1 (h2.mono ex) t', s.cons₂ _, fun z => ?_⟩
      rcases List.mem_cons.mp z with z | z
      · exact nd'.1 (z ▸ hp)
      · exact n z
theorem Fr.frz (fr : Fr K W Hk0 H0 Γ g σ Hk H) {i : Nat} {d : D} (e1 : Γ[i]? = some (.own d)) : ∃ Hk', Fr K W Hk0 H0 (Γ.set i (.val d)) g σ Hk' H ∧ Ex Hk Hk' := by
  obtain ⟨os, sl, nd, ho⟩ := fr.sl
  obtain ⟨p, u, h2, hm, h4, h5⟩ := sl.obj_at e1
  obtain ⟨k1, k2, k3⟩ := ho p hm
  have ex : Ex Hk (upd Hk p u) := Evl.Ex.new k1
  obtain ⟨os', sl', s, n⟩ := sl.frz (Hk' := upd Hk p u) nd e1 h2 ((h5.mono ex).rp upd_same) ex
  refine ⟨upd Hk p u, ⟨⟨fun b u hb => ?_, ?_, ?_, ?_, fun q hq => by rw [upd_ne (Ne.symm (k3.2.2.2 q hq))]; exact fr.wk.tk q hq, fr.wk.dr, fr.wk.hc.trans ex, fr.wk.hh⟩, fr.en.tell k2 h4, ⟨os', sl', nd.sublist s, fun q hq => ⟨?_, (ho q (s.subset hq)).2⟩⟩, fr.hb0⟩, ex⟩
  · by_cases hbp : b = p
    · subst hbp; rw [upd_same] at hb; cases hb; exact h4
    · rw [upd_ne hbp] at hb; exact fr.wk.ex b u hb
  · rw [upd_ne (Ne.symm k3.1)]; exact fr.wk.m
  · rw [upd_ne (Ne.symm k3.2.1)]; exact fr.wk.c
  · rw [upd_ne (Ne.symm k3.2.2.1)]; exact fr.wk.gr
  · rw [upd_ne (show q ≠ p from fun z => n (z ▸ hq))]; exact (ho q (s.subset hq)).1
def frzR (i : Nat) : Gm → G → R Fl := fun Γ g => match Γ[i]? with
      | some (.own d) => .ok (.nx (Γ.set i (.val d))) g
      | _ => .ok (.nx Γ) g
theorem s_frz {i : Nat} {sts : List Stmt} {h : Gm → G → R Fl} (q : PSs X sts (tSt X.K W Ew Hk0 H0 h)) : PSs X sts (tSt X.K W Ew Hk0 H0 (seqR (frzR i) h)) := PSs.imp q fun Dn σ H ⟨Hb, Γ, g, Hk, fr, eb, q⟩ => by
  unfold seqR frzR at q
  cases e1 : Γ[i]? with
  | none => rw [e1] at q; exact ⟨Hb, Γ, g, Hk, fr, eb, q⟩
  | some s0 =>
    rw [e1] at q
    cases s0 with
    | no => exact ⟨Hb, Γ, g, Hk, fr, eb, q⟩
    | val _ => exact ⟨Hb, Γ, g, Hk, fr, eb, q⟩
    | own d =>
      obtain ⟨Hk', fr', ex⟩ := fr.frz e1
      exact ⟨Hb, _, g, Hk', fr', eb.trans ex, q⟩
def tryR (fe : Gm → G → R D) (j : Nat) (yes : List Nat) (i : Nat) : Gm → G → R Fl := fun Γ g => match fe Γ g with
  | .ok d g => if j < Γ.length then .ok (.nx (Γ.set j (.val d))) g else .st
  | .ex c ds g => if yes.contains c && decide (i < Γ.length) then .ok (.nx ((List.replicate Γ.length Slot.no).set i (.val (.exc c ds)))) g else .st
  | .st => .st
theorem gm_nos {K : PySem.W.Frag} {W : Wd} {Hk H : Hp} : ∀ σ : L2.St, GmR K W Hk H (List.replicate σ.length Slot.no) σ []
  | [] => .nil
  | o :: σ => .no o (gm_nos σ)
theorem test_of {CX : CXT} {pn : PrN} {p : Pr} {k : Nat} {kl : Calls} {c : Cxt} (ok : Ok CX W pn p k kl c Ew X) {test : Expr} {ys : List Str} {cvs : List V} (h : testNs test = some ys) (hg : ∀ y ∈ ys, glB c.sc y = true) (pr : Paired (ClsN X.mg) ys cvs) : TestX X test (cvs.map vV) := by
  have nm : ∀ {y : Str} {v : V}, glB c.sc y = true → ClsN X.mg y v → Names X y (vV v) := by
    intro y v g1 ⟨o1, hc⟩
    rcases hc with ⟨C, rfl, hm⟩ | ⟨T, rfl, hm, hb⟩
    · exact ⟨ok.gl g1, okN1 o1, .inl hm⟩
    · exact ⟨ok.gl g1, okN1 o1, .inr ⟨hm, hb, okN3 o1⟩⟩
  unfold testNs at h
  split at h
  · cases h
    cases pr with
    | cons h1 r =>
      cases r
      exact .one (nm (hg _ (by simp)) h1)
  · cases h
    cases pr with
    | cons h1 r =>
      cases r with
      | cons h2 r =>
        cases r
        exact .two (nm (hg _ (by simp)) h1) (nm (hg _ (by simp)) h2)
  · cases h
theorem s_tryK {test v : Expr} {cs : List Value} {x m y : Str} {j im i : Nat} {yes : List Nat} {p1 p2 p3 p4 p5 p6 p7 : Pos} {fe : Gm → G → R D} (hs : X.stack = X.env :: X.outer) (hf : X.env.frame = some X.env.locals) (hx : X.ex = []) (hN : X.N.Nodup) (ht : TestX X test cs)
    (hyes : ∀ c C ns, W.xc.lookup c = some (C, ns) → c ∈ yes → PySem.W.exmAny X.K (.ref C) cs = some true) (hkk : W.k = X.K) (him : X.N[im]? = some m) (hlm : X.env.kindOf m = some .local) (hj : X.N[j]? = some x) (hlx : X.env.kindOf x = some .local) (hi : X.N[i]? = some y) (hly : X.env.kindOf y = some .local) (hmy : m ≠ y)
    (hdn : (m == ("__debug__" : Str)) = false) (hcn : (m == ("__classdict__" : Str)) = false) (hsw : swapsWith v (some (.Name x p1)) p2.line X.env = pure false)
    (hpe : ∀ (pn' : List (Addr × Obj)) (xe' : Value → Shared → Prop) (E' : XK), Takes (X.tr pn' xe') (fun cls d _ H => E' cls d H) → PassesOwn (model X.prog X.w) X.A X.env xe' → PE (X.tr pn' xe') v (tE X.K W E' fe)) :
    PS X (.Try [.Assign [.Name x p1] v p2] [.ExceptHandler (some test) (some m) [.Assign [.Name y p3] (.Name m p4) p5] p6] [] [] p7) (tSt X.K W Ew Hk0 H0 (tryR fe j yes i)) := by
  have hne : im ≠ i := fun z => hmy (by rw [z, hi] at him; exact (Option.some.inj him).symm)
  refine PS.imp (ps_tryK (tb := fun W' D σ H => ∃ E' : XK, (∀ cls d σ' H', σ'.length = σ.length → E' cls d H' → W' cls d σ' H') ∧ tE X.K W E' fe σ H fun v H' => D.nx (σ.set j (some v)) H') hs hf hx hN ht him hlm hi hly hdn hcn fun W' pn xe tk own => ?_) fun Dn σ H ⟨Hb, Γ, g, Hk, fr, eb, q⟩ => ?_
  · refine ⟨fun pins s σ H D I ⟨E', hW, h⟩ => ?_⟩
    have tk' : Takes (X.tr pn xe) (fun cls d _ H => E' cls d H) := by
      rintro u s' ⟨a, B, sI, pins', σ', H', cls, d, e, I', nb, up, sky, na, os, ag, w⟩
      exact tk u s' ⟨a, B, sI, pins', σ', H', cls, d, e, I', nb, up, sky, na, os, ag, hW _ _ _ _ (I'.len.trans I.len.symm) w⟩
    exact (pss_one (ps_set (X := X.tr pn xe) (i := j) (pos := p2) (pos' := p1) hN hj (.inl hlx) (hpe pn xe E' tk' own) hsw (.inr hlx))).run pins s σ H D I h
  · have hl := fr.len
    refine ⟨fun cls d H' => ∀ σ', σ'.length = Γ.length → wKeep X.K cs im i Dn cls d σ' H', fun cls d σ' H' hl' z _ => z σ' (hl'.trans hl), Hk0, H0, Γ, g, Hk, fr, ?_⟩
    unfold tryR at q
    cases e : fe Γ g with
    | st => rw [e] at q; exact q.elim
    | ok d g' =>
      rw [e] at q
      intro Hk' H' s dr v r
      simp only at q
      split at q
      · exact q _ Hk' H' ((fr.step s dr).set r) (eb.trans s.k)
      · exact q.elim
    | ex c ds g' =>
      rw [e] at q
      intro Hk' H' cls dx s dr ⟨C, ns, d, fs, h1, h2, h3, h4, h5, h6⟩ σ' hl'
      simp only at q
      split at q
      · rename_i hc
        simp only [Bool.and_eq_true, decide_eq_true_eq, List.contains_iff_mem] at hc
        subst h2
        refine ⟨hyes c C ns h1 hc.1, fun a o na z hu => ?_⟩
        have fr1 := fr.step s dr
        have sn : Step W Hk' H' (upd Hk' a (ObX a o)) (upd H' a (ObX a o)) := Step.new fr1.wk.ex na
        have fr2 := fr1.step sn (dr.new na)
        obtain ⟨vs, lk, rp⟩ := flds_lk h5
        rw [hkk] at rp
        have dn : d ≠ a := fun z => by rw [z, na] at h4; cases h4
        rw [h3] at z
        have rv : Rp X.K W (upd Hk' a (ObX a o)) (.exc c ds) (.ref a) := ⟨a, o, C, d, ns, fs, vs, rfl, upd_same, h1, z, hu, by rw [upd_ne dn]; exact h6, lk, rp.mono sn.k⟩
        have hσ : ((σ'.set im (some (V.ref a))).set i (some (V.ref a))).set im none = ((σ'.set im (some (V.ref a))).set im none).set i (some (V.ref a)) := List.set_comm _ _ (Ne.symm hne)
        have hlen : ((σ'.set im (some (V.ref a))).set im (none : Option V)).length = Γ.length := by
          simp only [List.length_set]
          exact hl'
        rw [hσ]
        obtain ⟨os', g1, g2⟩ := (gm_nos (K := X.K) (W := W) (Hk := upd Hk' a (ObX a o)) (H := upd H' a (ObX a o)) ((σ'.set im (some (V.ref a))).set im none)).set i rv
        rw [hlen] at g1
        refine q _ _ _ ⟨fr2.wk, fr2.en, ⟨os', g1, List.nodup_nil.sublist g2, fun p hp => absurd (g2.subset hp) (by simp)⟩, fr2.hb0⟩ (eb.trans (s.k.trans sn.k))
      · exact q.elim
theorem s_if {c : Expr} {a b : List Stmt} {fc : Gm → G → R D} {fa fb : Gm → G → R Fl} (hc : PT X c (tTt X.K W Ew fun Γ g => blR (fc Γ g))) (ha : PSs X a (tSt X.K W Ew Hk0 H0 fa)) (hb : PSs X b (tSt X.K W Ew Hk0 H0 fb)) :
    PS X (.If c a b pos) (tSt X.K W Ew Hk0 H0 fun Γ g => (blR (fc Γ g)).bind fun k g => if k then fa Γ g else fb Γ g) :=
  PS.imp (ps_if hc ha hb) fun Dn σ H ⟨Hb, Γ, g, Hk, fr, eb, q⟩ => seqST (f := fun Γ g => blR (fc Γ g)) fr q fun k g' Hk' H' fr' s h => by
    cases k with
    | true => exact iteT ⟨Hb, Γ, g', Hk', fr', eb.trans s.k, h⟩
    | false => exact iteF ⟨Hb, Γ, g', Hk', fr', eb.trans s.k, h⟩
theorem s_while {c : Expr} {b : List Stmt} {fc : Gm → G → R D} {fb : Gm → G → R Fl} (n : Nat) (hp : PassesOwn (model X.prog X.w) X.A X.env X.xe) (hc : PT X c (tTt X.K W Ew fun Γ g => blR (fc Γ g))) (hb : PSs X b (tSt X.K W Ew Hk0 H0 fb)) :
    PS X (.While c b [] pos) (tSt X.K W Ew Hk0 H0 fun Γ g => whlR (fun Γ g => blR (fc Γ g)) fb n Γ g) :=
  PS.imp (ps_while hp hc hb) fun Dn σ H ⟨Hb, Γ, g, Hk, fr, eb, q⟩ => by
    refine ⟨fun m σ H => ∃ Γ g Hk, Fr X.K W Hk0 H0 Γ g σ Hk H ∧ Ex Hb Hk ∧ FinS X.K W Ew Hk0 H0 Hb Dn (whlR (fun Γ g => blR (fc Γ g)) fb m Γ g), ⟨n, Γ, g, Hk, fr, eb, q⟩, ?_⟩
    rintro m σ H ⟨Γ, g, Hk, fr, eb, q⟩
    cases m with
    | zero => exact q.elim
    | succ m =>
      have q' : FinS X.K W Ew Hk0 H0 Hb Dn ((blR (fc Γ g)).bind fun b g1 => if b then (fb Γ g1).bind fun fl g2 => (match fl with
        | .nx Γ' => whlR (fun Γ g => blR (fc Γ g)) fb m Γ' g2
        | .rt d => .ok (.rt d) g2) else .ok (.nx Γ) g1) := q
      refine seqST (f := fun Γ g => blR (fc Γ g)) fr q' fun k g' Hk' H' fr' s h => ?_
      cases k with
      | false => exact iteF (h σ Hk' H' fr' (eb.trans s.k))
      | true =>
        refine iteT ⟨fun σ H => ∃ Γ g Hk, Fr X.K W Hk0 H0 Γ g σ Hk H ∧ Ex Hb Hk ∧ FinS X.K W Ew Hk0 H0 Hb Dn (whlR (fun Γ g => blR (fc Γ g)) fb m Γ g), fun σ' H' z => ⟨m, Nat.lt_succ_self m, z⟩, Hb, Γ, g', Hk', fr', eb.trans s.k, ?_⟩
        simp only [if_true] at h
        cases e : fb Γ g' with
        | ok fl g2 =>
          rw [e] at h
          cases fl with
          | nx Γ' => exact fun σ2 Hk2 H2 fr2 eb2 => ⟨Γ', g2, Hk2, fr2, eb2, h⟩
          | rt d => exact h
        | ex c ds g2 => rw [e] at h; exact h
        | st => rw [e] at h; exact h
theorem s_for {tg iter : Expr} {b : List Stmt} {t : T} {fi : Gm → G → R (List D)} {fb : Gm → G → R Fl} (hp : PassesOwn (model X.prog X.w) X.A X.env X.xe) (hcalm : X.calm = true) (hi : PI X tg iter (tIi X.K W Ew fi)) (hg : PG X tg (tGg X.K W t)) (hb : PSs X b (tSt X.K W Ew Hk0 H0 fb))
    (hs : ∀ x, foldedSetIterable iter X.env x = pure x) :
    PS X (.For tg iter b [] pos) (tSt X.K W Ew Hk0 H0 fun Γ g => (fi Γ g).bind fun xs g => forR (fun x Γ g => (lift (setT t x Γ) g).bind fun Γ' g => fb Γ' g) xs Γ g) :=
  PS.imp (ps_for hp hcalm hi hg hb hs) fun Dn σ H ⟨Hb, Γ, g, Hk, fr, eb, q⟩ => seqSI fr q fun J ds g1 Hk1 H1 fr1 s1 io q1 => by
    generalize hF : (fun (x : D) (Γ : Gm) (g : G) => (lift (setT t x Γ) g).bind fun Γ' g => fb Γ' g) = F at q1
    let Inv0 : Nat → L2.St → Hp → Prop := fun i σ H => i ≤ ds.length ∧ ∃ Γ g Hk, Fr X.K W Hk0 H0 Γ g σ Hk H ∧ Ex Hk1 Hk ∧ FinS X.K W Ew Hk0 H0 Hb Dn (forR F (ds.drop i) Γ g)
    refine ⟨fun i m σ H => m = ds.length - i ∧ Inv0 i σ H, ⟨ds.length, by simp, Nat.zero_le _, Γ, g1, Hk1, fr1, Ex.refl _, q1⟩, ?_⟩
    rintro i m σ2 H2 ⟨rfl, hi, Γ2, g2, Hk2, fr2, ex2, q2⟩
    by_cases hlt : i < ds.length
    · refine .inr ⟨io.go i Hk2 H2 g2 hlt ex2 fr2.wk, Inv0 (i + 1), fun σ' H' z => ⟨ds.length - (i + 1), by omega, rfl, z⟩, fun x H3 y => ?_⟩
      have hd : ds[i]? = some ds[i] := by simp [hlt]
      obtain ⟨Hk3, s3, dr3, rx⟩ := io.yld i Hk2 H2 g2 x H3 ds[i] hd ex2 fr2.wk y
      have fr3 := fr2.step s3 dr3
      rw [List.drop_eq_getElem_cons hlt] at q2
      have q3 : FinS X.K W Ew Hk0 H0 Hb Dn ((F ds[i] Γ2 g2).bind fun fl g1 => match fl with
        | .nx Γ' => forR F (ds.drop (i + 1)) Γ' g1
        | .rt d => .ok (.rt d) g1) := q2
      cases e1 : setT t ds[i] Γ2 with
      | none =>
        rw [← hF] at q3
        simp only [e1] at q3
        exact q3.elim
      | some Γ' =>
        refine ⟨Hk0, H0, Γ2, g2, Hk3, ds[i], Γ', fr3, rx, e1, fun σ' fr' _ => ⟨Hk1, Γ', g2, Hk3, fr', ex2.trans s3.k, ?_⟩⟩
        have e2 : F ds[i] Γ2 g2 = fb Γ' g2 := by rw [← hF]; simp only [e1]; rfl
        rw [e2] at q3
        cases e : fb Γ' g2 with
        | ok fl g4 =>
          rw [e] at q3
          cases fl with
          | nx Γ4 => exact fun σ4 Hk4 H4 fr4 eb4 => ⟨hlt, Γ4, g4, Hk4, fr4, eb4, q3⟩
          | rt d => exact q3
        | ex c ds' g4 => rw [e] at q3; exact q3
        | st => rw [e] at q3; exact q3
    · have hi' : i = ds.length := by omega
      subst hi'
      rw [List.drop_length] at q2
      exact .inl ⟨io.stop _ Hk2 H2 g2 rfl ex2 fr2.wk, q2 σ2 Hk2 H2 fr2 ((eb.trans s1.k).trans ex2)⟩
end
end Bk
set_option Elab.async false
set_option linter.all false
set_option maxRecDepth 100000
set_option maxHeartbeats 4000000
namespace Bk
open PySem L2
open Evl (Ex ex_l ex_t)
def nmsOf (sc : Scope) (ts : List Expr) : List Str := ts.filterMap fun
    | .Name id pos => if sc.names.lookup id == some .local && pos.line == ((ts.head?.map (·.pos.line)).getD 0) then some id else none
    | _ => none
def nmsE (env : Env) (ts : List Expr) : List Str := ts.filterMap fun
    | .Name id pos => if env.kindOf id == some .local && pos.line == ((ts.head?.map (·.pos.line)).getD 0) then some id else none
    | _ => none
/-- what swappedStores tells: none: the usual stores -/
def swB (sc : Scope) (ts vs : List Expr) : Option (Option (List Str)) :=
  if !(ts.length == 2 || ts.length == 3) || vs.length != ts.length then some none else
  if vs.any (fun | Expr.Starred .. => true | _ => false) then some none else
  if (nmsOf sc ts).length != ts.length || (nmsOf sc ts).eraseDups.length != (nmsOf sc ts).length then some none else
  if vs.all (foldedForSure 8) then some none else
  if vs.all (constantsAlone 8) then none else some (some (nmsOf sc ts))
theorem sw_of {env : Env} {sc : Scope} {ts vs : List Expr} {k1 k2 : Nat} {p1 p2 : Pos} {r : Option (List Str)} (hs : env.scope = sc) (hk : sc.kind = .function) (h : swB sc ts vs = some r) : swappedStores [.Tuple ts k1 p1] (.Tuple vs k2 p2) env = pure r := by
  have hb : env.blockKind = .function := by unfold Env.blockKind; rw [hs, hk]; rfl
  have hn : nmsE env ts = nmsOf sc ts := by
    unfold nmsE
    unfold nmsOf
    congr 1
    funext e
    cases e <;> first | rfl | (subst hs; rfl)
  unfold swappedStores
  simp only [hb]
  unfold swB at h
  split at h
  · rename_i c
    cases h
    rw [if_pos (by simpa using c)]
  · rename_i c
    rw [if_neg (by simpa using c)]
    show (if (vs.any fun | Expr.Starred .. => true | _ => false) = true then pure none else
      if ((nmsE env ts).length != ts.length || (nmsE env ts).eraseDups.length != (nmsE env ts).length) = true then pure none else
      if vs.all (foldedForSure 8) = true then pure none else
      if vs.all (constantsAlone 8) = true then (do unsupported "assign.tuple-of-constant-expressions:order-of-the-stores"; pure (some (nmsE env ts))) else pure (some (nmsE env ts))) = pure r
    rw [hn]
    split at h
    · rename_i c2
      cases h
      rw [if_pos c2]
    · rename_i c2
      rw [if_neg c2]
      split at h
      · rename_i c3
        cases h
        rw [if_pos c3]
      · rename_i c3
        rw [if_neg c3]
        split at h
        · rename_i c4
          cases h
          rw [if_pos c4]
        · rename_i c4
          rw [if_neg c4]
          split at h
          · cases h
          · rename_i c5
            cases h
            rw [if_neg c5]
def nCmp : Expr → Bool
  | .ListComp .. => false
  | .SetComp .. => false
  | .DictComp .. => false
  | _ => true
theorem nCmp_of {e : Expr} (h : nCmp e = true) (t : Option Expr) (l : Nat) (env : Env) : swapsWith e t l env = pure false := by
  cases e <;> first | rfl | cases h
/-- the stores go as usual -/
def swN (sc : Scope) (tg v : Expr) : Bool := match tg with
  | .Name _ _ => true
  | .Tuple ts _ _ => (match v with
    | .Tuple vs _ _ => decide (swB sc ts vs = some none)
    | _ => true)
  | _ => false
theorem swN_of {env : Env} {sc : Scope} {tg v : Expr} (hs : env.scope = sc) (hk : sc.kind = .function) (h : swN sc tg v = true) : swappedStores [tg] v env = pure none := by
  unfold swN at h
  split at h
  · cases v <;> rfl
  · cases v <;> first | rfl | exact sw_of hs hk (of_decide_eq_true h)
  · cases h
/-- y = [.. for ..]: by the comprehension's own road -/
def lcLoc (c : Cxt) (y : Str) (py : Pos) (v : Expr) : Bool := match v with
  | .ListComp _ _ scope pos => decide (c.sc.names.lookup y = some .local) && (py.line == pos.line) && !(scope.names.any fun (n, k) => n == y && (k == .local || k == .cell))
  | .DictComp _ _ [_] scope pos => decide (c.sc.names.lookup y = some .local) && (py.line == pos.line) && !(scope.names.any fun (n, k) => n == y && (k == .local || k == .cell))
  | _ => false
def lcCell (c : Cxt) (y : Str) : Bool := decide (c.sc.names.lookup y = some .cell) && c.fn y
theorem sw_cell {env : Env} {sc : Scope} (hs : env.scope = sc) {y : Str} (h : sc.names.lookup y = some .cell) (v : Expr) (py : Pos) (l : Nat) : swapsWith v (some (.Name y py)) l env = pure false := by
  have hk : env.kindOf y = some .cell := by unfold Env.kindOf; rw [hs]; exact h
  have hb : (some NameKind.cell == some NameKind.local) = false := rfl
  cases v <;> first | rfl | (simp only [swapsWith, hk, hb, Bool.and_false, Bool.false_and] <;> rfl)
def frB (e : E) (o : Bool) : Bool := !o || frE e
mutual
def chkS : Nat → PrN → Cxt → Stmt → S → Bool
  | 0, _, _, _, _ => false
  | n + 1, pn, c, st, s => match s with
    | .expr e => (match st with
      | .Expr v _ => nCmp v && chkE n pn c v e
      | _ => false)
    | .asg t e => (match st with
      | .Assign [tg] v _ => nSt tg && chkT n c tg t && chkE n pn c v e && (if nCmp v then swN c.sc tg v else (match tg, t with
        | .Name y py, .var i => lcLoc c y py v || lcCell c y
        | _, _ => false))
      | _ => false)
    | .own i e => (match st with
      | .Assign [.Name y py] v _ => decide (c.N[i]? = some y) && locB c y && frE e && chkE n pn c v e && (nCmp v || lcLoc c y py v || lcCell c y)
      | _ => false)
    | .par ts as => (match st with
      | .Assign [.Tuple tgs _ _] (.Tuple vs _ _) _ => (match ts, tgs, vs, as with
        | [(i, o1), (j, o2)], [.Name x _, .Name y _], [a, b], .cons a' (.cons b' .nil) =>
          decide (c.N[i]? = some x) && decide (c.N[j]? = some y) && decide (i ≠ j) && (decide (c.sc.names.lookup x = some .local) && decide (c.sc.names.lookup y = some .local) && decide (swB c.sc tgs vs = some (some [x, y])) || locB c x && locB c y && decide (swB c.sc tgs vs = some none)) &&
          nSt a && nSt b && chkE n pn c a a' && chkE n pn c b b' && frB a' o1 && frB b' o2
        | [(i, o1), (j, o2), (l, o3)], [.Name x _, .Name y _, .Name z _], [a, b, d], .cons a' (.cons b' (.cons d' .nil)) =>
          decide (c.N[i]? = some x) && decide (c.N[j]? = some y) && decide (c.N[l]? = some z) && decide (i ≠ j) && decide (i ≠ l) && decide (j ≠ l) && (decide (c.sc.names.lookup x = some .local) && decide (c.sc.names.lookup y = some .local) && decide (c.sc.names.lookup z = some .local) &&
          decide (swB c.sc tgs vs = some (some [x, y, z])) || locB c x && locB c y && locB c z && decide (swB c.sc tgs vs = some none)) && nSt a && nSt b && nSt d && chkE n pn c a a' && chkE n pn c b b' && chkE n pn c d d' && frB a' o1 && frB b' o2 && frB d' o3
        | _, _, _, _ => false)
      | _ => false)
    | .aug i e => (match st with
      | .AugAssign (.Name x _) .Add v _ => decide (c.N[i]? = some x) && locB c x && chkE n pn c v e
      | _ => false)
    | .ret e => (match st with
      | .Return (some v) _ => chkE n pn c v e
      | .Return none _ => (match e with
        | .cst .non => true
        | _ => false)
      | _ => false)
    | .ife t a b => (match st with
      | .If t' a' b' _ => chkE n pn c t' t && chkB n pn c a' a && chkB n pn c b' b
      | _ => false)
    | .for_ t it b => (match st with
      | .For tg iter b' [] _ => chkT n c tg t && chkI n pn c tg iter it && chkB n pn c b' b && nSet iter
      | _ => false)
    | .whl _ t b => (match st with
      | .While t' b' [] _ => chkE n pn c t' t && chkB n pn c b' b
      | _ => false)
    | .app i e => (match st with
      | .Expr (.Call (.Attribute (.Name x _) m apos) [v] [] cpos) _ => decide (m = ("append" : Str)) && decide (c.N[i]? = some x) && visB c.sc x && chkE n pn c v e && nSt v && (apos.endLine == cpos.line)
      | _ => false)
    | .sto i a' b' => (match st with
      | .Assign [.Subscript (.Name x _) a _] b _ => decide (c.N[i]? = some x) && visB c.sc x && chkE n pn c a a' && chkE n pn c b b' && nSli a
      | _ => false)
    | .pop t i => (match st with
      | .Assign [tg] (.Call (.Attribute (.Name x _) m apos) [] [] cpos) _ => decide (m = ("pop" : Str)) && decide (c.N[i]? = some x) && visB c.sc x && nSt tg && chkT n c tg t && (apos.endLine == cpos.line) && swN c.sc tg (.Call (.Attribute (.Name x cpos) m apos) [] [] cpos)
      | _ => false)
    | .popE i => (match st with
      | .Expr (.Call (.Attribute (.Name x _) m apos) [] [] cpos) _ => decide (m = ("pop" : Str)) && decide (c.N[i]? = some x) && visB c.sc x && (apos.endLine == cpos.line)
      | _ => false)
    | .ext i e => (match st with
      | .Expr (.Call (.Attribute (.Name x _) m apos) [v] [] cpos) _ => decide (m = ("extend" : Str)) && decide (c.N[i]? = some x) && visB c.sc x && chkE n pn c v e && nSt v && (apos.endLine == cpos.line)
      | _ => false)
    | .frz _ => false
    | .stop => true
    | .rais c' as => (match st with
      | .Raise (some (.Call (.Name x _) (e :: es) [] _)) none _ => (match pn.xs.lookup c' with
        | some (y, ns) => decide (x = y) && glB c.sc x && chkA n pn c (e :: es) as && decide ((e :: es).length = ns.length)
        | none => false)
      | _ => false)
    | .tryK j e yes i => (match st with
      | .Try [.Assign [.Name x _] v _] [.ExceptHandler (some test) (some m) [.Assign [.Name y _] (.Name z _) _] _] [] [] _ => (c.lam || c.lv.isSome) && decide (m = z) && decide (c.N[j]? = some x) && decide (c.N[i]? = some y) && decide (m ∈ c.N) && decide (c.sc.names.lookup x = some .local) && decide (c.sc.names.lookup y = some .local) && decide (c.sc.names.lookup m = some .local) && nCmp v && chkE n pn (tryCtx c) v e && decide (m ≠ y) && (match testNs test with
        | some ys => pn.xi.any (fun q => decide (q.1 = ys) && decide (q.2.1 = yes)) && ys.all (glB c.sc)
        | none => false)
      | _ => false)
    | .pass => (match st with
      | .Pass _ => true
      | _ => false)
def chkB : Nat → PrN → Cxt → List Stmt → B → Bool
  | 0, _, _, _, _ => false
  | n + 1, pn, c, sts, b => match b with
    | .nil => sts.isEmpty
    | .cons (.frz _) b => chkB n pn c sts b
    | .cons s b => (match sts with
      | [] => false
      | st :: sts => chkS n pn c st s && chkB n pn c sts b)
end
section
variable {CX : CXT} {W : Wd} {pn : PrN} {p : Pr} {k : Nat} {kl : Calls} {c : Cxt} {Ew : XK} {X : Cx} {Hk0 H0 : Hp}
theorem loc_of (ok : Ok CX W pn p k kl c Ew X) {x : Str} (h : locB c x = true) : Loc X.env.scope x ∧ (X.fn x = true ∨ X.env.scope.names.lookup x = some .local) := by
  unfold locB at h
  unfold L2.Loc
  rw [ok.sc, ok.fn]
  revert h
  cases c.sc.names.lookup x with
  | none => intro h; cases h
  | some kd => cases kd <;> intro h <;> first | exact ⟨.inl rfl, .inr rfl⟩ | exact ⟨.inr rfl, .inl h⟩ | cases h
/-- a new list's expression, whatever its form -/
theorem snd_f (ok : Ok CX W pn p k kl c Ew X) {n : Nat} {v : Expr} {e : E} (hf : frE e = true) (h : chkE n pn c v e = true) : PE X v (tFf X.K W Ew (evE p.cs kl e)) ∧ ∀ Γ g d g', evE p.cs kl e Γ g = .ok d g' → isOb d = true := by
  induction n generalizing v with
  | zero => unfold chkE at h; cases h
  | succ n ih =>
    unfold chkE at h
    split at h
    · rename_i x hx
      obtain ⟨op, pos, rfl⟩ := one_some hx
      obtain ⟨q1, q2⟩ := ih h
      exact ⟨pe_one q1, q2⟩
    · cases e with
      | lst as =>
        dsimp only at h
        split at h
        · simp only [Bool.and_eq_true, decide_eq_true_eq] at h
          exact ⟨lst_snd (se_all n) ok h.1 h.2, fun Γ g d g' e => lst_shape e⟩
        · cases h
      | lc elt' t it cond =>
        dsimp only at h
        split at h
        · rename_i elt tg iter ifs z scope pos
          simp only [Bool.and_eq_true, decide_eq_true_eq] at h
          obtain ⟨⟨⟨⟨⟨⟨hz, hb⟩, hs⟩, ht⟩, hi⟩, hc⟩, he⟩ := h
          subst hz
          obtain ⟨wi, g, tt, te, own, q1, q2, q3, q4, q5, q6, q7⟩ := lc_snd (se_all n) ok hb hs ht hi hc he
          exact ⟨PE.imp (pe_lc ok.calm ok.nd q1 q2 q3 q4 q5 q6) q7, fun Γ g d g' e => lc_shape e⟩
        · cases h
      | cat a' b' =>
        dsimp only at h
        split at h
        · simp only [Bool.and_eq_true] at h
          have e2 : evE p.cs kl (.cat a' b') = catR (evE p.cs kl a') (evE p.cs kl b') := by funext Γ g; simp only [evE, catR] <;> rfl
          rw [e2]
          exact ⟨f_cat ((se_all n).e ok h.1) ((se_all n).e ok h.2), fun Γ g d g' e => cat_shape e⟩
        · cases h
      | rev a' =>
        dsimp only at h
        split at h
        · simp only [Bool.and_eq_true, decide_eq_true_eq] at h
          obtain ⟨rfl, h⟩ := h
          have e2 : evE p.cs kl (.rev a') = revR (evE p.cs kl a') := by funext Γ g; simp only [evE, revR] <;> rfl
          rw [e2]
          exact ⟨f_rev ((se_all n).e ok h), fun Γ g d g' e => rev_shape e⟩
        · cases h
      | dcp k' v' t it =>
        dsimp only at h
        split at h
        · rename_i kx vx tg iter ifs z scope pos hone
          simp only [Bool.and_eq_true, decide_eq_true_eq, List.isEmpty_iff] at h
          obtain ⟨⟨⟨⟨⟨⟨⟨hz, hif⟩, hb⟩, hs⟩, ht⟩, hi⟩, hk⟩, hv⟩ := h
          subst hz hif
          have bo : BlkOk X.N X.env.scope scope (ownOf c t) := by rw [ok.N, ok.sc]; exact blkOk_by hb
          have e2 : evE p.cs kl (.dcp k' v' t it) = fun Γ g => (evI p.cs kl it Γ g).bind fun xs g => dcR (dcF t (evE p.cs kl k') (evE p.cs kl v') Γ) xs (.dct [] []) g := by funext Γ g; simp only [evE]; rfl
          rw [e2]
          refine ⟨PE.imp (pe_dx (W := W) ok.calm ok.nd ok.un ok.w ((se_all n).i ok hi) bo (fun s H C cl' fp => (sndT (ok.blk s H scope cl' C fp) n).1 tg t ht) (fun s H C cl' fp => (se_all n).e (ok.blk s H scope cl' C fp) hk) (fun s H C cl' fp => (se_all n).e (ok.blk s H scope cl' C fp) hv) (set_of hs X.env)) (f_dcp (tg := tg) (iter := iter) (scope := scope) (own_map c t)), fun Γ g d g' e => ?_⟩
          obtain ⟨xs, g1, _, e⟩ := bind_ok e
          exact dcR_shape e
        · cases h
      | dnil =>
        dsimp only at h
        split at h
        · have e2 : evE p.cs kl .dnil = fun _ g => .ok (.dct [] []) g := by funext Γ g; simp only [evE]
          rw [e2]
          exact ⟨f_dnil, fun Γ g d g' e => by cases e; rfl⟩
        · cases h
      | lrng1 a' =>
        dsimp only at h
        split at h
        · rename_i f q1 r q2 a q3 q4 _
          simp only [Bool.and_eq_true, decide_eq_true_eq] at h
          obtain ⟨⟨⟨⟨⟨rfl, hg⟩, rfl⟩, hg2⟩, ha⟩, hn⟩ := h
          have e2 : evE p.cs kl (.lrng1 a') = lrng1R (evE p.cs kl a') := by funext Γ g; simp only [evE, lrng1R] <;> rfl
          rw [e2]
          exact ⟨f_lrng1 ok.calm (ok.gl hg) (ok.bn _ (by simp [bNames])) (ok.gl hg2) (ok.bn _ (by simp [bNames])) ((se_all n).e ok ha) (star_of hn _ _), fun Γ g d g' e => lrng1_shape e⟩
        · cases h
      | lrng2 a' b' =>
        dsimp only at h
        split at h
        · rename_i f q1 r q2 a b q3 q4 _
          simp only [Bool.and_eq_true, decide_eq_true_eq] at h
          obtain ⟨⟨⟨⟨⟨⟨⟨rfl, hg⟩, rfl⟩, hg2⟩, ha⟩, hn⟩, hb⟩, hn2⟩ := h
          have e2 : evE p.cs kl (.lrng2 a' b') = lrng2R (evE p.cs kl a') (evE p.cs kl b') := by funext Γ g; simp only [evE, lrng2R] <;> rfl
          rw [e2]
          exact ⟨f_lrng2 ok.calm (ok.gl hg) (ok.bn _ (by simp [bNames])) (ok.gl hg2) (ok.bn _ (by simp [bNames])) ((se_all n).e ok ha) ((se_all n).e ok hb) (star_of hn _ _) (star_of hn2 _ _) (by rw [star_of hn2]; rfl), fun Γ g d g' e => lrng2_shape e⟩
        · cases h
      | done k' v' =>
        dsimp only at h
        split at h
        · simp only [Bool.and_eq_true] at h
          have e2 : evE p.cs kl (.done k' v') = doneR (evE p.cs kl k') (evE p.cs kl v') := by funext Γ g; simp only [evE, doneR] <;> rfl
          rw [e2]
          exact ⟨f_done ok.un ok.w ((se_all n).e ok h.1) ((se_all n).e ok h.2), fun Γ g d g' e => done_shape e⟩
        · cases h
      | lstS as =>
        dsimp only at h
        split at h
        · have e2 : evE p.cs kl (.lstS as) = fun Γ g => (evA p.cs kl as Γ g).bind fun xs g => if xs.length ≤ 1000000 then .ok (.lst xs) g else .st := by funext Γ g; simp only [evE] <;> rfl
          rw [e2]
          exact ⟨f_lstS ((se_all n).as ok h), fun Γ g d g' e => lstS_shape e⟩
        · cases h
      | bi b as =>
        dsimp only at h
        split at h
        · rename_i x q es pos hone
          simp only [Bool.and_eq_true, decide_eq_true_eq] at h
          obtain ⟨⟨⟨rfl, hg⟩, ha⟩, hne⟩ := h
          have hn := (chkA_len (n := n) ha).1
          have e2 : evE p.cs kl (.bi b as) = fun Γ g => (evA p.cs kl as Γ g).bind fun xs g => lift (biD b xs) g := by funext Γ g; first | rfl | (simp only [evE]; done) | (simp only [evE]; rfl)
          rw [e2]
          have hm : X.mg (biN b) = none := ok.bn _ (by cases b <;> simp [biN, bNames])
          have sh : ∀ ds d, (b = .list ∨ b = .sorted ∨ b = .sortd) → biD b ds = some d → ∃ zs, d = .lst zs := fun ds d hb e => by
            rcases hb with rfl | rfl | rfl
            · exact list_shape _ _ e
            · exact sort_shape _ _ e
            · exact sortd_shape _ _ e
          have shape : (b = .list ∨ b = .sorted ∨ b = .sortd) → ∀ Γ g d g', ((evA p.cs kl as Γ g).bind fun xs g => lift (biD b xs) g) = .ok d g' → isOb d = true := fun hb Γ g d g' e => by
            obtain ⟨xs, g1, _, e⟩ := bind_ok e
            obtain ⟨zs, rfl⟩ := sh _ _ hb (lift_ok e).1
            rfl
          cases es with
          | nil => cases hne
          | cons a es =>
            simp only [nSts, Bool.and_eq_true] at hn
            cases b with
            | list => exact ⟨f_biT (fun ds d e => sh ds d (.inl rfl) e) (call_listF ok.calm) (ok.gl hg) hm (by decide +kernel) ((se_all n).a ok ha) (by decide) (by decide) (star_of hn.1 _ _) (back_of _ _ hn.2), shape (.inl rfl)⟩
            | sorted => exact ⟨f_biB (fun ds d e => sh ds d (.inr (.inl rfl)) e) call_sortF (ok.gl hg) hm (by decide +kernel) ((se_all n).a ok ha) (by decide) (by decide) (star_of hn.1 _ _) (back_of _ _ hn.2), shape (.inr (.inl rfl))⟩
            | sortd => exact ⟨f_biB (fun ds d e => sh ds d (.inr (.inr rfl)) e) (call_sortdF ok.un2) (ok.gl hg) hm (by decide +kernel) ((se_all n).a ok ha) (by decide) (by decide) (star_of hn.1 _ _) (back_of _ _ hn.2), shape (.inr (.inr rfl))⟩
            | _ => cases hf
        · cases h
      | _ => cases hf
/-- .. stored in a local name on its line -/
theorem snd_lcLoc (ok : Ok CX W pn p k kl c Ew X) (hk : c.sc.kind = .function) {n : Nat} {v : Expr} {e : E} {y : Str} {py pos : Pos} {i : Nat} (hl : lcLoc c y py v = true) (hN : c.N[i]? = some y) (h : chkE n pn c v e = true) :
    ∃ te, PS X (.Assign [.Name y py] v pos) (tAsg te (gName i)) ∧ (∀ σ H Q, tFf X.K W Ew (evE p.cs kl e) σ H Q → te σ H Q) ∧ ∀ Γ g d g', evE p.cs kl e Γ g = .ok d g' → isOb d = true := by
  unfold lcLoc at hl
  split at hl
  · rename_i elt gs scope lpos
    simp only [Bool.and_eq_true, decide_eq_true_eq, Bool.not_eq_true'] at hl
    cases n with
    | zero => unfold chkE at h; cases h
    | succ n =>
      unfold chkE at h
      split at h
      · rename_i x hx; cases hx
      · cases e with
        | lc elt' t it cond =>
          dsimp only at h
          split at h
          · rename_i elt2 tg iter ifs z scope2 pos2 e0
            cases e0
            simp only [Bool.and_eq_true, decide_eq_true_eq] at h
            obtain ⟨⟨⟨⟨⟨⟨hz, hb⟩, hs⟩, ht⟩, hi⟩, hc⟩, he⟩ := h
            subst hz
            obtain ⟨wi, g, tt, te, own, q1, q2, q3, q4, q5, q6, q7⟩ := lc_snd (se_all n) ok hb hs ht hi hc he
            refine ⟨_, ps_setLc ok.calm ok.nd (by rw [ok.N]; exact hN) (by rw [ok.sc]; exact hl.1.1) (sw_true (by rw [ok.sc]; exact hk) (by rw [ok.sc]; exact hl.1.1) hl.1.2 hl.2) q1 q2 q3 q4 q5 q6, q7, fun Γ g d g' e => lc_shape e⟩
          · cases h
        | _ => simp only at h; cases h
  · rename_i kx0 vx0 gs scope lpos
    simp only [Bool.and_eq_true, decide_eq_true_eq, Bool.not_eq_true'] at hl
    cases n with
    | zero => unfold chkE at h; cases h
    | succ n =>
      unfold chkE at h
      split at h
      · rename_i x hx; cases hx
      · cases e with
        | dcp k' v' t it =>
          dsimp only at h
          split at h
          · rename_i kx vx tg iter ifs z scope2 pos2 e0
            cases e0
            simp only [Bool.and_eq_true, decide_eq_true_eq, List.isEmpty_iff] at h
            obtain ⟨⟨⟨⟨⟨⟨⟨hz, hif⟩, hb⟩, hs⟩, ht⟩, hi⟩, hkk⟩, hv⟩ := h
            subst hz hif
            have bo : BlkOk X.N X.env.scope scope (ownOf c t) := by rw [ok.N, ok.sc]; exact blkOk_by hb
            have e2 : evE p.cs kl (.dcp k' v' t it) = fun Γ g => (evI p.cs kl it Γ g).bind fun xs g => dcR (dcF t (evE p.cs kl k') (evE p.cs kl v') Γ) xs (.dct [] []) g := by funext Γ g; simp only [evE]; rfl
            rw [e2]
            refine ⟨_, ps_setDx (W := W) ok.calm ok.nd ok.un ok.w (by rw [ok.N]; exact hN) (by rw [ok.sc]; exact hl.1.1) (sw_trueD (by rw [ok.sc]; exact hk) (by rw [ok.sc]; exact hl.1.1) hl.1.2 hl.2) ((se_all n).i ok hi) bo (fun s H C cl' fp => (sndT (ok.blk s H scope cl' C fp) n).1 tg t ht) (fun s H C cl' fp => (se_all n).e (ok.blk s H scope cl' C fp) hkk) (fun s H C cl' fp => (se_all n).e (ok.blk s H scope cl' C fp) hv) (set_of hs X.env), f_dcp (tg := tg) (iter := iter) (scope := scope) (own_map c t), fun Γ g d g' e => ?_⟩
            obtain ⟨xs, g1, _, e⟩ := bind_ok e
            exact dcR_shape e
          · cases h
        | dcp2 _ _ _ _ _ _ =>
          dsimp only at h
          split at h
          · rename_i e0
            simp only [Expr.DictComp.injEq, List.cons.injEq] at e0
            exact absurd e0.2.2.1.2 (by simp)
          · cases h
        | _ => simp only at h; cases h
  · cases hl
theorem tE_tF {f : Gm → G → R D} (hl : ∀ Γ g d g', f Γ g = .ok d g' → isOb d = true) : ∀ σ H Q, tE X.K W Ew f σ H Q → tFf X.K W Ew f σ H Q := fun σ H Q ⟨Hk0, H0, Γ, g, Hk, fr, h⟩ => ⟨Hk0, H0, Γ, g, Hk, fr, by
  cases r : f Γ g with
  | ok d g' =>
    rw [r] at h
    intro Hk' H' s dr p u hp hk hp' rl
    exact h _ H' (s.tell hp hp') dr (.ref p) ((rl.mono (Evl.Ex.new hk)).rp upd_same)
  | ex c ds g' => rw [r] at h; exact h
  | st => rw [r] at h; exact h⟩
theorem snd_P (ok : Ok CX W pn p k kl c Ew X) {n : Nat} {v : Expr} {e : E} {o : Bool} (ho : frB e o = true) (h : chkE n pn c v e = true) : PE X v (tP X.K W Ew o (evE p.cs kl e)) ∧ (o = true → ∀ Γ g d g', evE p.cs kl e Γ g = .ok d g' → isOb d = true) := by
  cases o with
  | false => exact ⟨(se_all n).e ok h, fun z => by cases z⟩
  | true =>
    have := snd_f ok (by simpa [frB] using ho) h
    exact ⟨this.1, fun _ => this.2⟩
end
end Bk
set_option Elab.async false
set_option linter.all false
set_option maxRecDepth 100000
set_option maxHeartbeats 4000000
namespace Bk
open PySem L2
open Evl (Ex ex_l ex_t)
section
variable {CX : CXT} {W : Wd} {pn : PrN} {p : Pr} {k : Nat} {kl : Calls} {c : Cxt} {Ew : XK} {X : Cx} {Hk0 H0 : Hp}
theorem par2_eq {cs : List (Nat × D)} {call : Calls} {i j : Nat} {o1 o2 : Bool} {a b : E} : evS cs call (.par [(i, o1), (j, o2)] (.cons a (.cons b .nil))) = parR2 i o1 j o2 (evE cs call a) (evE cs call b) := by
  funext Γ g
  simp only [evS, evA, parR2]
  cases evE cs call a Γ g with
  | ok x g1 =>
    simp only [R.bind]
    cases evE cs call b Γ g1 with
    | ok y g2 =>
      simp only [R.bind, parG]
      by_cases hi : i < Γ.length
      · rw [if_pos hi]
        simp only [List.length_set]
        by_cases hj : j < Γ.length
        · rw [if_pos hj, if_pos (show i < Γ.length ∧ j < Γ.length from ⟨hi, hj⟩)]; rfl
        · rw [if_neg hj, if_neg (show ¬ (i < Γ.length ∧ j < Γ.length) from fun z => hj z.2)]; rfl
      · rw [if_neg hi, if_neg (show ¬ (i < Γ.length ∧ j < Γ.length) from fun z => hi z.1)]; rfl
    | ex _ _ _ => rfl
    | st => rfl
  | ex _ _ _ => rfl
  | st => rfl
theorem par3_eq {cs : List (Nat × D)} {call : Calls} {i j l : Nat} {o1 o2 o3 : Bool} {a b d : E} : evS cs call (.par [(i, o1), (j, o2), (l, o3)] (.cons a (.cons b (.cons d .nil)))) = parR3 i o1 j o2 l o3 (evE cs call a) (evE cs call b) (evE cs call d) := by
  funext Γ g
  simp only [evS, evA, parR3]
  cases evE cs call a Γ g with
  | ok x g1 =>
    simp only [R.bind]
    cases evE cs call b Γ g1 with
    | ok y g2 =>
      simp only [R.bind]
      cases evE cs call d Γ g2 with
      | ok z g3 =>
        simp only [R.bind, parG]
        by_cases hi : i < Γ.length
        · rw [if_pos hi]
          simp only [List.length_set]
          by_cases hj : j < Γ.length
          · rw [if_pos hj]
            by_cases hl : l < Γ.length
            · rw [if_pos hl, if_pos (show i < Γ.length ∧ j < Γ.length ∧ l < Γ.length from ⟨hi, hj, hl⟩)]; rfl
            · rw [if_neg hl, if_neg (show ¬ (i < Γ.length ∧ j < Γ.length ∧ l < Γ.length) from fun z => hl z.2.2)]; rfl
          · rw [if_neg hj, if_neg (show ¬ (i < Γ.length ∧ j < Γ.length ∧ l < Γ.length) from fun z => hj z.2.1)]; rfl
        · rw [if_neg hi, if_neg (show ¬ (i < Γ.length ∧ j < Γ.length ∧ l < Γ.length) from fun z => hi z.1)]; rfl
      | ex _ _ _ => rfl
      | st => rfl
    | ex _ _ _ => rfl
    | st => rfl
  | ex _ _ _ => rfl
  | st => rfl
theorem asg1 {tg : Expr} (h : nSt tg = true) (env : Env) : (assignEach [tg] env).map (·.2) = [assign tg env] := by
  rw [asg_of h]; rfl
theorem sole_of {tg v : Expr} (h : nCmp v = true) (l : Nat) (env : Env) : swapsWithSole [tg] v l env = pure false := nCmp_of h _ _ _
theorem snd_asg (ok : Ok CX W pn p k kl c Ew X) (hk : c.sc.kind = .function) {n : Nat} {st : Stmt} {t : T} {e : E} (h : chkS (n + 1) pn c st (.asg t e) = true) : PS X st (tSt X.K W Ew Hk0 H0 (evS p.cs kl (.asg t e))) := by
  have e0 : evS p.cs kl (.asg t e) = fun Γ g => (evE p.cs kl e Γ g).bind fun x g => (lift (setT t x Γ) g).bind fun Γ' g => .ok (.nx Γ') g := by funext Γ g; simp only [evS]
  rw [e0]
  simp only [chkS] at h
  split at h
  · rename_i tg v pos
    simp only [Bool.and_eq_true] at h
    obtain ⟨⟨⟨h1, h2⟩, h3⟩, h4⟩ := h
    split at h4
    · rename_i hc
      exact s_asg ((se_all n).e ok h3) ((sndT ok n).1 _ _ h2) (sole_of hc _ _) (swN_of ok.sc hk h4) (asg1 h1 _)
    · split at h4
      · rename_i y py i
        cases n with
        | zero => cases h2
        | succ n =>
        have h2' := h2
        simp only [chkT, Bool.and_eq_true, decide_eq_true_eq] at h2
        simp only [Bool.or_eq_true] at h4
        rcases h4 with h4 | h4
        · obtain ⟨te, q1, q2, q3⟩ := snd_lcLoc (pos := pos) ok hk h4 h2.1 h3
          exact s_asgL q1 fun σ H Q z => q2 σ H Q (tE_tF q3 σ H Q z)
        · simp only [lcCell, Bool.and_eq_true, decide_eq_true_eq] at h4
          refine s_asg ((se_all (n + 1)).e ok h3) ((sndT ok (n + 1)).1 _ _ h2') (show swapsWithSole [.Name y py] v pos.line _ = pure false from sw_cell ok.sc h4.1 v py pos.line) (swN_of ok.sc hk (tg := .Name y py) rfl) (asg1 h1 _)
      · cases h4
  · cases h
theorem snd_own (ok : Ok CX W pn p k kl c Ew X) (hk : c.sc.kind = .function) {n : Nat} {st : Stmt} {i : Nat} {e : E} (h : chkS (n + 1) pn c st (.own i e) = true) : PS X st (tSt X.K W Ew Hk0 H0 (evS p.cs kl (.own i e))) := by
  have e0 : evS p.cs kl (.own i e) = ownR i (evE p.cs kl e) := by funext Γ g; simp only [evS, ownR] <;> rfl
  rw [e0]
  simp only [chkS] at h
  split at h
  · rename_i y py v pos
    simp only [Bool.and_eq_true, Bool.or_eq_true, decide_eq_true_eq] at h
    obtain ⟨⟨⟨⟨h1, h2⟩, h3⟩, h4⟩, h5⟩ := h
    rcases h5 with (h5 | h5) | h5
    · obtain ⟨l1, l2⟩ := loc_of ok h2
      exact s_own (ps_set ok.nd (by rw [ok.N]; exact h1) l1 (snd_f ok h3 h4).1 (nCmp_of h5 _ _ _) l2) fun σ H Q z => z
    · obtain ⟨te, q1, q2, q3⟩ := snd_lcLoc (pos := pos) ok hk h5 h1 h4
      exact s_own q1 q2
    · simp only [lcCell, Bool.and_eq_true, decide_eq_true_eq] at h5
      obtain ⟨l1, l2⟩ := loc_of ok h2
      exact s_own (ps_set ok.nd (by rw [ok.N]; exact h1) l1 (snd_f ok h3 h4).1 (sw_cell ok.sc h5.1 _ _ _) l2) fun σ H Q z => z
  · cases h
theorem snd_par (ok : Ok CX W pn p k kl c Ew X) (hk : c.sc.kind = .function) {n : Nat} {st : Stmt} {ts : List (Nat × Bool)} {as : A} (h : chkS (n + 1) pn c st (.par ts as) = true) : PS X st (tSt X.K W Ew Hk0 H0 (evS p.cs kl (.par ts as))) := by
  simp only [chkS] at h
  split at h
  · split at h
    · simp only [Bool.and_eq_true, decide_eq_true_eq] at h
      obtain ⟨⟨⟨⟨⟨⟨⟨⟨⟨h1, h2⟩, h3⟩, hh⟩, n1⟩, n2⟩, c1⟩, c2⟩, f1⟩, f2⟩ := h
      obtain ⟨p1, l1⟩ := snd_P ok f1 c1
      obtain ⟨p2, l2⟩ := snd_P ok f2 c2
      rw [par2_eq]
      simp only [Bool.or_eq_true, Bool.and_eq_true, decide_eq_true_eq] at hh
      rcases hh with hh | hh
      rotate_left
      · obtain ⟨⟨b1, b2⟩, h6⟩ := hh
        obtain ⟨k1, m1⟩ := loc_of ok b1
        obtain ⟨k2, m2⟩ := loc_of ok b2
        exact s_parT2 l1 l2 (ps_asg (pe_tup (pa_cons p1 (pa_cons p2 pa_nil (star_of n2 _ _)) (star_of n1 _ _))) (pg_tup (n := 2) ok.calm (pgs_cons (pg_name ok.nd (by rw [ok.N]; exact h1) k1 m1) (pgs_cons (pg_name ok.nd (by rw [ok.N]; exact h2) k2 m2) pgs_nil))) rfl (sw_of ok.sc hk h6))
      obtain ⟨⟨h4, h5⟩, h6⟩ := hh
      exact s_par2 l1 l2 (ps_par ok.calm ok.nd (by rw [ok.N]; exact h1) (by rw [ok.N]; exact h2) h3 (by rw [ok.sc]; exact h4) (by rw [ok.sc]; exact h5) (pa_cons p1 (pa_cons p2 pa_nil (star_of n2 _ _)) (star_of n1 _ _)) (sw_of ok.sc hk h6))
    · simp only [Bool.and_eq_true, decide_eq_true_eq] at h
      obtain ⟨⟨⟨⟨⟨⟨⟨⟨⟨⟨⟨⟨⟨⟨⟨h1, h2⟩, h3⟩, d1⟩, d2⟩, d3⟩, hh⟩, n1⟩, n2⟩, n3⟩, c1⟩, c2⟩, c3⟩, f1⟩, f2⟩, f3⟩ := h
      obtain ⟨p1, l1⟩ := snd_P ok f1 c1
      obtain ⟨p2, l2⟩ := snd_P ok f2 c2
      obtain ⟨p3, l3⟩ := snd_P ok f3 c3
      rw [par3_eq]
      simp only [Bool.or_eq_true, Bool.and_eq_true, decide_eq_true_eq] at hh
      rcases hh with hh | hh
      rotate_left
      · obtain ⟨⟨⟨b1, b2⟩, b3⟩, h6⟩ := hh
        obtain ⟨k1, m1⟩ := loc_of ok b1
        obtain ⟨k2, m2⟩ := loc_of ok b2
        obtain ⟨k3, m3⟩ := loc_of ok b3
        exact s_parT3 l1 l2 l3 (ps_asg (pe_tup (pa_cons p1 (pa_cons p2 (pa_cons p3 pa_nil (star_of n3 _ _)) (star_of n2 _ _)) (star_of n1 _ _))) (pg_tup (n := 3) ok.calm (pgs_cons (pg_name ok.nd (by rw [ok.N]; exact h1) k1 m1) (pgs_cons (pg_name ok.nd (by rw [ok.N]; exact h2) k2 m2) (pgs_cons (pg_name ok.nd (by rw [ok.N]; exact h3) k3 m3) pgs_nil)))) rfl (sw_of ok.sc hk h6))
      obtain ⟨⟨⟨k1, k2⟩, k3⟩, h6⟩ := hh
      exact s_par3 l1 l2 l3 (ps_par3 ok.calm ok.nd (by rw [ok.N]; exact h1) (by rw [ok.N]; exact h2) (by rw [ok.N]; exact h3) d1 d2 d3 (by rw [ok.sc]; exact k1) (by rw [ok.sc]; exact k2) (by rw [ok.sc]; exact k3) (pa_cons p1 (pa_cons p2 (pa_cons p3 pa_nil (star_of n3 _ _)) (star_of n2 _ _)) (star_of n1 _ _)) (sw_of ok.sc hk h6))
    · cases h
  · cases h
structure SS (CX : CXT) (W : Wd) (pn : PrN) (p : Pr) (k : Nat) (kl : Calls) (n : Nat) : Prop where
  s : ∀ {c : Cxt} {Ew : XK} {X : Cx} {Hk0 H0 : Hp}, Ok CX W pn p k kl c Ew X → c.sc.kind = .function → ∀ {st : Stmt} {s : S}, chkS n pn c st s = true → PS X st (tSt X.K W Ew Hk0 H0 (evS p.cs kl s))
  b : ∀ {c : Cxt} {Ew : XK} {X : Cx} {Hk0 H0 : Hp}, Ok CX W pn p k kl c Ew X → c.sc.kind = .function → ∀ {st : List Stmt} {b : B}, chkB n pn c st b = true → PSs X st (tSt X.K W Ew Hk0 H0 (evB p.cs kl b))
theorem snd_s {n : Nat} (ih : SS CX W pn p k kl n) (ok : Ok CX W pn p k kl c Ew X) (hk : c.sc.kind = .function) {st : Stmt} {s : S} (h : chkS (n + 1) pn c st s = true) : PS X st (tSt X.K W Ew Hk0 H0 (evS p.cs kl s)) := by
  have ie := se_all (CX := CX) (W := W) (pn := pn) (p := p) (k := k) (kl := kl) n
  cases s with
  | asg t e => exact snd_asg ok hk h
  | own i e => exact snd_own ok hk h
  | par ts as => exact snd_par ok hk h
  | expr e =>
    have e0 : evS p.cs kl (.expr e) = fun Γ g => (evE p.cs kl e Γ g).bind fun _ g => .ok (.nx Γ) g := by funext Γ g; simp only [evS]
    rw [e0]
    simp only [chkS] at h
    split at h
    · simp only [Bool.and_eq_true] at h
      exact s_expr (ie.e ok h.2) (nCmp_of h.1 _ _ _)
    · cases h
  | aug i e =>
    have e0 : evS p.cs kl (.aug i e) = augR i (evE p.cs kl e) := by funext Γ g; simp only [evS, augR] <;> rfl
    rw [e0]
    simp only [chkS] at h
    split at h
    · simp only [Bool.and_eq_true, decide_eq_true_eq] at h
      obtain ⟨l1, l2⟩ := loc_of ok h.1.2
      exact s_aug (ps_aug ok.nd (by rw [ok.N]; exact h.1.1) l1 (ie.e ok h.2) ip_add l2)
    · cases h
  | ret e =>
    have e0 : evS p.cs kl (.ret e) = fun Γ g => (evE p.cs kl e Γ g).bind fun x g => .ok (.rt x) g := by funext Γ g; simp only [evS]
    simp only [chkS] at h
    split at h
    · rw [e0]; exact s_ret (ie.e ok h)
    · split at h
      · have e1 : evS p.cs kl (.ret (.cst .non)) = fun Γ g => R.bind (R.ok D.non g) fun x g => .ok (.rt x) g := by funext Γ g; simp only [evS, evE]
        rw [e1]
        exact s_retN
      · cases h
    · cases h
  | ife t a b =>
    have e0 : evS p.cs kl (.ife t a b) = fun Γ g => (blR (evE p.cs kl t Γ g)).bind fun k' g => if k' then evB p.cs kl a Γ g else evB p.cs kl b Γ g := by funext Γ g; simp only [evS]
    rw [e0]
    simp only [chkS] at h
    split at h
    · simp only [Bool.and_eq_true] at h
      exact s_if (ie.t ok h.1.1) (ih.b ok hk h.1.2) (ih.b ok hk h.2)
    · cases h
  | for_ t it b =>
    have e0 : evS p.cs kl (.for_ t it b) = fun Γ g => (evI p.cs kl it Γ g).bind fun xs g => forR (fun x Γ g => (lift (setT t x Γ) g).bind fun Γ' g => evB p.cs kl b Γ' g) xs Γ g := by funext Γ g; simp only [evS]
    rw [e0]
    simp only [chkS] at h
    split at h
    · simp only [Bool.and_eq_true] at h
      exact s_for ok.own ok.calm (ie.i ok h.1.1.2) ((sndT ok n).1 _ _ h.1.1.1) (ih.b ok hk h.1.2) (set_of h.2 _)
    · cases h
  | whl m t b =>
    have e0 : evS p.cs kl (.whl m t b) = fun Γ g => whlR (fun Γ g => blR (evE p.cs kl t Γ g)) (fun Γ g => evB p.cs kl b Γ g) m Γ g := by funext Γ g; simp only [evS]
    rw [e0]
    simp only [chkS] at h
    split at h
    · simp only [Bool.and_eq_true] at h
      exact s_while m ok.own (ie.t ok h.1) (ih.b ok hk h.2)
    · cases h
  | app i e =>
    have e0 : evS p.cs kl (.app i e) = appR i (evE p.cs kl e) := by funext Γ g; simp only [evS, appR] <;> rfl
    rw [e0]
    simp only [chkS] at h
    split at h
    · rename_i x px m apos v cpos pos
      simp only [Bool.and_eq_true, decide_eq_true_eq] at h
      obtain ⟨⟨⟨⟨⟨rfl, h1⟩, h2⟩, h3⟩, h4⟩, h5⟩ := h
      have hN : X.N[i]? = some x := by rw [ok.N]; exact h1
      have hx := ok.nm x (List.mem_of_getElem? hN)
      exact s_app (pe_var hN (by rw [ok.sc]; exact vis_of h2) (okN1 hx) (okN2 hx)) (ie.e ok h3) h4 h5 (nCmp_of rfl _ _ _)
    · cases h
  | sto i a' b' =>
    have e0 : evS p.cs kl (.sto i a' b') = stoR i (evE p.cs kl a') (evE p.cs kl b') := by funext Γ g; simp only [evS, stoR] <;> rfl
    rw [e0]
    simp only [chkS] at h
    split at h
    · rename_i x px a tp b pos
      simp only [Bool.and_eq_true, decide_eq_true_eq] at h
      obtain ⟨⟨⟨⟨h1, h2⟩, h3⟩, h4⟩, h5⟩ := h
      have hN : X.N[i]? = some x := by rw [ok.N]; exact h1
      have hx := ok.nm x (List.mem_of_getElem? hN)
      have pv := pe_var (X := X) (pos := px) hN (by rw [ok.sc]; exact vis_of h2) (okN1 hx) (okN2 hx)
      exact s_sto pv (ie.e ok h3) (ie.e ok h4) (by cases b <;> rfl) (by cases b <;> rfl) (pg_sub pv (ie.e ok h3) (set_O ok.un ok.w) (by cases a <;> first | (intro v; rfl) | cases h5))
    · cases h
  | pop t i =>
    have e0 : evS p.cs kl (.pop t i) = popR t i := by funext Γ g; simp only [evS, popR] <;> rfl
    rw [e0]
    simp only [chkS] at h
    split at h
    · rename_i tg x px m apos cpos pos
      simp only [Bool.and_eq_true, decide_eq_true_eq] at h
      obtain ⟨⟨⟨⟨⟨⟨rfl, h1⟩, h2⟩, h3⟩, h4⟩, h5⟩, h6⟩ := h
      have hN : X.N[i]? = some x := by rw [ok.N]; exact h1
      have hx := ok.nm x (List.mem_of_getElem? hN)
      exact s_pop (pe_var hN (by rw [ok.sc]; exact vis_of h2) (okN1 hx) (okN2 hx)) ((sndT ok n).1 _ _ h4) h5 (sole_of rfl _ _) (swN_of ok.sc hk (by unfold swN at h6 ⊢; exact h6)) (asg1 h3 _)
    · cases h
  | ext i e =>
    have e0 : evS p.cs kl (.ext i e) = extR i (evE p.cs kl e) := by funext Γ g; simp only [evS, extR] <;> rfl
    rw [e0]
    simp only [chkS] at h
    split at h
    · rename_i x px m apos v cpos pos
      simp only [Bool.and_eq_true, decide_eq_true_eq] at h
      obtain ⟨⟨⟨⟨⟨rfl, h1⟩, h2⟩, h3⟩, h4⟩, h5⟩ := h
      have hN : X.N[i]? = some x := by rw [ok.N]; exact h1
      have hx := ok.nm x (List.mem_of_getElem? hN)
      exact s_ext (pe_var hN (by rw [ok.sc]; exact vis_of h2) (okN1 hx) (okN2 hx)) (ie.e ok h3) h4 h5 (nCmp_of rfl _ _ _)
    · cases h
  | popE i =>
    have e0 : evS p.cs kl (.popE i) = popER i := by funext Γ g; simp only [evS, popER] <;> rfl
    rw [e0]
    simp only [chkS] at h
    split at h
    · rename_i x px m apos cpos pos
      simp only [Bool.and_eq_true, decide_eq_true_eq] at h
      obtain ⟨⟨⟨rfl, h1⟩, h2⟩, h3⟩ := h
      have hN : X.N[i]? = some x := by rw [ok.N]; exact h1
      have hx := ok.nm x (List.mem_of_getElem? hN)
      exact s_popE (pe_var hN (by rw [ok.sc]; exact vis_of h2) (okN1 hx) (okN2 hx)) h3 (nCmp_of rfl _ _ _)
    · cases h
  | frz i => simp only [chkS] at h; cases h
  | stop =>
    have e0 : evS p.cs kl .stop = fun _ _ => .st := by funext Γ g; simp only [evS]
    rw [e0]; exact s_stop
  | rais c' as =>
    have e0 : evS p.cs kl (.rais c' as) = fun Γ g => (evA p.cs kl as Γ g).bind fun ds g => .ex c' ds g := by funext Γ g; simp only [evS]
    rw [e0]
    simp only [chkS] at h
    split at h
    · split at h
      · rename_i y ns hx
        simp only [Bool.and_eq_true, decide_eq_true_eq] at h
        obtain ⟨⟨⟨rfl, h1⟩, h2⟩, h3⟩ := h
        obtain ⟨q1, q2⟩ := chkA_len (n := 0) h2
        exact s_rais ok hx h1 (ie.a ok h2) q1 fun Γ g ds g' e => by rw [q2 _ _ _ _ _ _ e, h3]
      · cases h
    · cases h
  | tryK j e yes i =>
    have e0 : evS p.cs kl (.tryK j e yes i) = tryR (evE p.cs kl e) j yes i := by funext Γ g; simp only [evS, tryR] <;> rfl
    rw [e0]
    simp only [chkS] at h
    split at h
    · rename_i x p1 v p2 test m y p3 z p4 p5 p6 p7
      simp only [Bool.and_eq_true, decide_eq_true_eq, Bool.or_eq_true] at h
      obtain ⟨⟨⟨⟨⟨⟨⟨⟨⟨⟨⟨h1, rfl⟩, h2⟩, h3⟩, h4⟩, h5⟩, h6⟩, h7⟩, h8⟩, h9⟩, h10⟩, h11⟩ := h
      split at h11
      · rename_i ys hys
        simp only [Bool.and_eq_true, List.any_eq_true, decide_eq_true_eq, List.all_eq_true] at h11
        obtain ⟨⟨q, hq, e1, e2⟩, hgl⟩ := h11
        obtain ⟨q1, q2, q3⟩ := q
        simp only at e1 e2
        subst e1 e2
        obtain ⟨cvs, pr, fx⟩ := ok.xi _ _ _ hq
        have ht : TestX X test (cvs.map vV) := test_of ok hys hgl pr
        have htr := ok.tr (by rcases h1 with z | z; exact .inl z; exact .inr (fun q => by rw [q] at z; cases z))
        obtain ⟨im, him⟩ := List.getElem?_of_mem h4
        exact s_tryK htr.1 htr.2.1 htr.2.2 ok.nd ht (fun c C ns hx hy => ((fx c C ns hx).1 hy).1) ok.kk (by rw [ok.N]; exact him) (by show X.env.scope.names.lookup _ = _; rw [ok.sc]; exact h7) (by rw [ok.N]; exact h2) (by show X.env.scope.names.lookup _ = _; rw [ok.sc]; exact h5) (by rw [ok.N]; exact h3) (by show X.env.scope.names.lookup _ = _; rw [ok.sc]; exact h6) (fun z => h10 z) (okN1 (ok.nm _ (by rw [ok.N]; exact h4))) (okN2 (ok.nm _ (by rw [ok.N]; exact h4))) (nCmp_of h8 _ _ _) fun pn' xe' E' tk own => ie.e (ok.try_ tk own) h9
      · cases h11
    · cases h
  | pass =>
    have e0 : evS p.cs kl .pass = fun Γ g => .ok (.nx Γ) g := by funext Γ g; simp only [evS]
    rw [e0]
    simp only [chkS] at h
    split at h
    · exact s_pass
    · cases h
theorem snd_b {n : Nat} (ih : SS CX W pn p k kl n) (ok : Ok CX W pn p k kl c Ew X) (hk : c.sc.kind = .function) {sts : List Stmt} {b : B} (h : chkB (n + 1) pn c sts b = true) : PSs X sts (tSt X.K W Ew Hk0 H0 (evB p.cs kl b)) := by
  cases b with
  | nil =>
    simp only [chkB] at h
    cases sts with
    | nil =>
      have e0 : evB p.cs kl .nil = fun Γ g => .ok (.nx Γ) g := by funext Γ g; simp only [evB]
      rw [e0]; exact s_nil
    | cons _ _ => cases h
  | cons s b =>
    have e0 : evB p.cs kl (.cons s b) = seqR (evS p.cs kl s) (evB p.cs kl b) := by funext Γ g; simp only [evB, seqR] <;> rfl
    rw [e0]
    by_cases hf : ∃ i, s = .frz i
    · obtain ⟨i, rfl⟩ := hf
      have e1 : evS p.cs kl (.frz i) = frzR i := by funext Γ g; simp only [evS, frzR] <;> rfl
      rw [e1]
      simp only [chkB] at h
      exact s_frz (ih.b ok hk h)
    · cases sts with
      | nil => cases s <;> first | (simp only [chkB] at h; cases h) | exact absurd ⟨_, rfl⟩ hf
      | cons st sts =>
        have h2 : chkS n pn c st s = true ∧ chkB n pn c sts b = true := by
          cases s <;> first | (simp only [chkB, Bool.and_eq_true] at h; exact h) | exact absurd ⟨_, rfl⟩ hf
        exact s_cons (ih.s ok hk h2.1) (ih.b ok hk h2.2)
theorem ss_all : ∀ n, SS CX W pn p k kl n
  | 0 => ⟨fun _ _ _ _ h => (by unfold chkS at h; cases h), fun _ _ _ _ h => (by unfold chkB at h; cases h)⟩
  | n + 1 => by
    have ih := ss_all n
    exact ⟨fun ok hk _ _ h => snd_s ih ok hk h, fun ok hk _ _ h => snd_b ih ok hk h⟩
end
end Bk
set_option Elab.async false
set_option linter.all false
set_option maxRecDepth 100000
set_option maxHeartbeats 4000000
set_option pp.maxSteps 800
namespace Bk
open PySem PySem.Spec PyProof.Rows L2 LamX
open Evl (Ex ex_l ex_t)
theorem lam1_is {a : Arguments} {y : Str} (h : lam1 a = some y) : ∃ p, a = ⟨[], [⟨y, none, p⟩], none, [], [], none, []⟩ := by
  unfold lam1 at h
  split at h
  · cases h; exact ⟨_, rfl⟩
  · cases h
section
variable {X : Cx} {pins : List (Addr × Obj)} {σ : L2.St} {H : Hp} {s : Shared}
theorem Lam1.has {N : List Str} {scope : Scope} {y : Str} (L : Lam1 N X.env.scope scope y) (ok : X.Ok) : ∀ z ∈ scope.names, z.2 = .free → ∃ c, X.env.cells.lookup z.1 = some c := fun z hz e => (L.free z hz e).elim (fun k => ok.has _ (.inl k)) fun k => ok.has _ (.inr k)
theorem lam_mk1 {T : List (Addr × Str)} {c P : Addr} {params : Arguments} {y : Str} {body : Expr} {scope : Scope} {pos : Pos} {E : Value → Shared → Prop} {Q : Value → Shared → Prop} (I : L2.Inv X pins σ H s) (TB : TabB X.base X.mg c P) (hcode : X.env.code = .ref c)
    (hm : (P, X.env.qual ++ "<lambda>") ∈ T) (hu : ∀ p ∈ T, p.1 = P → p.2 = X.env.qual ++ "<lambda>") (hT : Tabs T H) (hp : lam1 params = some y) (hfree : ∀ z ∈ scope.names, z.2 = .free → ∃ c, X.env.cells.lookup z.1 = some c)
    (h : ∀ (f c' : Addr) (H1 : Hp) (s' : Shared), L2.Inv X pins σ H1 s' → ExtN H H1 → TIn H H1 → Tabs T H1 → LamAt X params body scope f c' H1 s' → (∀ b o, H b = none → s.heap.get? b = some o → s'.heap.get? b = some o ∧ H1 b = none) → Q (.ref f) s') :
    wpAny (model X.prog X.w) X.A (eval (.Lambda params body scope pos) X.env) Q E s := by
  obtain ⟨pp, rfl⟩ := lam1_is hp
  refine PySem.W.kla_eval rfl ?_
  rw [makeFunction_eq]
  simp only [List.zip_nil_right, List.filterMap_nil, List.isEmpty_nil, if_true, pure_bind]
  exact lam_tail I TB hcode hm hu hT hfree fun f c' pm ctv doc H1 s' I1 eN tI T1 hf hfn hfr hco kk => h f c' H1 s' I1 eN tI T1 ⟨⟨pm, ctv, doc, .none, hf, .inl ⟨rfl, rfl⟩⟩, hfn, hfr, hco⟩ kk
/-- its body begins, the parameter in the slot i -/
theorem lam_go1 {y : Str} {i : Nat} {v : V} {u : Value} {s1 : Shared} {HZ : Hp} {A : Around} {outer : List Env} {E : XK} {scope : Scope} {f c' : Addr} {h1 : Heap} {tk : Nat} {m : Str → Option Value} (I : L2.Inv X pins σ H s) (nd : X.N.Nodup) (hi : X.N[i]? = some y) (L : Lam1 X.N X.env.scope scope y) (e0 : Env0 X.prog X.w X.K X.mg X.base A outer s1 HZ) (hd : A.handled = none)
    (un : Un (frs X.stack) [] H HZ s.heap s1.heap) (hns : h1.Ns s1.heap.objs.size m) (hmy : m y = some u) (rv : RelV v u) (kp : ∀ b o, s1.heap.get? b = some o → h1.get? b = some o) :
    L2.Inv (lamCx X A outer s1 HZ E scope f c') [] (σ.set i (some v)) HZ { s1 with heap := h1, toks := tk } := by
  have hfree := L.has I.ok
  have toX : ∀ {z : Str} {c : Addr}, (cloFrom X.env.cells scope.names []).lookup z = some c → X.env.cells.lookup z = some c := by
    intro z c e
    rcases cloFrom_mem (PySem.mem_of_lookup e) with q | ⟨q1, q2⟩
    · cases q
    · obtain ⟨c1, q⟩ := hfree _ q1 rfl
      have q : X.env.cells.lookup z = some c1 := q
      have : c = c1 := by rw [q2, q] <;> rfl
      rw [this]; exact q
  have ofFree : ∀ {z : Str}, scope.names.lookup z = some .free → ∃ c, (cloFrom X.env.cells scope.names []).lookup z = some c := by
    intro z e
    exact mem_lookup (cloFrom_has (cells := X.env.cells) (acc := []) (PySem.mem_of_lookup e))
  have cellH : ∀ {c : Addr} {w : Option Value}, H c = none → s.heap.IsCell c w → h1.IsCell c w := by
    rintro c w n ⟨o, ho, hdd⟩
    obtain ⟨sl, q⟩ := un.any ho n (by simp)
    exact ⟨_, kp _ _ q, hdd⟩
  have noEx : ∀ b : Addr, b ∉ (lamCx X A outer s1 HZ E scope f c').ex := fun b z => absurd (show b ∈ ([] : List Addr) from z) (by simp)
  have cellN : ∀ z, scope.names.lookup z ≠ some .cell := fun z q => L.nc _ (PySem.mem_of_lookup q) rfl
  constructor
  · refine ⟨e0.mod, L.kind, rfl, rfl, Nat.le_refl _, fun z1 z2 c e1 e2 => I.ok.inj z1 z2 c (toX e1) (toX e2), ?_, ?_, fun _ => hd, Around.frames_deeper e0.frames, .inr ⟨rfl, rfl⟩, fun b z => absurd z (noEx b), e0.bs, e0.bsz, fun b _ _ => noEx b, fun b z => absurd z (noEx b), e0.funs, e0.frf⟩
    · intro z hz
      have hz : scope.names.lookup z = some .cell ∨ scope.names.lookup z = some .free := hz
      rcases hz with hz | hz
      · exact absurd hz (cellN z)
      · exact ofFree hz
    · intro z c q _
      have q : false = true := q
      cases q
  · rfl
  · exact e0.bare
  · exact Un.kept kp
  · refine ⟨_, hns, fun j x w e1 e2 e3 => ?_⟩
    have e3 : Vis scope x := e3
    have e1 : X.N[j]? = some x := e1
    by_cases hj : j = i
    · subst hj
      have hxy : x = y := by rw [hi] at e1; exact (Option.some.inj e1).symm
      subst hxy
      have hlt : j < σ.length := by
        have := (List.getElem?_eq_some_iff.mp e2).1
        rwa [List.length_set] at this
      rw [List.getElem?_set_self hlt] at e2
      have : w = v := (Option.some.inj (Option.some.inj e2)).symm
      subst this
      exact ⟨u, rv, .inl ⟨L.par, hmy⟩⟩
    · rw [List.getElem?_set_ne (fun z => hj z.symm)] at e2
      have hxy : x ≠ y := fun z => by
        subst z
        have l1 := (List.getElem?_eq_some_iff.mp e1).1
        exact hj ((List.getElem?_inj l1 nd).mp (e1.trans hi.symm))
      rcases e3 with k | k | k
      · rcases L.loc _ (PySem.mem_of_lookup k) rfl with q | q
        · exact absurd q hxy
        · exact absurd (List.mem_of_getElem? e1) q
      · exact absurd k (cellN x)
      · obtain ⟨mm, hn, hl⟩ := I.loc
        have hvis : Vis X.env.scope x := (L.free _ (PySem.mem_of_lookup k) rfl).elim (fun k => .inr (.inl k)) (fun k => .inr (.inr k))
        obtain ⟨w', r, q⟩ := hl j x w e1 e2 hvis
        obtain ⟨c2, h2⟩ := ofFree k
        refine ⟨w', r, .inr ⟨.inr k, c2, h2, ?_⟩⟩
        have c1 := toX h2
        rcases q with ⟨k', _⟩ | ⟨_, c3, e', z⟩
        · have k' : X.env.scope.names.lookup x = some .local := k'
          rcases L.free _ (PySem.mem_of_lookup k) rfl with k2 | k2
          · rw [show X.env.scope.names.lookup x = _ from k2] at k'; cases k'
          · rw [show X.env.scope.names.lookup x = _ from k2] at k'; cases k'
        · rw [c1] at e'
          cases e'
          exact cellH (I.freeC x _ c1) z
  · intro z c e
    obtain ⟨w', q⟩ := I.cell z c (toX e)
    exact ⟨w', cellH (I.freeC z c (toX e)) q⟩
  · exact e0.hok.fresh (Nat.le_refl _)
  · intro z c e
    obtain ⟨w, o, ho, hdd⟩ := I.cell z c (toX e)
    exact un.free c o ho (I.freeC z c (toX e)) (by simp)
  · intro q hq
    exact absurd (show q ∈ ([] : List (Addr × Obj)) ++ [] from hq) (by simp)
  · exact e0.hok.kept kp
  · rw [List.length_set]; exact I.len
end
/-- what is not owned stays known -/
theorem gm_noOwn {K : PySem.W.Frag} {W : Wd} {Hk H Hk' H' : Hp} {Γ : Gm} {σ : L2.St} {os : List Addr} (h : GmR K W Hk H Γ σ os) (e : Ex Hk Hk') : GmR K W Hk' H' (noOwn Γ) σ [] := by
  induction h with
  | nil => exact .nil
  | no o _ ih => exact .no o ih
  | val r _ ih => exact .val (r.mono e) ih
  | own _ _ _ ih => exact .no _ ih
/-- what a lambda tells of an argument, in the maker's frame Γ -/
def lamS (i : Nat) (ev : Gm → G → R D) (Γ : Gm) (d : D) (g : G) : R D := if noFn d then plainR (ev ((noOwn Γ).set i (.val d)) g) else .st
theorem plainR_ok {r : R D} {d : D} {g : G} (h : plainR r = .ok d g) : r = .ok d g ∧ noFn d = true := by
  unfold plainR at h
  obtain ⟨a, g1, e, h⟩ := nox_ok h
  split at h
  · rename_i hn
    cases h
    exact ⟨e, hn⟩
  · cases h
theorem plainR_noex {r : R D} {c : Nat} {ds : List D} {g : G} : plainR r ≠ .ex c ds g := by
  intro h
  unfold plainR at h
  cases r with
  | ok a g1 =>
    have h : (if noFn a then R.ok a g1 else .st) = .ex c ds g := h
    split at h <;> cases h
  | ex _ _ _ => cases h
  | st => cases h
theorem lamS_noex {i : Nat} {ev : Gm → G → R D} {Γ : Gm} {d : D} {g : G} {c : Nat} {ds : List D} {g' : G} : lamS i ev Γ d g ≠ .ex c ds g' := by
  unfold lamS
  split
  · exact plainR_noex
  · intro h; cases h
theorem bind1 (q y : Str) (pp : Pos) (body : Expr) (scope : Scope) (cl : List (Str × Addr)) (doc pm cv ctv u : Value) : bindArgs (PySem.W.kdv_fn "<lambda>" q ⟨[], [⟨y, none, pp⟩], none, [], [], none, []⟩ (.expr body) scope cl .none doc pm cv ctv) ⟨[u], []⟩ = pure [(y, u)] := by
  have e : ([(y, u)] : List (Str × Value)).lookup y = some u := by simp [List.lookup]
  have e2 : seqItems? Value.none = (pure none : Sem (Option (Array Value))) := rfl
  unfold bindArgs
  simp [PySem.W.kdv_fn, e, e2]
section
variable {X : Cx} {pins : List (Addr × Obj)} {σ : L2.St} {H : Hp} {s : Shared} {W W' : Wd} {Hk0 H0 Hk : Hp} {Γ : Gm} {g0 : G}
/-- the def that got the lambda calls it: a(arg) -/
theorem pe_act1 {CXg : CXT} {E : XK} {Ng : List Str} {qg : Str} {sg : Scope} {gf f c' : Addr} {cdg : Value} {params : Arguments} {y : Str} {body : Expr} {scope : Scope} {r i j : Nat} {a : Str} {p1 p2 : Pos} {arg : Expr} {fa : Gm → G → R D} {ev : Gm → G → R D}
    (I : L2.Inv X pins σ H s) (nd : X.N.Nodup) (hi : X.N[i]? = some y) (L : Lam1 X.N X.env.scope scope y) (hp : lam1 params = some y) (F : LamAt X params body scope f c' H s) (hgd : X.A.guards = some []) (fr : Fr X.K W Hk0 H0 Γ g0 σ Hk H) (sim : WSim W W') (hlf : W'.lf = f) (hhc : W'.hc = Hk) (hhh : W'.hh = H) (hct : ∀ q ∈ W.tb, c' ≠ q.1) (hcm : c' ≠ W.am ∧ c' ≠ W.ac ∧ c' ≠ W.ag)
    (hx : Passes (L2.CX X.prog X.w) (cxOf CXg X.prog X.w X.K X.mg X.base Ng qg sg gf cdg X.A X.stack s H E) E) (hr : Room (r + 1) (X.A.deeper (envOfC qg sg s.heap.objs.size gf cdg)))
    (hbody : ∀ {A : Around} {outer : List Env} {s : Shared} {H : Hp} {E : XK} {f c' : Addr}, Room r (A.deeper (lamEnv X scope s.heap.objs.size f c')) → (A.deeper (lamEnv X scope s.heap.objs.size f c')).guards = some [] → PE (lamCx X A outer s H E scope f c') body (tE X.K W E ev))
    (hN : Ng[j]? = some a) (hv : Vis sg a) (hdb : (a == ("__debug__" : Str)) = false) (hcd : (a == ("__classdict__" : Str)) = false) (hna : nSt arg = true)
    (ha : PE (cxOf CXg X.prog X.w X.K X.mg X.base Ng qg sg gf cdg X.A X.stack s H E) arg (tE X.K W' E fa)) :
    PE (cxOf CXg X.prog X.w X.K X.mg X.base Ng qg sg gf cdg X.A X.stack s H E) (.Call (.Name a p1) [arg] [] p2) (tE X.K W' E fun Γ1 g1 => match Γ1[j]? with
      | some (.val .fn) => (fa Γ1 g1).bind fun d g => lamS i ev Γ d g
      | _ => .st) := by
  refine ⟨fun pinsZ sZ σZ HZ Q IZ h => ?_⟩
  obtain ⟨Hk0Z, H0Z, Γ1, g1, HkZ, frZ, h⟩ := h
  cases ej : Γ1[j]? with
  | none => simp only [ej] at h; exact h.elim
  | some sl =>
  cases sl with
  | no => simp only [ej] at h; exact h.elim
  | own _ => simp only [ej] at h; exact h.elim
  | val d0 =>
  cases d0 <;> (try (simp only [ej] at h; exact h.elim))
  simp only [ej] at h
  obtain ⟨osZ, slZ, ndZ, hoZ⟩ := frZ.sl
  obtain ⟨vf, hσ, hvf⟩ := slZ.val_at ej
  have hvf : vf = .ref W'.lf := hvf
  rw [hlf] at hvf
  subst hvf
  obtain ⟨⟨pm, ctv, doc, dV, of, hdv⟩, hfn, hfr, hco⟩ := F
  refine wpAny_Call_Name_kw (thn ((pe_var (pos := p1) (i := j) hN hv hdb hcd).run pinsZ sZ σZ HZ (fun v H1 => v = .ref f ∧ H1 = HZ) IZ ⟨.ref f, hσ, rfl, rfl⟩) fun u s1 ⟨v, H1, I1, r1, q1⟩ => ?_)
  obtain ⟨ev1, eH⟩ := q1
  subst ev1
  rw [eH] at I1
  obtain rfl : u = Value.ref f := r1
  have keep : ∀ {σ2 : L2.St} {H2 : Hp} {s2 : Shared}, L2.Inv (cxOf CXg X.prog X.w X.K X.mg X.base Ng qg sg gf cdg X.A X.stack s H E) pinsZ σ2 H2 s2 → ∀ b o, s.heap.get? b = some o → H b = none → b ∉ frs X.stack → s2.heap.get? b = some o := fun J b o e n nf => J.base.keep b o e n nf (fun z => nomatch (show b ∈ ([] : List Addr) from z))
  refine PySem.W.callWith_F ⟨_, _, _, _, keep I1 f _ of hfn hfr⟩ ?_ (star_of hna _ _) (by rfl)
  have hb : backTo p2 (starEach [arg] (cxOf CXg X.prog X.w X.K X.mg X.base Ng qg sg gf cdg X.A X.stack s H E).env) = (false, eval arg (cxOf CXg X.prog X.w X.K X.mg X.base Ng qg sg gf cdg X.A X.stack s H E).env) :: [] := by
    rw [star_of hna]; rfl
  rw [hb]
  refine Calls.spliced_cons (thn (ha.run pinsZ s1 σZ HZ (fun v H1 => ∃ d g2 Hk2, Fin W' E Hk2 H1 (lamS i ev Γ d g2) (fun d _ Hk' H' => ∀ v, Rp X.K W' Hk' d v → Q v H') ∧ Wk W' g2 Hk2 H1 ∧ Rp X.K W' Hk2 d v) I1 ?_) fun u2 s2 ⟨v2, H2, I2, r2, q2⟩ => Calls.spliced_nil ⟨⟨_, _, _, _, keep I2 f _ of hfn hfr⟩, ?_⟩)
  · exact seqE frZ h fun v d g' Hk' H' fr' _ r kq => ⟨d, g', Hk', kq, fr'.wk, r⟩
  obtain ⟨d, g2, Hk2, h2, wk2, rp2⟩ := q2
  have hnd : noFn d = true := by
    cases e : noFn d with
    | true => rfl
    | false => unfold lamS at h2; rw [e] at h2; exact h2.elim
  have sim' : WSim W' W := ⟨sim.am.symm, sim.ac.symm, sim.ag.symm, sim.w.symm, sim.k.symm, sim.tb.symm, sim.xc.symm⟩
  have hex : Ex Hk Hk2 := by have := wk2.hc; rw [hhc] at this; exact this
  have hH : ∀ b o, H b = some o → W'.out b → H2 b = some o := by have := wk2.hh; rw [hhh] at this; exact this
  have outc : W'.out c' := sim.out.mpr ⟨hcm.1, hcm.2.1, hcm.2.2, hct⟩
  have hc2 : H2 c' = some (CodeO c' (X.env.qual ++ "<lambda>")) := hH _ _ hco outc
  have wkL : Wk W g2 Hk2 H2 := sim'.wk wk2 (fr.wk.hc.trans hex) fun b o e ho => hH b o (fr.wk.hh b o e ho) (sim.out.mpr ho)
  obtain ⟨osX, slX, _⟩ := fr.sl
  have of1 := keep I2 f _ of hfn hfr
  have un : Un (frs X.stack) [] H H2 s.heap s2.heap := I2.base
  obtain ⟨⟨oc, vs, t, hoc, hdc, hvc⟩, _, _⟩ := I2.hok c' _ hc2
  obtain ⟨pp, rfl⟩ := lam1_is hp
  have hdV : dV = .none := by
    rcases hdv with z | ⟨T, v, z1, z0, _⟩
    · exact z.1
    · exact absurd rfl z0
  subst hdV
  have hbd : BindsTo s2 (PySem.W.kdv_fn "<lambda>" (X.env.qual ++ "<lambda>") ⟨[], [⟨y, none, pp⟩], none, [], [], none, []⟩ (.expr body) scope (cloFrom X.env.cells scope.names []) .none doc pm (.ref c') ctv) ⟨[u2], []⟩ [(y, u2)] := BindsTo.of_eq (bind1 ..)
  have rc : codeAny (model X.prog X.w) (X.A.deeper (envOfC qg sg s.heap.objs.size gf cdg)) (.call (.ref f) ⟨[u2], []⟩) (CR (L2.CX X.prog X.w) (envOfC qg sg s.heap.objs.size gf cdg :: X.stack) X.prog X.w H2 s2 Q E) s2 := by
    refine PySem.W.kla_callFunE hr.depth of1 rfl L.co L.gen rfl ⟨c', oc, vs, t, rfl, hoc, hdc, hvc⟩ (hbd _ _ _ _ ?_)
    refine wpAny_newFunctionEnv L.nc (fun z hz => by simp only [List.mem_singleton] at hz; subst hz; exact L.par) (fun h1 hns hsb => ⟨I2.nolimit.fresh _ hsb, ?_⟩) L.kind
    show codeAny _ _ (.expr body (lamEnv X scope s2.heap.objs.size f c')) _ _
    have kp : ∀ b o, s2.heap.get? b = some o → h1.get? b = some o := fun b o e => hsb.extBut b o (Nat.ne_of_lt (Heap.lt_size e)) (Heap.get?_push_of_some _ e)
    have J := lam_go1 (A := X.A.deeper (envOfC qg sg s.heap.objs.size gf cdg)) (outer := envOfC qg sg s.heap.objs.size gf cdg :: X.stack) (E := E) (f := f) (c' := c') (tk := s2.toks + 1) I nd hi L I2.env0 hr.hd un hns (by simp [List.lookup]) r2 kp
    have fl : Fr X.K W Hk2 H2 ((noOwn Γ).set i (.val d)) g2 (σ.set i (some v2)) Hk2 H2 := by
      obtain ⟨os', g1, g2'⟩ := (gm_noOwn (H' := H2) slX hex).set i ((Rp.sim sim hnd).mp rp2)
      exact ⟨wkL, Step.refl wkL.ex, ⟨os', g1, List.nodup_nil.sublist g2', fun p hp => absurd (g2'.subset hp) (by simp)⟩, wkL.hh⟩
    have hfin : Fin W E Hk2 H2 (ev ((noOwn Γ).set i (.val d)) g2) (fun d _ Hk' H' => ∀ v, Rp X.K W Hk' d v → Q v H') := by
      cases el : lamS i ev Γ d g2 with
      | st => rw [el] at h2; exact h2.elim
      | ex c ds g' => exact absurd el lamS_noex
      | ok d' g' =>
        rw [el] at h2
        unfold lamS at el
        rw [hnd] at el
        obtain ⟨e1, e2⟩ := plainR_ok el
        exact Fin.of_ok e1 fun Hk' H' s' dr v r => h2 Hk' H' (sim.step.mpr s') (sim.draw.mpr dr) v ((Rp.sim sim e2).mpr r)
    refine PySem.W.kla_codeExpr (wpAny_mono ((hbody (hr.deeper _) (by rw [guards_deeper, guards_deeper]; exact hgd)).run [] _ _ H2 Q J ⟨_, _, _, _, _, fl, hfin⟩) (fun v s' hq => ?_) fun e s' hq => hq)
    obtain ⟨w', H', J', rv, q⟩ := hq
    exact ⟨w', H', J'.os, J'.bare, J'.base, J'.hok, rv, q⟩
  refine wpAny_call (codeAny_mono rc fun r s' hq => ?_)
  rcases r with e | (u | _ | _ | _)
  · exact hx pinsZ σZ H2 s2 e s' I2 hq
  · exact False.elim hq
  · exact False.elim hq
  · exact False.elim hq
  · exact I2.after hq
end
end Bk
set_option Elab.async false
set_option linter.all false
set_option maxRecDepth 100000
set_option maxHeartbeats 4000000
set_option pp.maxSteps 800
namespace Bk
open PySem PySem.Spec PyProof.Rows L2 LamX
open Evl (Ex ex_l ex_t)
section
variable {X : Cx} {W : Wd} {Ew : XK}
theorem nsts_app {es rest : List Expr} (h : nSts es = true) (h2 : nSts rest = true) : nSts (es ++ rest) = true := by
  induction es with
  | nil => exact h2
  | cons e es ih =>
    simp only [nSts, Bool.and_eq_true] at h
    simp only [List.cons_append, nSts, Bool.and_eq_true]
    exact ⟨h.1, ih h.2⟩
theorem Pes.nsts {es : List Expr} {fs : Gm → G → R (List D)} (h : Pes X W Ew es fs) : nSts es = true := by
  induction h with
  | nil => rfl
  | cons hn _ _ ih => simp only [nSts, Bool.and_eq_true]; exact ⟨hn, ih⟩
theorem pes_run {es : List Expr} {fs : Gm → G → R (List D)} (h : Pes X W Ew es fs) (hx : X.xe = X.xe) {β : Type} {kk : β → G → Hp → Hp → Prop} {rest : List Expr} {pos : Pos} {pins : List (Addr × Obj)} {σ : L2.St} {Hk0 H0 : Hp} {Γ : Gm} :
    ∀ {k : List D → G → R β} {g : G} {Hk H : Hp} {s : Shared} {Q' : List Value → Shared → Prop}, L2.Inv X pins σ H s → Fr X.K W Hk0 H0 Γ g σ Hk H → Fin W Ew Hk H ((fs Γ g).bind k) kk →
    (∀ us vs ds g' Hk' H' s', L2.Inv X pins σ H' s' → Fr X.K W Hk0 H0 Γ g' σ Hk' H' → Step W Hk H Hk' H' → Vals vs us → RpL X.K W Hk' ds vs → Fin W Ew Hk' H' (k ds g') kk → wpAny (model X.prog X.w) X.A (spliced (backTo pos (starEach rest X.env))) (fun ws s2 => Q' (us ++ ws) s2) X.xe s') →
    wpAny (model X.prog X.w) X.A (spliced (backTo pos (starEach (es ++ rest) X.env))) Q' X.xe s := by
  induction h with
  | nil => intro k g Hk H s Q' I fr h hk; exact hk [] [] [] g Hk H s I fr (Step.refl fr.wk.ex) .nil rfl h
  | @cons e es fe fs hn he _ ih =>
    intro k g Hk H s Q' I fr h hk
    rw [List.cons_append, star_of hn]
    show wpAny _ _ (spliced ((false, eval e X.env) :: backTo pos (starEach (es ++ rest) X.env))) _ _ s
    rw [bind_as] at h
    refine Calls.spliced_cons (thn (he.run pins s σ H (fun v H1 => ∃ d g1 Hk1, Fr X.K W Hk0 H0 Γ g1 σ Hk1 H1 ∧ Step W Hk H Hk1 H1 ∧ Rp X.K W Hk1 d v ∧ Fin W Ew Hk1 H1 (((fs Γ g1).bind fun xs g => .ok (d :: xs) g).bind k) kk) I ?_) fun u s1 ⟨v, H1, I1, r1, d, g1, Hk1, fr1, st1, rp1, h1⟩ => ?_)
    · exact seqE fr h fun v d g' Hk' H' fr' st r kq => ⟨d, g', Hk', fr', st, r, kq⟩
    · rw [bind_as] at h1
      refine ih (k := fun xs g => k (d :: xs) g) I1 fr1 h1 fun us vs ds g' Hk' H' s' I' fr' st' rv rp h' => ?_
      exact hk (u :: us) (v :: vs) (d :: ds) g' Hk' H' s' I' fr' (st1.trans st') (.cons r1 rv) ⟨v, vs, rfl, rp1.mono st'.k, rp⟩ h'
theorem vals_app {vs : List V} {us : List Value} (h : Vals vs us) {v : V} {u : Value} (r : RelV v u) : Vals (vs ++ [v]) (us ++ [u]) := by
  induction h with
  | nil => exact .cons r .nil
  | cons a _ ih => exact .cons a ih
theorem vals_len {vs : List V} {us : List Value} (h : Vals vs us) : vs.length = us.length := by
  induction h with
  | nil => rfl
  | cons _ _ ih => simp [ih]
theorem rpl_app {K : PySem.W.Frag} {H : Hp} : ∀ {ds : List D} {vs : List V} {d : D} {v : V}, RpL K W H ds vs → Rp K W H d v → RpL K W H (ds ++ [d]) (vs ++ [v])
  | [], vs, d, v, h, r => by
    have h : vs = [] := h
    subst h
    exact ⟨v, [], rfl, r, rfl⟩
  | e :: ds, vs, d, v, h, r => by
    obtain ⟨y, ys, rfl, h1, h2⟩ := h
    exact ⟨y, ys ++ [v], rfl, h1, rpl_app h2 r⟩
end
theorem gm_no {K : PySem.W.Frag} {W : Wd} {Hk H : Hp} : ∀ m, GmR K W Hk H (List.replicate m Slot.no) (List.replicate m none) []
  | 0 => .nil
  | m + 1 => .no none (gm_no m)
theorem gm_start {K : PySem.W.Frag} {W : Wd} {Hk H : Hp} {m : Nat} : ∀ {ds : List D} {vs : List V}, RpL K W Hk ds vs → GmR K W Hk H (ds.map Slot.val ++ List.replicate m Slot.no) (vs.map some ++ List.replicate m none) []
  | [], vs, h => by
    have h : vs = [] := h
    subst h
    exact gm_no m
  | d :: ds, vs, h => by
    obtain ⟨y, ys, rfl, h1, h2⟩ := h
    exact .val h1 (gm_start h2)
/-- a def of the text that gets a function last, held against its compact form -/
structure LsOk (pn : PrN) (K : PySem.W.Frag) (mg : Str → Option Value) (x : Str) (df : Df) (a : Addr) (fd : FuncData) (ps : List Str) : Prop where
  ex : ∃ (params : Arguments) (body : List Stmt) (scope : Scope) (N : List Str) (n : Nat) (y : Str) (j : Nat), FunD K x x params body scope [] [] a fd ∧ FnScope N ps scope ∧ (∀ y ∈ N, okN y = true) ∧ chkB n pn ⟨N, scope, fun _ => true, false, some (y, j)⟩ body df.body = true ∧ df.np = ps.length ∧ df.nn = N.length ∧ N[j]? = some y ∧ y ∈ ps ∧ j < 1000
  nm : okN x = true
  mg : mg x = some (.ref a)
  bd : Binds K fd ps []
section
variable {P : Program} {w : World} {K : PySem.W.Frag} {mg : Str → Option Value} {base : Heap} {pn : PrN} {p : Pr} {W : Wd}
theorem lamfn_ok {X : Cx} {k f : Nat} {x : Str} {df : Df} {a : Addr} {fd : FuncData} {ps : List Str} (hP : X.prog = P) (hw : X.w = w) (hK : X.K = K) (hM : X.mg = mg) (hB : X.base = base) (nd : X.N.Nodup)
    (hroom : Room (4 * (k + 1) + 5) X.A) (hgd : X.A.guards = some [])
    (lm : ∃ c0 P, X.env.code = .ref c0 ∧ LamX.TabB X.base X.mg c0 P ∧ (P, X.env.qual ++ "<lambda>") ∈ W.tb ∧ ∀ p ∈ W.tb, p.1 = P → p.2 = X.env.qual ++ "<lambda>")
    (e : p.ds.lookup f = some df) (d : LsOk pn K mg x df a fd ps)
    (hok : ∀ (W' : Wd) (lam : D → G → R D) {N ps : List Str} {qual : Str} {scope : Scope} {a : Addr} {cdv : Value} {A : Around} {outer : List Env} {s : Shared} {H : Hp} {E : XK} {y : Str} {j : Nat}, WSim W W' → FnScope N ps scope → (∀ y ∈ N, okN y = true) →
      Room (4 * k + 5) (A.deeper (envOfC qual scope s.heap.objs.size a cdv)) → (A.deeper (envOfC qual scope s.heap.objs.size a cdv)).guards = some [] →
      (∀ {z : Expr} {fa : Gm → G → R D} {p1 p2 : Pos}, nSt z = true → PE (cxOf (L2.CX P w) P w K mg base N qual scope a cdv A outer s H E) z (tE K W' E fa) → PE (cxOf (L2.CX P w) P w K mg base N qual scope a cdv A outer s H E) (.Call (.Name y p1) [z] [] p2) (tE K W' E fun Γ g => match Γ[j]? with
        | some (.val .fn) => (fa Γ g).bind fun d g => ovr (den p k) lam LAM [d] g
        | _ => .st)) →
      j < 1000 → Ok (L2.CX P w) W' pn p k (ovr (den p k) lam) ⟨N, scope, fun _ => true, false, some (y, j)⟩ E (cxOf (L2.CX P w) P w K mg base N qual scope a cdv A outer s H E)) :
    ∀ {c : Cxt} {Ew : XK} {es : List Expr} {fs : Gm → G → R (List D)} {params : Arguments} {body : Expr} {scope : Scope} {y : Str} {i : Nat} {q lp pos : Pos} {ev : Gm → G → R D},
      Passes (L2.CX X.prog X.w) X Ew → X.N = c.N → X.env.scope = c.sc → Gl X x → Pes X W Ew es fs → lam1 params = some y → c.N[i]? = some y → okN y = true → Lam1 c.N c.sc scope y →
      (∀ {A : Around} {outer : List Env} {s : Shared} {H : Hp} {E : XK} {f c' : Addr}, Room (4 * (k + 1) + 3) (A.deeper (LamX.lamEnv X scope s.heap.objs.size f c')) → (A.deeper (LamX.lamEnv X scope s.heap.objs.size f c')).guards = some [] → PE (LamX.lamCx X A outer s H E scope f c') body (tE X.K W E ev)) →
      PE X (.Call (.Name x q) (es ++ [.Lambda params body scope lp]) [] pos) (tE X.K W Ew fun Γ g => (fs Γ g).bind fun xs g => if noFns xs && decide (i < Γ.length) then plainR ((den p (k + 1)).l f xs (fun d g => if noFn d then plainR (ev ((noOwn Γ).set i (.val d)) g) else .st) g) else .st) := by
  intro c Ew es fs lparams lbody lscope y i q lp pos ev hx hN hsc hgl hpes hp hi oky L hbody
  subst hP hw hK hM hB
  obtain ⟨params, body, scope, N, n, ya, j, F, S, hNk, hc, h1, h2, hNj, hya, hj5⟩ := d.ex
  have kp := F.kp
  obtain ⟨oc, od, dV, kV, doc, pm, an, cdv, ct, osl, rfl, lk, hcd, _, _⟩ := F.ex
  obtain ⟨c0, P0, hc0, TB, hm0, hu0⟩ := lm
  have L' : Lam1 X.N X.env.scope lscope y := by rw [hN, hsc]; exact L
  refine ⟨fun pins s σ H Q I h => ?_⟩
  obtain ⟨Hk0, H0, Γ, g, Hk, fr, h⟩ := h
  refine wpAny_Call_Name_kw (ld_glob I hgl d.mg ?_ (okN1 d.nm))
  have hns : nSts (es ++ [.Lambda lparams lbody lscope lp]) = true := nsts_app hpes.nsts rfl
  obtain ⟨e0, rest, he0⟩ : ∃ e0 rest, es ++ [.Lambda lparams lbody lscope lp] = e0 :: rest := by
    cases hz : es ++ [Expr.Lambda lparams lbody lscope lp] with
    | nil => simp at hz
    | cons a b => exact ⟨a, b, rfl⟩
  rw [he0] at hns ⊢
  simp only [nSts, Bool.and_eq_true] at hns
  refine PySem.W.callWith_K (h₀ := X.base) I.ok.mod.kin kp ?_ (star_of hns.1 _ _) (back_of _ _ hns.2)
  rw [← he0]
  refine pes_run hpes rfl I fr h fun us vs ds g1 Hk1 H1 s1 I1 fr1 st1 rv1 rp1 h1' => ?_
  show wpAny _ _ (spliced ((false, eval (.Lambda lparams lbody lscope lp) X.env) :: [])) _ _ s1
  refine Calls.spliced_cons (lam_mk1 I1 TB hc0 hm0 hu0 fr1.wk.dr.tab hp (L'.has I1.ok) fun fL c' H2 s2 I2 eN tI T1 FL _ => ?_)
  refine Calls.spliced_nil ⟨I2.kIn, ?_⟩
  have st2 : Step W Hk1 H1 Hk1 H2 := Step.lam fr1.wk.ex fr1.wk.dr fr1.wk.tk eN T1
  have fr2 := fr1.step st2 (fr1.wk.dr.lam eN tI T1)
  have h2' := Fin.step st2 h1'
  have hfn : noFns ds = true ∧ i < Γ.length := by
    cases hz : (noFns ds && decide (i < Γ.length)) with
    | false => rw [hz] at h2'; exact h2'.elim
    | true => simpa using hz
  rw [hfn.1, decide_eq_true hfn.2] at h2'
  have h2' : Fin W Ew Hk1 H2 (plainR ((den p (k + 1)).l f ds (lamS i ev Γ) g1)) _ := h2'
  obtain ⟨dr, gr, er, hdn, hq⟩ : ∃ d g', (den p (k + 1)).l f ds (lamS i ev Γ) g1 = .ok d g' ∧ noFn d = true ∧ ∀ Hk' H', Step W Hk1 H2 Hk' H' → DrawAt W g' H' → ∀ v, Rp X.K W Hk' d v → Q v H' := by
    cases ez : plainR ((den p (k + 1)).l f ds (lamS i ev Γ) g1) with
    | st => rw [ez] at h2'; exact h2'.elim
    | ex _ _ _ => exact absurd ez plainR_noex
    | ok d g' =>
      rw [ez] at h2'
      obtain ⟨z1, z2⟩ := plainR_ok ez
      exact ⟨d, g', z1, z2, h2'⟩
  have eden : (den p (k + 1)).l f ds (lamS i ev Γ) g1 = (if ds.length + 1 = df.np ∧ df.np ≤ df.nn then endR (evB p.cs (ovr (den p k) (lamS i ev Γ)) df.body (startG df.nn (ds ++ [.fn])) g1) else .st) := by
    conv => lhs; unfold den
    simp only [e]
  rw [eden] at er
  have hln : ds.length + 1 = df.np ∧ df.np ≤ df.nn := by
    by_cases hz : ds.length + 1 = df.np ∧ df.np ≤ df.nn
    · exact hz
    · rw [if_neg hz] at er; cases er
  rw [if_pos hln] at er
  have hlv : (vs ++ [V.ref fL]).length = ps.length := by
    rw [List.length_append, rp1.len, ← h1, ← hln.1]; rfl
  have hlu : (us ++ [Value.ref fL]).length = ps.length := by
    rw [← hlv, vals_len (vals_app rv1 (v := .ref fL) (u := .ref fL) rfl)]
  let W' : Wd := { W with lf := fL, hc := Hk1, hh := H2 }
  have sim : WSim W W' := ⟨rfl, rfl, rfl, rfl, rfl, rfl, rfl⟩
  have wk' : Wk W' g1 Hk1 H2 := sim.wk fr2.wk (Ex.refl _) fun b o e _ => e
  have rpA : RpL X.K W' Hk1 (ds ++ [.fn]) (vs ++ [.ref fL]) := rpl_app ((RpL.sim sim hfn.1).mpr rp1) rfl
  have hcn : (∀ q ∈ W.tb, c' ≠ q.1) ∧ c' ≠ W.am ∧ c' ≠ W.ac ∧ c' ≠ W.ag := by
    refine ⟨fun q hq => ?_, ne_of FL.code fr2.wk.dr.m (by intro z; cases z), ne_of FL.code fr2.wk.dr.c (by intro z; cases z), ne_of FL.code fr2.wk.dr.gr (by intro z; cases z)⟩
    obtain ⟨ps', e1, _⟩ := fr2.wk.dr.tab q hq
    exact ne_of FL.code e1 (by intro z; cases z)
  have rc : codeAny (model X.prog X.w) X.A (.call (.ref a) ⟨us ++ [.ref fL], []⟩) (CR (L2.CX X.prog X.w) X.stack X.prog X.w H2 s2 Q Ew) s2 := by
    refine run_ofS (k := 4 * (k + 1) + 4) (N := N) (ps := ps) (us := us ++ [.ref fL]) (vs := vs ++ [.ref fL]) lk hcd S hroom I2.env0 (by have := d.bd s2 (us ++ [.ref fL]) I2.kIn (by rw [List.append_nil]; exact hlu); rw [List.append_nil] at this; exact this) (vals_app rv1 (v := .ref fL) (u := .ref fL) rfl) hlv fun hr' => ?_
    have hg' : (X.A.deeper (envOfC x scope s2.heap.objs.size a cdv)).guards = some [] := by rw [guards_deeper]; exact hgd
    have ok := hok W' (lamS i ev Γ) (qual := x) (a := a) (cdv := cdv) (A := X.A) (outer := X.stack) (s := s2) (H := H2) (E := Ew) (y := ya) (j := j) sim S hNk (hr'.mono (by omega)) hg' (fun {z fa p1 p2} hnz hpz => ?_) hj5
    · refine ⟨_, (ss_all n).b (Hk0 := Hk1) (H0 := H2) ok S.kind hc, Hk1, startG N.length (ds ++ [.fn]), g1, Hk1, ⟨wk', Step.refl wk'.ex, ⟨[], ?_, List.nodup_nil, fun p hp => absurd hp (by simp)⟩, wk'.hh⟩, Ex.refl _, ?_⟩
      · unfold startG L2.start
        rw [rpA.len]
        exact gm_start rpA
      · rw [h2] at er
        cases eb : evB p.cs (ovr (den p k) (lamS i ev Γ)) df.body (startG N.length (ds ++ [.fn])) g1 with
        | ok fl g' =>
          rw [eb] at er
          cases fl with
          | nx Γ' =>
            cases er
            exact fun σ' Hk' H' fr' _ => hq Hk' H' (sim.step.mp fr'.en) (sim.draw.mp fr'.wk.dr) .non rfl
          | rt dd =>
            cases er
            exact fun v Hk' H' st dr r => hq Hk' H' (sim.step.mp st) (sim.draw.mp dr) v ((Rp.sim sim hdn).mp r)
        | ex c es g' => rw [eb] at er; cases er
        | st => rw [eb] at er; cases er
    · have hp1 := pe_act1 (CXg := L2.CX X.prog X.w) (E := Ew) (W := W) (W' := W') (r := 4 * (k + 1) + 3) (i := i) (j := j) (a := ya) (p1 := p1) (p2 := p2) (arg := z) (fa := fa) (ev := ev) I2 nd (by rw [hN]; exact hi) L' hp FL hgd fr2 sim rfl rfl rfl hcn.1 hcn.2 (passes_call (takes_of rfl rfl rfl rfl) fun _ _ _ _ h => h) hr' (fun hr hg => hbody hr hg) hNj ((S.par ya hya).elim (fun q => .inl q) fun q => .inr (.inl q)) (okN1 (hNk _ (List.mem_of_getElem? hNj))) (okN2 (hNk _ (List.mem_of_getElem? hNj))) hnz hpz
      refine PE.imp hp1 fun σ' H' Q' ⟨Hk0', H0', Γ', g', Hk', fr', h'⟩ => ⟨Hk0', H0', Γ', g', Hk', fr', ?_⟩
      have ee : ∀ d g, (ovr (den p k) (lamS i ev Γ)).f LAM [d] g = lamS i ev Γ d g := fun d g => rfl
      simp only [ee] at h'
      exact h'
  refine wpAny_call (codeAny_mono rc fun r s3 hq => ?_)
  rcases r with e | (_ | _ | _ | u)
  · exact hx pins σ H2 s2 e s3 I2 hq
  · exact False.elim hq
  · exact False.elim hq
  · exact False.elim hq
  · exact I2.after hq
theorem lamfn_zero {X : Cx} {f : Nat} {x : Str} {df : Df} {a : Addr} {fd : FuncData} {ps : List Str} (hK : X.K = K) (hM : X.mg = mg) (d : LsOk pn K mg x df a fd ps) {Ew : XK} {es : List Expr} {fs : Gm → G → R (List D)} {lparams : Arguments} {lbody : Expr} {lscope : Scope} {i : Nat} {q lp pos : Pos} {F : D → G → R D} (hgl : Gl X x) (hpes : Pes X W Ew es fs)
    {lm : Gm → D → G → R D} : PE X (.Call (.Name x q) (es ++ [.Lambda lparams lbody lscope lp]) [] pos) (tE X.K W Ew fun Γ g => (fs Γ g).bind fun xs g => if noFns xs && decide (i < Γ.length) then plainR ((den p 0).l f xs (lm Γ) g) else .st) := by
  subst hK hM
  obtain ⟨params, body, scope, N, n, ya, j, F, S, hNk, hc, h1, h2, hNj, hya, hj5⟩ := d.ex
  have kp := F.kp
  refine ⟨fun pins s σ H Q I h => ?_⟩
  obtain ⟨Hk0, H0, Γ, g, Hk, fr, h⟩ := h
  refine wpAny_Call_Name_kw (ld_glob I hgl d.mg ?_ (okN1 d.nm))
  have hns : nSts (es ++ [.Lambda lparams lbody lscope lp]) = true := nsts_app hpes.nsts rfl
  obtain ⟨e0, rest, he0⟩ : ∃ e0 rest, es ++ [.Lambda lparams lbody lscope lp] = e0 :: rest := by
    cases hz : es ++ [Expr.Lambda lparams lbody lscope lp] with
    | nil => simp at hz
    | cons a b => exact ⟨a, b, rfl⟩
  rw [he0] at hns ⊢
  simp only [nSts, Bool.and_eq_true] at hns
  refine PySem.W.callWith_K (h₀ := X.base) I.ok.mod.kin kp ?_ (star_of hns.1 _ _) (back_of _ _ hns.2)
  rw [← he0]
  refine pes_run hpes rfl I fr h fun us vs ds g1 Hk1 H1 s1 I1 fr1 st1 rv1 rp1 h1' => ?_
  have h1' : Fin W Ew Hk1 H1 (if noFns ds && decide (i < Γ.length) then plainR (R.st : R D) else .st) _ := h1'
  exfalso
  split at h1' <;> exact h1'
end
end Bk
set_option Elab.async false
set_option linter.all false
set_option maxRecDepth 100000
set_option maxHeartbeats 4000000
set_option pp.maxSteps 800
namespace Bk
open PySem PySem.Spec PyProof.Rows L2 LamX
open Evl (Ex ex_l ex_t)
theorem flds_sim {K : PySem.W.Frag} {W W' : Wd} (sim : WSim W W') {Hk : Hp} {fs : List (Str × V)} : ∀ {ns : List Str} {ds : List D}, noFns ds = true → (Flds K W' Hk ns ds fs ↔ Flds K W Hk ns ds fs)
  | [], [], _ => Iff.rfl
  | [], _ :: _, _ => Iff.rfl
  | _ :: _, [], _ => Iff.rfl
  | n :: ns, d :: ds, h => by
    simp only [noFns, Bool.and_eq_true] at h
    have h1 := fun v => Rp.sim (K := K) (H := Hk) (W' := W') sim (d := d) (v := v) h.1
    have h2 := flds_sim sim (Hk := Hk) (fs := fs) (K := K) (ns := ns) (ds := ds) h.2
    exact ⟨fun ⟨⟨v, e, r⟩, q⟩ => ⟨⟨v, e, (h1 v).mp r⟩, h2.mp q⟩, fun ⟨⟨v, e, r⟩, q⟩ => ⟨⟨v, e, (h1 v).mpr r⟩, h2.mpr q⟩⟩
theorem excAt_sim {W W' : Wd} (sim : WSim W W') {c : Nat} {ds : List D} {cls : Value} {dx : Option Addr} {Hk H : Hp} (h : noFns ds = true) : ExcAt W' c ds cls dx Hk H ↔ ExcAt W c ds cls dx Hk H := by
  unfold ExcAt
  rw [sim.xc, sim.k]
  exact ⟨fun ⟨C, ns, d, fs, e1, e2, e3, e4, e5, e6⟩ => ⟨C, ns, d, fs, e1, e2, e3, e4, (flds_sim sim h).mp e5, e6⟩, fun ⟨C, ns, d, fs, e1, e2, e3, e4, e5, e6⟩ => ⟨C, ns, d, fs, e1, e2, e3, e4, (flds_sim sim h).mpr e5, e6⟩⟩
theorem plainX_ok {r : R D} {d : D} {g : G} (h : plainX r = .ok d g) : r = .ok d g ∧ noFn d = true := by
  cases r with
  | ok a g1 =>
    have h : (if noFn a then R.ok a g1 else .st) = .ok d g := h
    split at h
    · rename_i hn; cases h; exact ⟨rfl, hn⟩
    · cases h
  | ex c ds g1 =>
    have h : (if noFns ds then R.ex c ds g1 else .st) = .ok d g := h
    split at h <;> cases h
  | st => cases h
theorem plainX_ex {r : R D} {c : Nat} {ds : List D} {g : G} (h : plainX r = .ex c ds g) : r = .ex c ds g ∧ noFns ds = true := by
  cases r with
  | ok a g1 =>
    have h : (if noFn a then R.ok a g1 else .st) = .ex c ds g := h
    split at h <;> cases h
  | ex c0 ds0 g1 =>
    have h : (if noFns ds0 then R.ex c0 ds0 g1 else .st) = .ex c ds g := h
    split at h
    · rename_i hn; cases h; exact ⟨rfl, hn⟩
    · cases h
  | st => cases h
/-- what is promised of a plain result serves for the other world, too -/
theorem fin_plain {K : PySem.W.Frag} {W W' : Wd} (sim : WSim W W') {E : XK} {Hk H : Hp} {r : R D} {Q : VK} (h : Fin W' E Hk H (plainX r) fun d _ Hk' H' => ∀ v, Rp K W' Hk' d v → Q v H') : Fin W E Hk H r fun d _ Hk' H' => ∀ v, Rp K W Hk' d v → Q v H' := by
  cases e : plainX r with
  | st => rw [e] at h; exact h.elim
  | ok d g =>
    rw [e] at h
    obtain ⟨e1, e2⟩ := plainX_ok e
    subst e1
    exact fun Hk' H' s' dr v rr => h Hk' H' (sim.step.mpr s') (sim.draw.mpr dr) v ((Rp.sim sim e2).mpr rr)
  | ex c ds g =>
    rw [e] at h
    obtain ⟨e1, e2⟩ := plainX_ex e
    subst e1
    exact fun Hk' H' cls dx s' dr x => h Hk' H' cls dx (sim.step.mpr s') (sim.draw.mpr dr) ((excAt_sim sim e2).mpr x)
section
variable {X : Cx} {pins : List (Addr × Obj)} {σ : L2.St} {H : Hp} {s : Shared} {W W' : Wd} {Hk0 H0 Hk : Hp} {Γ : Gm} {g0 : G}
/-- the def that got the lambda calls it: a() -/
theorem pe_act0 {CXg : CXT} {E E' : XK} {Ng ys : List Str} {qg : Str} {sg : Scope} {gf f c' : Addr} {cdg : Value} {params : Arguments} {body : Expr} {scope : Scope} {r j : Nat} {a : Str} {p1 p2 : Pos} {ev : Gm → G → R D} {pn : List (Addr × Obj)} {xe : Value → Shared → Prop}
    (I : L2.Inv X pins σ H s) (L : LamQ X.N X.env.scope scope ys) (hp : LPar params ys) (F : LamAt X params body scope f c' H s) (hgd : X.A.guards = some []) (fr : Fr X.K W Hk0 H0 Γ g0 σ Hk H) (sim : WSim W W') (hlf : W'.lf = f) (hhc : W'.hc = Hk) (hhh : W'.hh = H) (hct : ∀ q ∈ W.tb, c' ≠ q.1) (hcm : c' ≠ W.am ∧ c' ≠ W.ac ∧ c' ≠ W.ag)
    (tk : Takes ((cxOf CXg X.prog X.w X.K X.mg X.base Ng qg sg gf cdg X.A X.stack s H E).tr pn xe) fun cls d _ H => E' cls d H) (hr : Room (r + 1) (X.A.deeper (envOfC qg sg s.heap.objs.size gf cdg)))
    (hbody : ∀ {A : Around} {outer : List Env} {s : Shared} {H : Hp} {E : XK} {f c' : Addr}, Room r (A.deeper (lamEnv X scope s.heap.objs.size f c')) → (A.deeper (lamEnv X scope s.heap.objs.size f c')).guards = some [] → PE (lamCx X A outer s H E scope f c') body (tE X.K W E ev))
    (hN : Ng[j]? = some a) (hv : Vis sg a) (hdb : (a == ("__debug__" : Str)) = false) (hcd : (a == ("__classdict__" : Str)) = false) :
    PE ((cxOf CXg X.prog X.w X.K X.mg X.base Ng qg sg gf cdg X.A X.stack s H E).tr pn xe) (.Call (.Name a p1) [] [] p2) (tE X.K W' E' fun Γ1 g1 => match Γ1[j]? with
      | some (.val .fn) => plainX (ev (noOwn Γ) g1)
      | _ => .st) := by
  refine PE.imp (pe_actG (k := r) (i := j) (E := E') (tb := tE X.K W E' ev) I L hp F hgd tk (fun _ _ _ _ z => z) hr (fun A outer s H hr hg => hbody hr hg) hN hv hdb hcd) fun σZ HZ Q ⟨Hk0Z, H0Z, Γ1, g1, HkZ, frZ, h⟩ => ?_
  cases ej : Γ1[j]? with
  | none => simp only [ej] at h; exact h.elim
  | some sl =>
  cases sl with
  | no => simp only [ej] at h; exact h.elim
  | own _ => simp only [ej] at h; exact h.elim
  | val d0 =>
  cases d0 <;> (try (simp only [ej] at h; exact h.elim))
  simp only [ej] at h
  obtain ⟨osZ, slZ, ndZ, hoZ⟩ := frZ.sl
  obtain ⟨vf, hσ, hvf⟩ := slZ.val_at ej
  have hvf : vf = .ref W'.lf := hvf
  rw [hlf] at hvf
  subst hvf
  have wk2 := frZ.wk
  have sim' : WSim W' W := ⟨sim.am.symm, sim.ac.symm, sim.ag.symm, sim.w.symm, sim.k.symm, sim.tb.symm, sim.xc.symm⟩
  have hex : Ex Hk HkZ := by have := wk2.hc; rw [hhc] at this; exact this
  have hH : ∀ b o, H b = some o → W'.out b → HZ b = some o := by have := wk2.hh; rw [hhh] at this; exact this
  have outc : W'.out c' := sim.out.mpr ⟨hcm.1, hcm.2.1, hcm.2.2, hct⟩
  have wkL : Wk W g1 HkZ HZ := sim'.wk wk2 (fr.wk.hc.trans hex) fun b o e ho => hH b o (fr.wk.hh b o e ho) (sim.out.mpr ho)
  obtain ⟨osX, slX, _⟩ := fr.sl
  have fl : Fr X.K W HkZ HZ (noOwn Γ) g1 σ HkZ HZ := ⟨wkL, Step.refl wkL.ex, ⟨[], gm_noOwn (H' := HZ) slX hex, List.nodup_nil, fun p hp => absurd hp (by simp)⟩, wkL.hh⟩
  exact ⟨hσ, hH _ _ F.code outc, HkZ, HZ, noOwn Γ, g1, HkZ, fl, fin_plain sim h⟩
end
/-- a def of the text that gets a function of nothing last, held against its compact form -/
structure LsOk0 (pn : PrN) (K : PySem.W.Frag) (mg : Str → Option Value) (x : Str) (df : Df) (a : Addr) (fd : FuncData) (ps : List Str) : Prop where
  ex : ∃ (params : Arguments) (body : List Stmt) (scope : Scope) (N : List Str) (n : Nat) (y : Str) (j : Nat), FunD K x x params body scope [] [] a fd ∧ FnScope N ps scope ∧ (∀ y ∈ N, okN y = true) ∧ chkB n pn ⟨N, scope, fun _ => true, false, some (y, j + 1000)⟩ body df.body = true ∧ df.np = ps.length ∧ df.nn = N.length ∧ N[j]? = some y ∧ y ∈ ps
  nm : okN x = true
  mg : mg x = some (.ref a)
  bd : Binds K fd ps []
section
variable {P : Program} {w : World} {K : PySem.W.Frag} {mg : Str → Option Value} {base : Heap} {pn : PrN} {p : Pr} {W : Wd}
theorem lamfn0_ok {X : Cx} {k f : Nat} {x : Str} {df : Df} {a : Addr} {fd : FuncData} {ps : List Str} (hP : X.prog = P) (hw : X.w = w) (hK : X.K = K) (hM : X.mg = mg) (hB : X.base = base)
    (hroom : Room (4 * (k + 1) + 5) X.A) (hgd : X.A.guards = some [])
    (lm : ∃ c0 P, X.env.code = .ref c0 ∧ LamX.TabB X.base X.mg c0 P ∧ (P, X.env.qual ++ "<lambda>") ∈ W.tb ∧ ∀ p ∈ W.tb, p.1 = P → p.2 = X.env.qual ++ "<lambda>")
    (e : p.ds.lookup f = some df) (d : LsOk0 pn K mg x df a fd ps)
    (hok : ∀ (W' : Wd) (lam : D → G → R D) {N ps : List Str} {qual : Str} {scope : Scope} {a : Addr} {cdv : Value} {A : Around} {outer : List Env} {s : Shared} {H : Hp} {E : XK} {y : Str} {j : Nat}, WSim W W' → FnScope N ps scope → (∀ y ∈ N, okN y = true) →
      Room (4 * k + 5) (A.deeper (envOfC qual scope s.heap.objs.size a cdv)) → (A.deeper (envOfC qual scope s.heap.objs.size a cdv)).guards = some [] →
      (∀ (pn' : List (Addr × Obj)) (xe' : Value → Shared → Prop) (E' : XK), Takes ((cxOf (L2.CX P w) P w K mg base N qual scope a cdv A outer s H E).tr pn' xe') (fun cls d _ H => E' cls d H) → ∀ (p1 p2 : Pos), PE ((cxOf (L2.CX P w) P w K mg base N qual scope a cdv A outer s H E).tr pn' xe') (.Call (.Name y p1) [] [] p2) (tE K W' E' (call0R (ovr (den p k) lam) j))) →
      Ok (L2.CX P w) W' pn p k (ovr (den p k) lam) ⟨N, scope, fun _ => true, false, some (y, j + 1000)⟩ E (cxOf (L2.CX P w) P w K mg base N qual scope a cdv A outer s H E)) :
    LamFn0 W pn (k + 1) (den p (k + 1)) X f x := by
  intro c Ew es fs lparams lbody lscope ys q lp pos ev hx hN hsc hgl hpes hp L hbody
  subst hP hw hK hM hB
  obtain ⟨params, body, scope, N, n, ya, j, F, S, hNk, hc, h1, h2, hNj, hya⟩ := d.ex
  have kp := F.kp
  obtain ⟨oc, od, dV, kV, doc, pm, an, cdv, ct, osl, rfl, lk, hcd, _, _⟩ := F.ex
  obtain ⟨c0, P0, hc0, TB, hm0, hu0⟩ := lm
  have L' : LamQ X.N X.env.scope lscope ys := by rw [hN, hsc]; exact L
  refine ⟨fun pins s σ H Q I h => ?_⟩
  obtain ⟨Hk0, H0, Γ, g, Hk, fr, h⟩ := h
  refine wpAny_Call_Name_kw (ld_glob I hgl d.mg ?_ (okN1 d.nm))
  have hns : nSts (es ++ [.Lambda lparams lbody lscope lp]) = true := nsts_app hpes.nsts rfl
  obtain ⟨e0, rest, he0⟩ : ∃ e0 rest, es ++ [.Lambda lparams lbody lscope lp] = e0 :: rest := by
    cases hz : es ++ [Expr.Lambda lparams lbody lscope lp] with
    | nil => simp at hz
    | cons a b => exact ⟨a, b, rfl⟩
  rw [he0] at hns ⊢
  simp only [nSts, Bool.and_eq_true] at hns
  refine PySem.W.callWith_K (h₀ := X.base) I.ok.mod.kin kp ?_ (star_of hns.1 _ _) (back_of _ _ hns.2)
  rw [← he0]
  refine pes_run hpes rfl I fr h fun us vs ds g1 Hk1 H1 s1 I1 fr1 st1 rv1 rp1 h1' => ?_
  show wpAny _ _ (spliced ((false, eval (.Lambda lparams lbody lscope lp) X.env) :: [])) _ _ s1
  refine Calls.spliced_cons (lam_mk I1 TB hc0 hm0 hu0 fr1.wk.dr.tab hp (L'.has I1.ok) fun fL c' H2 s2 I2 eN tI T1 FL => ?_)
  refine Calls.spliced_nil ⟨I2.kIn, ?_⟩
  have st2 : Step W Hk1 H1 Hk1 H2 := Step.lam fr1.wk.ex fr1.wk.dr fr1.wk.tk eN T1
  have fr2 := fr1.step st2 (fr1.wk.dr.lam eN tI T1)
  have h2' := Fin.step st2 h1'
  have hfn : noFns ds = true := by
    cases hz : noFns ds with
    | false => rw [hz] at h2'; exact h2'.elim
    | true => rfl
  rw [hfn] at h2'
  have h2' : Fin W Ew Hk1 H2 (plainX ((den p (k + 1)).l f ds (fun _ g => plainX (ev (noOwn Γ) g)) g1)) fun d _ Hk' H' => ∀ v, Rp X.K W Hk' d v → Q v H' := h2'
  have eden : (den p (k + 1)).l f ds (fun _ g => plainX (ev (noOwn Γ) g)) g1 = (if ds.length + 1 = df.np ∧ df.np ≤ df.nn then endR (evB p.cs (ovr (den p k) (fun _ g => plainX (ev (noOwn Γ) g))) df.body (startG df.nn (ds ++ [.fn])) g1) else .st) := by
    conv => lhs; unfold den
    simp only [e]
  rw [eden] at h2'
  have hln : ds.length + 1 = df.np ∧ df.np ≤ df.nn := by
    by_cases hz : ds.length + 1 = df.np ∧ df.np ≤ df.nn
    · exact hz
    · rw [if_neg hz] at h2'; exact h2'.elim
  rw [if_pos hln] at h2'
  have hlv : (vs ++ [V.ref fL]).length = ps.length := by
    rw [List.length_append, rp1.len, ← h1, ← hln.1]; rfl
  have hlu : (us ++ [Value.ref fL]).length = ps.length := by
    rw [← hlv, vals_len (vals_app rv1 (v := .ref fL) (u := .ref fL) rfl)]
  let W' : Wd := { W with lf := fL, hc := Hk1, hh := H2 }
  have sim : WSim W W' := ⟨rfl, rfl, rfl, rfl, rfl, rfl, rfl⟩
  have sim' : WSim W' W := ⟨rfl, rfl, rfl, rfl, rfl, rfl, rfl⟩
  have wk' : Wk W' g1 Hk1 H2 := sim.wk fr2.wk (Ex.refl _) fun b o e _ => e
  have rpA : RpL X.K W' Hk1 (ds ++ [.fn]) (vs ++ [.ref fL]) := rpl_app ((RpL.sim sim hfn).mpr rp1) rfl
  have hcn : (∀ q ∈ W.tb, c' ≠ q.1) ∧ c' ≠ W.am ∧ c' ≠ W.ac ∧ c' ≠ W.ag := by
    refine ⟨fun q hq => ?_, ne_of FL.code fr2.wk.dr.m (by intro z; cases z), ne_of FL.code fr2.wk.dr.c (by intro z; cases z), ne_of FL.code fr2.wk.dr.gr (by intro z; cases z)⟩
    obtain ⟨ps', e1, _⟩ := fr2.wk.dr.tab q hq
    exact ne_of FL.code e1 (by intro z; cases z)
  have hfin : Fin W' Ew Hk1 H2 (endR (evB p.cs (ovr (den p k) (fun _ g => plainX (ev (noOwn Γ) g))) df.body (startG df.nn (ds ++ [.fn])) g1)) fun d _ Hk' H' => ∀ v, Rp X.K W' Hk' d v → Q v H' := fin_plain sim' h2'
  have rc : codeAny (model X.prog X.w) X.A (.call (.ref a) ⟨us ++ [.ref fL], []⟩) (CR (L2.CX X.prog X.w) X.stack X.prog X.w H2 s2 Q Ew) s2 := by
    refine run_ofS (k := 4 * (k + 1) + 4) (N := N) (ps := ps) (us := us ++ [.ref fL]) (vs := vs ++ [.ref fL]) lk hcd S hroom I2.env0 (by have := d.bd s2 (us ++ [.ref fL]) I2.kIn (by rw [List.append_nil]; exact hlu); rw [List.append_nil] at this; exact this) (vals_app rv1 (v := .ref fL) (u := .ref fL) rfl) hlv fun hr' => ?_
    have hg' : (X.A.deeper (envOfC x scope s2.heap.objs.size a cdv)).guards = some [] := by rw [guards_deeper]; exact hgd
    have ok := hok W' (fun _ g => plainX (ev (noOwn Γ) g)) (qual := x) (a := a) (cdv := cdv) (A := X.A) (outer := X.stack) (s := s2) (H := H2) (E := Ew) (y := ya) (j := j) sim S hNk (hr'.mono (by omega)) hg' (fun pn' xe' E' tk p1 p2 => ?_)
    · refine ⟨_, (ss_all n).b (Hk0 := Hk1) (H0 := H2) ok S.kind hc, Hk1, startG N.length (ds ++ [.fn]), g1, Hk1, ⟨wk', Step.refl wk'.ex, ⟨[], ?_, List.nodup_nil, fun p hp => absurd hp (by simp)⟩, wk'.hh⟩, Ex.refl _, ?_⟩
      · unfold startG L2.start
        rw [rpA.len]
        exact gm_start rpA
      · rw [h2] at hfin
        cases eb : evB p.cs (ovr (den p k) (fun _ g => plainX (ev (noOwn Γ) g))) df.body (startG N.length (ds ++ [.fn])) g1 with
        | ok fl g' =>
          rw [eb] at hfin
          cases fl with
          | nx Γ' => exact fun σ' Hk' H' fr' _ => hfin Hk' H' fr'.en fr'.wk.dr .non rfl
          | rt dd => exact fun v Hk' H' st dr r => hfin Hk' H' st dr v r
        | ex c es g' => rw [eb] at hfin; exact hfin
        | st => rw [eb] at hfin; exact hfin
    · exact pe_act0 (CXg := L2.CX X.prog X.w) (E := Ew) (E' := E') (W := W) (W' := W') (r := 4 * (k + 1) + 3) (j := j) (a := ya) (p1 := p1) (p2 := p2) (ev := ev) I2 L' hp FL hgd fr2 sim rfl rfl rfl hcn.1 hcn.2 tk hr' (fun hr hg => hbody hr hg) hNj ((S.par ya hya).elim (fun q => .inl q) fun q => .inr (.inl q)) (okN1 (hNk _ (List.mem_of_getElem? hNj))) (okN2 (hNk _ (List.mem_of_getElem? hNj)))
  refine wpAny_call (codeAny_mono rc fun r s3 hq => ?_)
  rcases r with e | (_ | _ | _ | u)
  · exact hx pins σ H2 s2 e s3 I2 hq
  · exact False.elim hq
  · exact False.elim hq
  · exact False.elim hq
  · exact I2.after hq
theorem lamfn0_zero {X : Cx} {f : Nat} {x : Str} {df : Df} {a : Addr} {fd : FuncData} {ps : List Str} (hK : X.K = K) (hM : X.mg = mg) (d : LsOk0 pn K mg x df a fd ps) : LamFn0 W pn 0 (den p 0) X f x := by
  intro c Ew es fs lparams lbody lscope ys q lp pos ev hx hN hsc hgl hpes hp L hbody
  subst hK hM
  obtain ⟨params, body, scope, N, n, ya, j, F, S, hNk, hc, h1, h2, hNj, hya⟩ := d.ex
  have kp := F.kp
  refine ⟨fun pins s σ H Q I h => ?_⟩
  obtain ⟨Hk0, H0, Γ, g, Hk, fr, h⟩ := h
  refine wpAny_Call_Name_kw (ld_glob I hgl d.mg ?_ (okN1 d.nm))
  have hns : nSts (es ++ [.Lambda lparams lbody lscope lp]) = true := nsts_app hpes.nsts rfl
  obtain ⟨e0, rest, he0⟩ : ∃ e0 rest, es ++ [.Lambda lparams lbody lscope lp] = e0 :: rest := by
    cases hz : es ++ [Expr.Lambda lparams lbody lscope lp] with
    | nil => simp at hz
    | cons a b => exact ⟨a, b, rfl⟩
  rw [he0] at hns ⊢
  simp only [nSts, Bool.and_eq_true] at hns
  refine PySem.W.callWith_K (h₀ := X.base) I.ok.mod.kin kp ?_ (star_of hns.1 _ _) (back_of _ _ hns.2)
  rw [← he0]
  refine pes_run hpes rfl I fr h fun us vs ds g1 Hk1 H1 s1 I1 fr1 st1 rv1 rp1 h1' => ?_
  cases hz : noFns ds with
  | false => rw [hz] at h1'; exact h1'.elim
  | true => rw [hz] at h1'; exact h1'.elim
end
end Bk
set_option Elab.async false
set_option linter.all false
set_option maxRecDepth 100000
set_option maxHeartbeats 4000000
namespace Bk
open PySem PySem.Spec PyProof.Rows L2
open Evl (Ex ex_l ex_t)
/-- where a def makes lambdas: its code object, its table -/
def LamD (mg : Str → Option Value) (base : Heap) (tb : List (Addr × Str)) (x : Str) (cdv : Value) : Prop := ∃ c0 P, cdv = .ref c0 ∧ LamX.TabB base mg c0 P ∧ (P, x ++ ".<locals>." ++ "<lambda>") ∈ tb ∧ ∀ p ∈ tb, p.1 = P → p.2 = x ++ ".<locals>." ++ "<lambda>"
/-- a def of the text, held against its compact form -/
structure DefOk (pn : PrN) (K : PySem.W.Frag) (mg : Str → Option Value) (base : Heap) (tb : List (Addr × Str)) (x : Str) (df : Df) (a : Addr) (fd : FuncData) (ps ks : List Str) : Prop where
  ex : ∃ (params : Arguments) (body : List Stmt) (scope : Scope) (N : List Str) (n : Nat) (lam : Bool) (z : Str), FunD K z z params body scope [] [] a fd ∧ FnScope N ps scope ∧ (∀ y ∈ N, okN y = true) ∧ chkB n pn ⟨N, scope, fun _ => true, lam, none⟩ body df.body = true ∧ df.np = ps.length ∧ df.nn = N.length ∧ (lam = true → LamD mg base tb z fd.code)
  nm : okN x = true
  mg : mg x = some (.ref a)
  bd : BindK K fd ps ks
structure World0 (P : Program) (w : World) (K : PySem.W.Frag) (mg : Str → Option Value) (base : Heap) (pn : PrN) (p : Pr) (xc : List (Nat × Addr × List Str)) (tb : List (Addr × Str)) : Prop where
  cs : ∀ (i : Nat) (d : D) (x : Str), p.cs.lookup i = some d → (i, x) ∈ pn.cs → ∃ u v, okN x = true ∧ mg x = some u ∧ RelV v u ∧ ∀ (W : Wd) H, Rp K W H d v
  ds : ∀ (f : Nat) (x : Str), (f, x) ∈ pn.ds → ∃ df a fd ps, p.ds.lookup f = some df ∧ DefOk pn K mg base tb x df a fd ps []
  kd : ∀ (f : Nat) (x : Str) (ks : List Str), pn.kw.lookup f = some (x, ks) → ∃ df a fd ps, p.ds.lookup f = some df ∧ DefOk pn K mg base tb x df a fd ps ks
  kp : ∀ (v f : Nat) (x : Str) (n : Nat) (ks : List Str) (ix : List Pik), pn.kp.lookup v = some (f, x, n, ks, ix) → ∃ df a fd ps ks', p.ds.lookup f = some df ∧ DefOk pn K mg base tb x df a fd ps ks' ∧ BindP K fd ps n ks ix
  dr : ∃ a fd ps, mg "_law_draw" = some (.ref a) ∧ PySem.W.keepIn K (.ref a) = true ∧ Binds K fd ps [] ∧ ∀ (W : Wd), FnOkG P w K mg base CX0 2 a fd ps (spDraw W)
  bn : ∀ x ∈ bNames, mg x = none
  xs : ∀ (c : Nat) (x : Str) (ns : List Str), pn.xs.lookup c = some (x, ns) → ∃ C, xc.lookup c = some (C, ns) ∧ okN x = true ∧ mg x = some (.ref C) ∧ XcOk P K C ns
  sd : ∀ v x t, pn.sd.lookup v = some (x, t) → SaidOk P w K mg base xc x t
  ls : ∀ (f : Nat) (x : Str), f < 500000 → pn.ls.lookup f = some x → ∃ df a fd ps, p.ds.lookup f = some df ∧ LsOk pn K mg x df a fd ps
  ls0 : ∀ (f : Nat) (x : Str), pn.ls.lookup (f + 500000) = some x → ∃ df a fd ps, p.ds.lookup f = some df ∧ LsOk0 pn K mg x df a fd ps
  xi : ∀ ys yes no, (ys, yes, no) ∈ pn.xi → XiOk K mg xc ys yes no
  xv : ∀ n C ns, xc.lookup n = some (C, ns) → ClsF K C ns ∧ ExcC K C
  sm : smB K = true
/-- the world's own parts -/
structure WIs (W : Wd) (w : World) (K : PySem.W.Frag) (xc : List (Nat × Addr × List Str)) (tb : List (Addr × Str)) : Prop where
  w : W.w = w
  k : W.k = K
  xc : W.xc = xc
  tb : W.tb = tb
theorem FnOkG.cx {P : Program} {w : World} {K : PySem.W.Frag} {mg : Str → Option Value} {base : Heap} {CX : CXT} {k : Nat} {f : Addr} {fd : FuncData} {ps : List Str} {sp : Sp} (F : FnOkG P w K mg base CX0 k f fd ps sp) : FnOkG P w K mg base CX k f fd ps sp :=
  ⟨F.len, fun A outer s H args us vs Q E h1 h2 h3 h4 h5 h6 => codeAny_mono (F.run A outer s H args us vs Q E h1 h2 h3 h4 h5 h6) fun r s' z => by
    rcases r with e | (_ | _ | _ | u)
    · exact (show False from z).elim
    · exact z
    · exact z
    · exact z
    · exact z⟩
theorem FnOkG.mono {P : Program} {w : World} {K : PySem.W.Frag} {mg : Str → Option Value} {base : Heap} {CX : CXT} {j k : Nat} {f : Addr} {fd : FuncData} {ps : List Str} {sp : Sp} (F : FnOkG P w K mg base CX j f fd ps sp) (h : j ≤ k) :
    FnOkG P w K mg base CX k f fd ps sp := ⟨F.len, fun A outer s H args us vs Q E hr => F.run A outer s H args us vs Q E (hr.mono h)⟩
section
variable {P : Program} {w : World} {K : PySem.W.Frag} {mg : Str → Option Value} {base : Heap} {pn : PrN} {p : Pr} {W : Wd} {xc : List (Nat × Addr × List Str)} {tb : List (Addr × Str)}
theorem den_len {k f : Nat} {df : Df} (e : p.ds.lookup f = some df) {ds : List D} {g : G} (h : den p k f ds g ≠ .st) : ds.length = df.np := by
  cases k with
  | zero => exact absurd rfl h
  | succ k =>
    simp only [den, e] at h
    by_cases c : ds.length = df.np ∧ df.np ≤ df.nn
    · exact c.1
    · exact absurd (by simp only [if_neg c]) h
/-- the context of a def's body is a good one -/
theorem ok_body (w0 : World0 P w K mg base pn p xc tb) (hw : WIs W w K xc tb) {k : Nat} {kl : Calls} (hkl : ∀ f, f ≠ LAM → kl.f f = (den p k).f f) (ih : ∀ (f : Nat) (x : Str) df a fd ps ks, p.ds.lookup f = some df → DefOk pn K mg base tb x df a fd ps ks → FnOkG P w K mg base (L2.CX P w) (ix k) a fd ps (spD K W ps (den p k f)))
    {N ps : List Str} {qual : Str} {scope : Scope} {a : Addr} {cdv : Value} {A : Around} {outer : List Env} {s : Shared} {H : Hp} {E : XK} {lam : Bool} {lv : Option (Str × Nat)} (S : FnScope N ps scope) (hN : ∀ y ∈ N, okN y = true)
    (hr : Room (4 * k + 5) (A.deeper (envOfC qual scope s.heap.objs.size a cdv))) (hg : (A.deeper (envOfC qual scope s.heap.objs.size a cdv)).guards = some []) (hlam : lam = true → LamD mg base tb qual cdv)
    (hls : lam = true → ∀ f x, f < 500000 → pn.ls.lookup f = some x → LamFn W pn k kl (cxOf (L2.CX P w) P w K mg base N qual scope a cdv A outer s H E) f x)
    (hls0 : lam = true → ∀ f x, pn.ls.lookup (f + 500000) = some x → LamFn0 W pn k kl (cxOf (L2.CX P w) P w K mg base N qual scope a cdv A outer s H E) f x)
    (hlv0 : ∀ x j, lv = some (x, j + 1000) → ∀ (pn' : List (Addr × Obj)) (xe' : Value → Shared → Prop) (E' : XK), Takes ((cxOf (L2.CX P w) P w K mg base N qual scope a cdv A outer s H E).tr pn' xe') (fun cls d _ H => E' cls d H) → ∀ (p1 p2 : Pos), PE ((cxOf (L2.CX P w) P w K mg base N qual scope a cdv A outer s H E).tr pn' xe') (.Call (.Name x p1) [] [] p2) (tE K W E' (call0R kl j)))
    (hlv : ∀ x j, lv = some (x, j) → j < 1000 → ∀ {z : Expr} {fa : Gm → G → R D} {p1 p2 : Pos}, nSt z = true → PE (cxOf (L2.CX P w) P w K mg base N qual scope a cdv A outer s H E) z (tE K W E fa) → PE (cxOf (L2.CX P w) P w K mg base N qual scope a cdv A outer s H E) (.Call (.Name x p1) [z] [] p2) (tE K W E fun Γ g => match Γ[j]? with
      | some (.val .fn) => (fa Γ g).bind fun d g => kl LAM [d] g
      | _ => .st)) :
    Ok (L2.CX P w) W pn p k kl ⟨N, scope, fun _ => true, lam, lv⟩ E (cxOf (L2.CX P w) P w K mg base N qual scope a cdv A outer s H E) := by
  have tk : Takes (cxOf (L2.CX P w) P w K mg base N qual scope a cdv A outer s H E) (fun cls d _ H => E cls d H) := takes_of rfl rfl rfl rfl
  exact {
    N := rfl
    sc := rfl
    fn := rfl
    nd := S.nd
    nm := hN
    calm := rfl
    room := hr.mono (by unfold ix; omega)
    gd := hg
    pass := passes_call tk fun _ _ _ _ h => h
    own := passes_of rfl
    cxf := fun _ _ _ _ _ h => by
      obtain ⟨_, _, _, _, _, _, _, _, _, _, _, _, z⟩ := h
      exact z
    cs := fun i d x h1 h2 => by
      obtain ⟨u, v, q1, q2, q3, q4⟩ := w0.cs i d x h1 h2
      exact ⟨u, v, q1, q2, q3, q4 W⟩
    ds := fun f x hf h => by
      obtain ⟨df, a, fd, ps, e, d⟩ := w0.ds f x h
      obtain ⟨params, body, scope, N, n, lam, z, F, S, hN, hc, h1, h2, _⟩ := d.ex
      rw [hkl f hf]
      exact ⟨a, fd, ps, d.nm, d.mg, F.kp, binds_of d.bd, ih f x df a fd ps [] e d, fun ds g z => by rw [den_len e z, h1]⟩
    kd := fun f x ks hf h => by
      obtain ⟨df, a, fd, ps, e, d⟩ := w0.kd f x ks h
      obtain ⟨params, body, scope, N, n, lam, z, F, S, hN, hc, h1, h2, _⟩ := d.ex
      rw [hkl f hf]
      exact ⟨a, fd, ps, d.nm, d.mg, F.kp, d.bd, ih f x df a fd ps ks e d, fun ds g z => by rw [den_len e z, h1]⟩
    kp := fun v f x n ks ix hf h => by
      obtain ⟨df, a, fd, ps, ks', e, d, hb⟩ := w0.kp v f x n ks ix h
      obtain ⟨params, body, scope, N, n, lam, z, F, S, hN, hc, h1, h2, _⟩ := d.ex
      rw [hkl f hf]
      exact ⟨a, fd, ps, d.nm, d.mg, F.kp, hb, ih f x df a fd ps ks' e d, fun ds g z => by rw [den_len e z, h1]⟩
    dr := by
      obtain ⟨a, fd, ps, h1, h2, h3, h4⟩ := w0.dr
      exact ⟨a, fd, ps, h1, h2, h3, (h4 W).cx.mono (by unfold ix; omega)⟩
    bn := w0.bn
    w := hw.w
    kk := hw.k
    cx := rfl
    tk := tk
    xs := fun c x ns h => by rw [hw.xc]; exact w0.xs c x ns h
    lm := fun hl => ⟨hr, by
      obtain ⟨c0, P0, q1, q2, q3, q4⟩ := hlam hl
      rw [hw.tb]
      exact ⟨c0, P0, q1, q2, q3, q4⟩, fun v x t h => by rw [hw.xc]; exact w0.sd v x t h, hls hl, hls0 hl⟩
    lv := hlv
    lv0 := hlv0
    tr := fun _ => ⟨rfl, rfl, rfl⟩
    xi := fun ys yes no h => by rw [hw.xc]; exact w0.xi ys yes no h
    xv := fun n C ns h => by rw [hw.xc] at h; exact w0.xv n C ns h
    sm := w0.sm }
/-- what every def keeps, at the depth k -/
def DefsAt (P : Program) (w : World) (K : PySem.W.Frag) (mg : Str → Option Value) (base : Heap) (pn : PrN) (p : Pr) (xc : List (Nat × Addr × List Str)) (tb : List (Addr × Str)) (k : Nat) : Prop :=
  ∀ (W : Wd), WIs W w K xc tb → ∀ (f : Nat) (x : Str) df a fd ps ks, p.ds.lookup f = some df → DefOk pn K mg base tb x df a fd ps ks → FnOkG P w K mg base (L2.CX P w) (ix k) a fd ps (spD K W ps (den p k f))
/-- a def that gets a function, called with a lambda -/
theorem lams_ok (w0 : World0 P w K mg base pn p xc tb) (hw : WIs W w K xc tb) {k : Nat} (ih : ∀ j, j + 1 = k → DefsAt P w K mg base pn p xc tb j)
    {N ps : List Str} {qual : Str} {scope : Scope} {a : Addr} {cdv : Value} {A : Around} {outer : List Env} {s : Shared} {H : Hp} {E : XK} (S : FnScope N ps scope)
    (hr : Room (4 * k + 5) (A.deeper (envOfC qual scope s.heap.objs.size a cdv))) (hg : (A.deeper (envOfC qual scope s.heap.objs.size a cdv)).guards = some []) (hlam : LamD mg base tb qual cdv) :
    ∀ f x, f < 500000 → pn.ls.lookup f = some x → LamFn W pn k (den p k) (cxOf (L2.CX P w) P w K mg base N qual scope a cdv A outer s H E) f x := by
  intro f x hf5 hf
  cases k with
  | zero =>
    intro c Ew es fs params body scope y i q lp pos ev _ _ _ hgl hpes _ _ _ _ _
    obtain ⟨df, a', fd, ps', e, d⟩ := w0.ls f x hf5 hf
    exact lamfn_zero (p := p) (F := fun _ _ => .st) rfl rfl d hgl hpes
  | succ k =>
    obtain ⟨df, a', fd, ps', e, d⟩ := w0.ls f x hf5 hf
    have lm : ∃ c0 P, cdv = .ref c0 ∧ LamX.TabB base mg c0 P ∧ (P, qual ++ ".<locals>." ++ "<lambda>") ∈ W.tb ∧ ∀ p ∈ W.tb, p.1 = P → p.2 = qual ++ ".<locals>." ++ "<lambda>" := by
      obtain ⟨c0, P0, q1, q2, q3, q4⟩ := hlam
      rw [hw.tb]
      exact ⟨c0, P0, q1, q2, q3, q4⟩
    intro c Ew es fs lpar lbody lscope ly li lq llp lpos lev z1 z2 z3 z4 z5 z6 z7 z8 z9 z10
    refine lamfn_ok (P := P) (w := w) (K := K) (mg := mg) (base := base) (pn := pn) (p := p) (W := W) (X := cxOf (L2.CX P w) P w K mg base N qual scope a cdv A outer s H E) rfl rfl rfl rfl rfl S.nd hr hg lm e d ?_ z1 z2 z3 z4 z5 z6 z7 z8 z9 z10
    intro W' lam N2 ps2 qual2 scope2 a2 cdv2 A2 outer2 s2 H2 E2 y j sim S2 hN2 hr2 hg2 hlv2 hj2
    have hw' : WIs W' w K xc tb := ⟨sim.w.trans hw.w, sim.k.trans hw.k, sim.xc.trans hw.xc, sim.tb.trans hw.tb⟩
    refine ok_body (lam := false) (lv := some (y, j)) w0 hw' (fun f hf => ?_) (ih k rfl W' hw') S2 hN2 hr2 hg2 (fun z => by cases z) (fun z => by cases z) (fun z => by cases z) (fun x' j' hz => ?_) (fun x' j' hz hj => ?_)
    · funext ds g
      show (if f = LAM then _ else _) = _
      rw [if_neg hf]
    · cases hz
      exact absurd hj2 (by omega)
    · cases hz
      exact hlv2
/-- a def that gets a function of nothing, called with a lambda -/
theorem lams0_ok (w0 : World0 P w K mg base pn p xc tb) (hw : WIs W w K xc tb) {k : Nat} (ih : ∀ j, j + 1 = k → DefsAt P w K mg base pn p xc tb j)
    {N ps : List Str} {qual : Str} {scope : Scope} {a : Addr} {cdv : Value} {A : Around} {outer : List Env} {s : Shared} {H : Hp} {E : XK} (S : FnScope N ps scope)
    (hr : Room (4 * k + 5) (A.deeper (envOfC qual scope s.heap.objs.size a cdv))) (hg : (A.deeper (envOfC qual scope s.heap.objs.size a cdv)).guards = some []) (hlam : LamD mg base tb qual cdv) :
    ∀ f x, pn.ls.lookup (f + 500000) = some x → LamFn0 W pn k (den p k) (cxOf (L2.CX P w) P w K mg base N qual scope a cdv A outer s H E) f x := by
  intro f x hf
  obtain ⟨df, a', fd, ps', e, d⟩ := w0.ls0 f x hf
  cases k with
  | zero => exact lamfn0_zero (p := p) rfl rfl d
  | succ k =>
    have lm : ∃ c0 P, cdv = .ref c0 ∧ LamX.TabB base mg c0 P ∧ (P, qual ++ ".<locals>." ++ "<lambda>") ∈ W.tb ∧ ∀ p ∈ W.tb, p.1 = P → p.2 = qual ++ ".<locals>." ++ "<lambda>" := by
      obtain ⟨c0, P0, q1, q2, q3, q4⟩ := hlam
      rw [hw.tb]
      exact ⟨c0, P0, q1, q2, q3, q4⟩
    intro c Ew es fs lpar lbody lscope ys lq llp lpos lev z1 z2 z3 z4 z5 z6 z7 z8
    refine lamfn0_ok (P := P) (w := w) (K := K) (mg := mg) (base := base) (pn := pn) (p := p) (W := W) (X := cxOf (L2.CX P w) P w K mg base N qual scope a cdv A outer s H E) rfl rfl rfl rfl rfl hr hg lm e d ?_ z1 z2 z3 z4 z5 z6 z7 z8
    intro W' lam N2 ps2 qual2 scope2 a2 cdv2 A2 outer2 s2 H2 E2 y j sim S2 hN2 hr2 hg2 hlv2
    have hw' : WIs W' w K xc tb := ⟨sim.w.trans hw.w, sim.k.trans hw.k, sim.xc.trans hw.xc, sim.tb.trans hw.tb⟩
    refine ok_body (lam := false) (lv := some (y, j + 1000)) w0 hw' (fun f hf => ?_) (ih k rfl W' hw') S2 hN2 hr2 hg2 (fun z => by cases z) (fun z => by cases z) (fun z => by cases z) (fun x' j' hz => ?_) (fun x' j' hz hj => ?_)
    · funext ds g
      show (if f = LAM then _ else _) = _
      rw [if_neg hf]
    · cases hz
      exact hlv2
    · cases hz
      exact absurd hj (by omega)
theorem defs_all (w0 : World0 P w K mg base pn p xc tb) : ∀ k, ∀ j, j ≤ k → DefsAt P w K mg base pn p xc tb j
  | 0, j, hj => by
    have : j = 0 := by omega
    subst this
    intro W hw f x df a fd ps ks _ _
    exact ⟨fun vs H Q E h => h.1, fun A outer s H args us vs Q E _ _ _ _ _ h => by
      obtain ⟨_, ds, g, Hk, _, _, h⟩ := h
      exact h.elim⟩
  | k + 1, j, hj => by
    by_cases hj1 : j ≤ k
    · exact defs_all w0 k j hj1
    have : j = k + 1 := by omega
    subst this
    intro W hw f x df a fd ps ks e d
    have ih := defs_all w0 k
    obtain ⟨params, body, scope, N, n, lam, z, F, S, hN, hc, h1, h2, hlam⟩ := d.ex
    obtain ⟨oc, od, dV, kV, doc, pm, an, cdv, ct, osl, rfl, lk, hcd, _, _⟩ := F.ex
    refine FnOkG.mono (j := 4 * k + 5 + 1) (fn_ofG lk hcd S (fun vs H Q E h => h.1) fun A outer s H vs Q E hr hg hsp => ?_) (by unfold ix; omega)
    obtain ⟨hl, ds, g, Hk, wk, rp, fin⟩ := hsp
    have ok := ok_body (W := W) (outer := outer) (H := H) (E := E) (kl := den p k) (lv := none) w0 hw (fun _ _ => rfl) (ih k (Nat.le_refl _) W hw) S hN hr hg hlam (fun hl => lams_ok w0 hw (fun j hj => ih j (by omega)) S hr hg (hlam hl)) (fun hl => lams0_ok w0 hw (fun j hj => ih j (by omega)) S hr hg (hlam hl)) (fun x j z => by cases z) (fun x j z => by cases z)
    refine ⟨_, (ss_all n).b (Hk0 := Hk) (H0 := H) ok S.kind hc, Hk, startG N.length ds, g, Hk, ⟨wk, Step.refl wk.ex, ⟨[], ?_, List.nodup_nil, fun p hp => absurd hp (by simp)⟩, wk.hh⟩, Ex.refl _, ?_⟩
    · unfold startG L2.start
      rw [rp.len]
      exact gm_start rp
    · have ed : den p (k + 1) f ds g = endR (evB p.cs (den p k) df.body (startG N.length ds) g) := by
        conv => lhs; unfold den
        simp only [e]
        have hpl : ps.length ≤ N.length := by have := congrArg List.length S.pre; rw [List.length_take] at this; omega
        simp only [h1, h2]
        rw [if_pos ⟨by rw [← rp.len]; exact hl, hpl⟩]
      rw [ed] at fin
      cases er : evB p.cs (den p k) df.body (startG N.length ds) g with
      | ok fl g' =>
        rw [er] at fin
        cases fl with
        | nx Γ' => exact fun σ' Hk' H' fr _ => fin Hk' H' fr.en fr.wk.dr .non rfl
        | rt d => exact fun v Hk' H' st dr r => fin Hk' H' st dr v r
      | ex c es g' => rw [er] at fin; exact fin
      | st => rw [er] at fin; exact fin
end
end Bk
set_option Elab.async false
set_option linter.all false
set_option maxRecDepth 100000
set_option maxHeartbeats 4000000
namespace Row
open PySem L2
def top (i : Nat) : Stmt := PySem.Challenge.pw_booklimits_k80_errors_of_the_third_part.main.body.getD i (.Pass ⟨0, 0, 0, 0⟩)
abbrev sMixed : Stmt := top 17
abbrev sFolded : Stmt := top 18
abbrev sDraw : Stmt := top 19
abbrev sBegun : Stmt := top 20
abbrev sLaw : Stmt := top 23
end Row
set_option Elab.async false
set_option linter.all false
set_option maxRecDepth 100000
set_option maxHeartbeats 4000000
namespace Bk
open PySem PySem.Spec PyProof.Rows L2 Row
open Evl (Ex ex_l ex_t)
abbrev FnP (K : PySem.W.Frag) (x : Str) (st : Stmt) (f : Addr) (fd : FuncData) : Prop := FunD K x x (defArgs st) (defBody st) (defScope st) [] [] f fd
theorem FunD.okG {P : Program} {w : World} {K : PySem.W.Frag} {mg : Str → Option Value} {base : Heap} {x qual : Str} {params : Arguments} {body : List Stmt} {scope : Scope} {dvs : List V} {kws : List (Str × V)} {f : Addr} {fd : FuncData} {CX : CXT} {N ps : List Str} {k : Nat} {sp : Sp} (F : FunD K x qual params body scope dvs kws f fd) (S : FnScope N ps scope) (len : ∀ vs H Q E, sp vs H Q E → vs.length = ps.length)
    (hbody : ∀ (cdv : Value) (A : Around) (outer : List Env) (s : Shared) (H : Hp) (vs : List V) (Q : VK) (E : XK), Room k (A.deeper (envOfC qual scope s.heap.objs.size f cdv)) → (A.deeper (envOfC qual scope s.heap.objs.size f cdv)).guards = some [] → sp vs H Q E →
      ∃ t, PSs (cxOf CX P w K mg base N qual scope f cdv A outer s H E) body t ∧ t { nx := fun _ H' => Q .non H', rt := Q } (L2.start N vs) H) : FnOkG P w K mg base CX (k + 1) f fd ps sp := by
  obtain ⟨oc, od, dV, kV, doc, pm, an, cdv, ct, osl, rfl, lk, hcd, _, _⟩ := F.ex
  exact fn_ofG lk hcd S len fun A outer s H vs Q E hr hg hsp => hbody cdv A outer s H vs Q E hr hg hsp
def spMixed : Sp := fun vs H Q _ => ∃ c n : Int, vs = [.int c, .int n] ∧ 0 ≤ n ∧ n < 2 ^ 61 ∧ Q (.int (mixed c n)) H
section
variable {P : Program} {w : World} {K : PySem.W.Frag} {mg : Str → Option Value} {base : Heap} {f fM : Addr} {fd fdM : FuncData}
theorem scM : FnScope ["_law_cell", "_law_n", "_law_blend"] ["_law_cell", "_law_n"] (defScope sMixed) := ⟨rfl, rfl, rfl, by decide +kernel, rfl, by decide +kernel, by decide +kernel⟩
theorem ok_mixed (F : FnP K "_law_mixed" sMixed f fd) (gI : mg "int" = none) : FnOkG P w K mg base CX0 1 f fd ["_law_cell", "_law_n"] spMixed := by
  refine FunD.okG F scM (fun vs H Q E h => ?_) (fun cdv A outer s H vs Q E hr hgd h => ?_)
  · obtain ⟨c, n, rfl, _⟩ := h
    rfl
  · obtain ⟨c, n, rfl, h0, h1, q⟩ := h
    refine ⟨_, pss_cons (ps_set (i := 2) scM.nd rfl (Or.inl rfl) (pe_op op_add (pe_op op_add (pe_op op_mod (pe_callTy call_int1 rfl gI boot_int (pa_cons (pe_op op_mul (pe_op op_mul (pv 0) (pe_op op_add pe_int (pe_op op_mul pe_int (pv 1)))) pe_int) pa_nil)) pe_int) (pe_op op_mul (pe_op op_mul pe_int (pv 1)) (pv 1))) (pe_op op_mul pe_int (pv 1))))
      (pss_one (ps_ret (pe_op op_fdiv (pe_op op_mod (pe_callTy call_int1 rfl gI boot_int (pa_cons (pe_op op_mul (pv 2) pe_int) pa_nil)) pe_int) pe_int))), ?_⟩
    have b1 : CMul 2 n := .inl (by decide)
    have b2 : CMul c (1 + 2 * n) := .inr (by omega)
    have b3 : ∀ x, CMul x 48271 := fun x => .inr (by decide)
    have b4 : CMul 7919 n := .inl (by decide)
    have b5 : CMul (7919 * n) n := .inr (by omega)
    have b6 : CMul 104729 n := .inl (by decide)
    have b7 : ∀ x, CMul x 69621 := fun x => .inr (by decide)
    refine ⟨_, rfl, _, rfl, _, _, rfl, rfl, b1, _, _, rfl, rfl, _, _, rfl, rfl, b2, _, _, rfl, rfl, b3 _, .inl ⟨_, rfl, _, _, rfl, rfl, (show (0:Int) < 2147483647 by decide), _, rfl, _, _, rfl, rfl, b4, _, rfl, _, _, rfl, rfl, b5, _, _, rfl, rfl, _, rfl, _, _, rfl, rfl, b6, _, _, rfl, rfl, ?_⟩⟩
    exact ⟨_, rfl, _, _, rfl, rfl, b7 _, .inl ⟨_, rfl, _, _, rfl, rfl, (show (0:Int) < 2147483629 by decide), _, _, rfl, rfl, (by constructor <;> decide), q⟩⟩
theorem bM (F : FnP K "_law_mixed" sMixed f fd) : Binds K fd ["_law_cell", "_law_n"] [] := FunD.bindsN F fun _ _ _ _ _ _ us hl => match us, hl with | [_, _], _ => rfl
theorem ixN_nat {n : Nat} {i : Int} (h0 : 0 ≤ i) (h1 : i < n) : ixN n i = some i.toNat := by
  unfold ixN
  rw [if_pos h0, if_pos h1]
theorem atI_ints {cs : List Int} {i : Int} (h0 : 0 ≤ i) (h1 : i < cs.length) : atI (cs.map V.int) i = some (.int (cs.getD i.toNat 0)) := by
  unfold atI
  rw [List.length_map, ixN_nat h0 h1]
  show (cs.map V.int)[i.toNat]? = _
  have h2 : i.toNat < cs.length := by omega
  rw [List.getElem?_map, List.getD_eq_getElem?_getD, List.getElem?_eq_getElem h2]
  rfl
theorem lim_ok {l : Int} (h0 : 0 < l) (h1 : l < 2 ^ 4000) (x : Int) : CDivW x l := wide_div (b := 4000) h0 (by
  have e : ((l.natAbs : Nat) : Int) = l := Int.natAbs_of_nonneg (by omega)
  have e2 : (((2 ^ 4000 : Nat) : Nat) : Int) = 2 ^ 4000 := by push_cast; rfl
  have : ((l.natAbs : Nat) : Int) < ((2 ^ 4000 : Nat) : Int) := by rw [e, e2]; exact h1
  exact Int.ofNat_lt.mp this) (by decide) (by decide)
theorem map_set_int (ns : List Int) (i : Nat) (x : Int) : (ns.map V.int).set i (.int x) = (ns.set i x).map V.int := by
  rw [List.map_set]
abbrev nD : List Str := ["_law_m", "_law_limit", "_law_n", "_law_lot", "_law_here", "_law_cell"]
theorem scD : FnScope nD ["_law_m", "_law_limit"] (defScope sDraw) := ⟨rfl, rfl, rfl, by decide +kernel, rfl, by decide +kernel, by decide +kernel⟩
theorem dg_spot {W : Wd} {g : G} {H : Hp} (h : H W.am = some (mDict W g)) : DGet H W.am (.str "spot") (some (.int g.spot)) := DGet.k (k := .inr "spot") h
theorem dg_great {W : Wd} {g : G} {H : Hp} (h : H W.am = some (mDict W g)) : DGet H W.am (.str "great") (some (.ref W.ag)) := DGet.k (k := .inr "great") h
theorem dg_cells {W : Wd} {g : G} {H : Hp} (h : H W.am = some (mDict W g)) : DGet H W.am (.str "cells") (some (.ref W.ac)) := DGet.k (k := .inr "cells") h
theorem dp_spot {W : Wd} {g : G} {H : Hp} (s : Int) (h : H W.am = some (mDict W g)) : DPut H W.am (.str "spot") (.int s) (upd H W.am (mDict W { g with spot := s })) := DPut.k (k := .inr "spot") (v := .int s) h (by show 3 < sizeLine; decide)
theorem dps_ints (H : Hp) : ∀ ns : List Int, DpAll K H (ns.map V.int) (ns.map PyData.int)
  | [] => .nil
  | n :: ns => .cons (.int n) (dps_ints H ns)
theorem shp : SeqAt.shaped (.list []) = true := by decide
theorem clI : ∀ ns : List Int, PyData.canLayAll0 (ns.map PyData.int) = true
  | [] => rfl
  | n :: ns => by show (true && PyData.canLayAll0 (ns.map PyData.int)) = true; rw [clI ns]; rfl
theorem dpI : ∀ ns : List Int, PyData.depthAll (ns.map PyData.int) = 0
  | [] => rfl
  | n :: ns => by show max 0 (PyData.depthAll (ns.map PyData.int)) = 0; rw [dpI ns]; rfl
theorem shI (ns : List Int) : SeqAt.shaped (.list (ns.map PyData.int)) = true := by
  show (PyData.canLayAll0 (ns.map PyData.int) && decide (PyData.depthAll (ns.map PyData.int) + 1 ≤ 64)) = true
  rw [clI, dpI]
  rfl
theorem eqvI (ns : List Int) : PyData.eqv (.list (ns.map PyData.int)) (.list []) = decide (ns = []) := by
  cases ns <;> rfl
theorem ok_draw (W : Wd) (F : FnP K "_law_draw" sDraw f fd) (FM : FnP K "_law_mixed" sMixed fM fdM) (gM : mg "_law_mixed" = some (.ref fM)) (gI : mg "int" = none) (gL : mg "len" = none) : FnOkG P w K mg base CX0 2 f fd ["_law_m", "_law_limit"] (spDraw W) := by
  have GM : FnOkG P w K mg base CX0 1 fM fdM ["_law_cell", "_law_n"] spMixed := ok_mixed FM gI
  refine FunD.okG F scD (fun vs H Q E h => ?_) (fun cdv A outer s H vs Q E hr hgd h => ?_)
  · obtain ⟨lim, g, Hk, rfl, _⟩ := h
    rfl
  · obtain ⟨lim, g, Hk, rfl, wk, l0, l1, g0, q⟩ := h
    have hu : (A.deeper (envOfC "_law_draw" (defScope sDraw) s.heap.objs.size f cdv)).units + 1 < cLine := by have := hr.un; omega
    have hu64 : (A.deeper (envOfC "_law_draw" (defScope sDraw) s.heap.objs.size f cdv)).units + 64 < cLine := by have := hr.un; omega
    refine ⟨_, pss_cons (ps_set (i := 2) scD.nd rfl (Or.inl rfl) (pe_dget hu (pv 0) pe_str fun _ _ => rfl))
      (pss_cons (ps_dput hu (pv 0) pe_str (pe_op op_add (pv 2) pe_int) rfl)
      (pss_cons (ps_if (pt_cmpR (op_neD hu64) (pe_dget hu (pv 0) pe_str fun _ _ => rfl) (pe_lst pa_nil) (nomark _))
        (pss_cons (ps_set (i := 3) scD.nd rfl (Or.inl rfl) (pe_dget hu (pv 0) pe_str fun _ _ => rfl))
        (pss_cons (ps_set (i := 4) scD.nd rfl (Or.inl rfl) (pe_op op_mod (pe_callTy call_int1 rfl gI boot_int (pa_cons (pv 2) pa_nil)) (pe_callB call_len rfl gL boot_len (pa_cons (pv 3) pa_nil))))
        (pss_cons (ps_set (i := 5) scD.nd rfl (Or.inl rfl) (pe_ix ix_list (pv 3) (pv 4) fun _ _ => rfl))
        (pss_one (ps_if (pt_cmp (pc_gt (pv 5) pe_int))
          (pss_cons (ps_asg (pe_op op_fdivW (pv 5) (pv 1)) (pg_sub (pv 3) (pv 4) set_list))
          (pss_one (ps_ret (pe_op op_mod (pe_callTy call_int1 rfl gI boot_int (pa_cons (pv 5) pa_nil)) (pv 1)))))
          pss_nil)))))
        pss_nil)
      (pss_cons (ps_set (i := 3) scD.nd rfl (Or.inl rfl) (pe_dget hu (pv 0) pe_str fun _ _ => rfl))
      (pss_one (ps_ret (pe_op op_mod (pe_callTy call_int1 rfl gI boot_int (pa_cons (pe_callG GM hr hgd rfl gM FM.kp (bM FM) .nil pass0 (pa_cons (pe_callG GM hr hgd rfl gM FM.kp (bM FM) .nil pass0 (pa_cons (pe_op op_add (pe_ix ix_list (pv 3) (pe_op op_mod (pe_callTy call_int1 rfl gI boot_int (pa_cons (pv 2) pa_nil)) pe_int) fun _ _ => rfl) (pe_op op_mul pe_int (pe_op op_fdiv (pv 2) pe_int))) (pa_cons (pv 2) pa_nil)) rfl rfl rfl) (pa_cons (pe_op op_add (pv 2) pe_int) pa_nil)) rfl rfl rfl) pa_nil)) (pv 1))))))), ?_⟩
    refine ⟨_, rfl, W.am, _, rfl, dg_spot wk.dr.m, ?_⟩
    refine ⟨_, rfl, _, _, rfl, rfl, _, rfl, W.am, _, rfl, dp_spot (g.spot + 1) wk.dr.m, ?_⟩
    refine ⟨_, rfl, W.am, _, rfl, dg_great (g := { g with spot := g.spot + 1 }) upd_same, Nat.zero_le _, fun p hp => ?_⟩
    have npm : p ≠ W.am := fun e => by rw [e, upd_same] at hp; cases hp
    have hp0 : H p = none := by rw [upd_ne npm] at hp; exact hp
    have o := ex_upd_out wk.dr hp0
    have gc : W.ac ≠ W.am := wk.dr.mc.symm
    have gg : W.ag ≠ W.am := wk.dr.mg.symm
    have d2 : DrawAt W { g with spot := g.spot + 1 } (upd (upd H W.am (mDict W { g with spot := g.spot + 1 })) p (.lst [])) := by
      refine DrawAt.upd ⟨upd_same, ?_, ?_, wk.dr.ne, ⟨wk.dr.ok.len, wk.dr.ok.cel, ?_, wk.dr.ok.gl⟩, tabs_upd wk.dr.tab wk.dr.tne.1 (nc_dK wk.dr.m), tin_upd wk.dr.tin (by intro ps z; cases z)⟩ o (nc_none hp)
      · rw [upd_ne gc]; exact wk.dr.c
      · rw [upd_ne gg]; exact wk.dr.gr
      · have := wk.dr.ok.spot
        show (0 : Int) ≤ g.spot + 1
        omega
    have s2 : Step W Hk H Hk (upd (upd H W.am (mDict W { g with spot := g.spot + 1 })) p (.lst [])) := by
      refine ⟨Ex.refl _, fun b u hb => ?_, fun b u hb ho => ?_, fun b u hb => ?_, fun b u h1 h2 => by rw [h1] at h2; cases h2⟩
      · rw [upd_ne (ne_of_none (wk.ex b u hb) hp0), upd_ne (ne_of_none hb wk.m)]
        exact wk.ex b u hb
      · rw [upd_ne (ne_of_none hb hp0), upd_ne ho.1]
        exact hb
      · by_cases e : b = W.am
        · subst e; exact ⟨_, by rw [upd_ne (Ne.symm npm)]; exact upd_same⟩
        · exact ⟨u, by rw [upd_ne (ne_of_none hb hp0), upd_ne e]; exact hb⟩
    generalize hH2 : upd (upd H W.am (mDict W { g with spot := g.spot + 1 })) p (.lst []) = H2 at d2 s2 ⊢
    have hp2 : H2 p = some (.lst []) := by rw [← hH2]; exact upd_same
    have q2 : ∀ H', Step W Hk H2 Hk H' → DrawAt W (g.draw lim).2 H' → Q (.int (g.draw lim).1) H' := fun H' st d => q H' (s2.trans st) d
    have e2 : Ex Hk H2 := s2.kh
    have k2 : Wk W { g with spot := g.spot + 1 } Hk H2 := wk.step s2 d2
    refine ⟨_, _, .lst (SqL.of d2.gr) (dps_ints H2 g.great), .lst (SqL.of hp2) .nil, shI _, shp, _, rfl, ?_⟩
    rw [eqvI]
    have sp0 := wk.dr.ok.spot
    have c1 : atI (g.cells.map V.int) (g.spot % 64) = some (.int (g.cells.getD (g.spot % 64).toNat 0)) := atI_ints (by omega) (by rw [wk.dr.ok.len]; omega)
    have m1 : CMul 31 (g.spot / 64) := .inl (by decide)
    have z1 : g.spot < 2 ^ 61 := by omega
    have z2 : g.spot + 7 < 2 ^ 61 := by omega
    have z3 : 0 ≤ g.spot + 7 := by omega
    have mr : g.draw lim = (g.mix lim, { g with spot := g.spot + 1 }) → Q (.int (g.mix lim)) H2 := fun e => by
      have := q2 H2 (Step.refl e2) (by rw [e]; exact d2)
      rw [e] at this
      exact this
    by_cases hg : g.great = []
    · have ed : g.draw lim = (g.mix lim, { g with spot := g.spot + 1 }) := by unfold G.draw; rw [if_pos hg]
      rw [decide_eq_true hg]
      refine iteF ?_
      refine ⟨_, rfl, W.am, _, rfl, dg_cells d2.m, ?_⟩
      exact ⟨_, rfl, _, rfl, .inl ⟨_, rfl, _, _, rfl, rfl, (show (0:Int) < 64 by decide), _, _, _, _, rfl, rfl, SqL.of d2.c, c1, _, rfl, _, _, rfl, rfl, (by constructor <;> decide), _, _, rfl, rfl, m1, _, _, rfl, rfl, _, rfl, ⟨_, _, rfl, sp0, z1, _, rfl, _, _, rfl, rfl, ⟨_, _, rfl, z3, z2, .inl ⟨_, rfl, _, rfl, _, _, rfl, rfl, l0, mr ed⟩⟩⟩⟩⟩
    · rw [decide_eq_false hg]
      refine iteT ?_
      have hl : 0 < g.great.length := List.length_pos_iff.mpr hg
      have hl' : (0 : Int) < (((g.great.map V.int).length : Nat) : Int) := by rw [List.length_map]; omega
      have hr0 : 0 ≤ g.spot % (((g.great.map V.int).length : Nat) : Int) := Int.emod_nonneg _ (by omega)
      have hr1 : g.spot % (((g.great.map V.int).length : Nat) : Int) < ((g.great.length : Nat) : Int) := by
        have := Int.emod_lt_of_pos g.spot hl'
        rw [List.length_map] at this
        rw [List.length_map]
        exact this
      have hh : (g.spot % (((g.great.map V.int).length : Nat) : Int)).toNat = g.here := by rw [List.length_map]; rfl
      have c2 := atI_ints hr0 hr1
      rw [hh] at c2
      refine ⟨_, rfl, W.am, _, rfl, dg_great d2.m, ?_⟩
      refine ⟨_, rfl, .inl ⟨_, rfl, _, rfl, _, _, rfl, .inl ⟨_, SqL.of d2.gr, rfl⟩, _, _, rfl, rfl, hl', ?_⟩⟩
      refine ⟨_, rfl, _, rfl, _, _, _, _, rfl, rfl, SqL.of d2.gr, c2, ?_⟩
      refine ⟨_, rfl, _, _, rfl, rfl, decide (0 < g.great.getD g.here 0), rfl, ?_⟩
      by_cases hc : 0 < g.great.getD g.here 0
      · rw [decide_eq_true hc]
        refine iteT ?_
        have ed : g.draw lim = (g.great.getD g.here 0 % lim, { g with spot := g.spot + 1, great := g.great.set g.here (g.great.getD g.here 0 / lim) }) := by unfold G.draw; rw [if_neg hg, if_pos hc]
        refine ⟨_, rfl, _, rfl, _, _, rfl, rfl, lim_ok l0 l1 _, ?_⟩
        refine ⟨_, rfl, _, rfl, _, _, _, _, rfl, rfl, d2.gr, ixN_nat hr0 (by rw [List.length_map] at hr1 ⊢; exact hr1), ?_⟩
        refine ⟨_, rfl, .inl ⟨_, rfl, _, rfl, _, _, rfl, rfl, l0, ?_⟩⟩
        rw [hh, map_set_int]
        have := q2 (upd H2 W.ag (.lst ((g.great.set g.here (g.great.getD g.here 0 / lim)).map V.int))) ?_ ?_
        · rw [ed] at this; exact this
        · refine ⟨Ex.refl _, fun b u hb => ?_, fun b u hb ho => ?_, fun b u hb => ?_, fun b u h1 h2 => by rw [h1] at h2; cases h2⟩
          · rw [upd_ne (ne_of_none hb wk.gr)]; exact e2 b u hb
          · rw [upd_ne ho.2.2.1]; exact hb
          · by_cases e : b = W.ag
            · subst e; exact ⟨_, upd_same⟩
            · exact ⟨u, by rw [upd_ne e]; exact hb⟩
        · rw [ed]
          exact ⟨by rw [upd_ne gg.symm]; exact d2.m, by rw [upd_ne d2.ne]; exact d2.c, upd_same, d2.ne, ⟨d2.ok.len, d2.ok.cel, d2.ok.spot, by show (g.great.set _ _).length ≤ 63; rw [List.length_set]; exact d2.ok.gl⟩, tabs_upd d2.tab d2.tne.2.2 (nc_lst d2.gr), tin_upd d2.tin (by intro ps z; cases z)⟩
      · have ed : g.draw lim = (g.mix lim, { g with spot := g.spot + 1 }) := by unfold G.draw; rw [if_neg hg, if_neg hc]
        rw [decide_eq_false hc]
        refine iteF ?_
        refine ⟨_, rfl, W.am, _, rfl, dg_cells d2.m, ?_⟩
        exact ⟨_, rfl, _, rfl, .inl ⟨_, rfl, _, _, rfl, rfl, (show (0:Int) < 64 by decide), _, _, _, _, rfl, rfl, SqL.of d2.c, c1, _, rfl, _, _, rfl, rfl, (by constructor <;> decide), _, _, rfl, rfl, m1, _, _, rfl, rfl, _, rfl, ⟨_, _, rfl, sp0, z1, _, rfl, _, _, rfl, rfl, ⟨_, _, rfl, z3, z2, .inl ⟨_, rfl, _, rfl, _, _, rfl, rfl, l0, mr ed⟩⟩⟩⟩⟩
end
end Bk
set_option Elab.async false
set_option linter.all false
set_option maxRecDepth 100000
set_option maxHeartbeats 4000000
namespace Bk
open PySem PySem.Spec PyProof.Rows L2 Row
open Evl (Ex ex_l ex_t)
def CellsOk (cs : List Int) : Prop := cs.length = 64 ∧ ∀ c ∈ cs, 0 ≤ c ∧ c < 2 ^ 31
theorem CellsOk.set {cs : List Int} (h : CellsOk cs) (i : Nat) {x : Int} (h0 : 0 ≤ x) (h1 : x < 2 ^ 31) : CellsOk (cs.set i x) := by
  refine ⟨by rw [List.length_set]; exact h.1, fun c hc => ?_⟩
  rcases List.mem_or_eq_of_mem_set hc with e | e
  · exact h.2 c e
  · subst e; exact ⟨h0, h1⟩
theorem mod31 (x : Int) : 0 ≤ x % 2147483647 ∧ x % 2147483647 < 2 ^ 31 := by omega
/-- all stays, no further table -/
def ExT (H H' : Hp) : Prop := Ex H H' ∧ ∀ b ps, H' b = some (.tbl ps) → H b = some (.tbl ps)
theorem ExT.refl (H : Hp) : ExT H H := ⟨Ex.refl _, fun _ _ h => h⟩
theorem ExT.trans {H H1 H2 : Hp} (a : ExT H H1) (b : ExT H1 H2) : ExT H H2 := ⟨a.1.trans b.1, fun c ps h => a.2 c ps (b.2 c ps h)⟩
theorem ExT.put {H H' : Hp} {p : Addr} {o : HO} (e : ExT H H') (hp : H p = none) (ho : ∀ ps, o ≠ .tbl ps := by intro _ z; cases z) : ExT H (upd H' p o) := ⟨fun b u hb => by rw [upd_ne (ne_of_none hb hp)]; exact e.1 b u hb, fun b ps h => by
  by_cases hb : b = p
  · subst hb
    rw [upd_same] at h
    exact absurd (Option.some.inj h) (ho ps)
  · rw [upd_ne hb] at h
    exact e.2 b ps h⟩
theorem ExT.new {H : Hp} {p : Addr} {o : HO} (hp : H p = none) (ho : ∀ ps, o ≠ .tbl ps := by intro _ z; cases z) : ExT H (upd H p o) := (ExT.refl H).put hp ho
/-- the drawing state, without the tables -/
structure Draw0 (W : Wd) (g : G) (H : Hp) : Prop where
  m : H W.am = some (mDict W g)
  c : H W.ac = some (.lst (g.cells.map V.int))
  gr : H W.ag = some (.lst (g.great.map V.int))
  ne : W.ac ≠ W.ag
  ok : GOk g
def spFolded (K : PySem.W.Frag) : Sp := fun vs H Q _ => ∃ (a : Addr) (ns : List Int), vs = [.ref a] ∧ SqL K H a (ns.map V.int) ∧ ns.length ≤ 63 ∧
  ∀ (H' : Hp) (p : Addr) (cs : List Int), ExT H H' → H p = none → H' p = some (.lst (cs.map V.int)) → CellsOk cs → Q (.ref p) H'
theorem none_upd {H : Hp} {a b : Addr} {o : HO} (h : upd H a o b = none) : H b = none := by
  by_cases e : b = a
  · subst e; rw [upd_same] at h; cases h
  · rw [upd_ne e] at h; exact h
theorem four {σ : L2.St} {u v : V} (s0 : σ[0]? = some (some u)) (s1 : σ[1]? = some (some v)) (sl : σ.length = 4) : ∃ o2 o3, σ = [some u, some v, o2, o3] := by
  match σ, sl with
  | [a, b, c, d], _ =>
    simp at s0 s1
    subst s0 s1
    exact ⟨c, d, rfl⟩
theorem sqL_ex {K : PySem.W.Frag} {H H' : Hp} {a : Addr} {xs : List V} (e : ExT H H') (h : SqL K H a xs) : SqL K H' a xs := ex_l e.1 h
section
variable {P : Program} {w : World} {K : PySem.W.Frag} {mg : Str → Option Value} {base : Heap} {f fF : Addr} {fd fdF : FuncData}
abbrev nF : List Str := ["_law_script", "_law_found", "_law_n", "_law_cell"]
theorem scF : FnScope nF ["_law_script"] (defScope sFolded) := ⟨rfl, rfl, rfl, by decide +kernel, rfl, by decide +kernel, by decide +kernel⟩
/-- the list at p, all else of H as it was -/
def FInv (H : Hp) (a p : Addr) (σ : L2.St) (H' : Hp) : Prop := σ[0]? = some (some (.ref a)) ∧ σ[1]? = some (some (.ref p)) ∧ σ.length = 4 ∧ H p = none ∧ ExT H H' ∧ ∃ cs, H' p = some (.lst (cs.map V.int)) ∧ CellsOk cs
theorem FInv.put {H H' : Hp} {a p : Addr} {σ : L2.St} {cs : List Int} (h0 : σ[0]? = some (some (.ref a))) (h1 : σ[1]? = some (some (.ref p))) (hl : σ.length = 4) (hp : H p = none) (e : ExT H H') (hc : CellsOk cs) : FInv H a p σ (upd H' p (.lst (cs.map V.int))) :=
  ⟨h0, h1, hl, hp, e.put hp, cs, upd_same, hc⟩
theorem ok_folded (F : FnP K "_law_folded" sFolded f fd) (gI : mg "int" = none) (gR : mg "range" = none) (gE : mg "enumerate" = none) : FnOkG P w K mg base CX0 1 f fd ["_law_script"] (spFolded K) := by
  refine FunD.okG F scF (fun vs H Q E h => ?_) (fun cdv A outer s H vs Q E hr hgd h => ?_)
  · obtain ⟨a, ns, rfl, _⟩ := h
    rfl
  · obtain ⟨a, ns, rfl, hS, hl, q⟩ := h
    have bo : BlkOk nF (defScope sFolded) ⟨.function, [(Str.ofString ".0", .local), (Str.ofString "_law_n", .local)], false, false, []⟩ [("_law_n", 2)] := blkOk_by (by decide +kernel)
    refine ⟨_, pss_cons (ps_setLc (i := 1) (own := [("_law_n", 2)]) rfl scF.nd rfl rfl (sw_true rfl rfl rfl (by decide +kernel)) (pi_range1 rfl gR (pa_cons pe_int pa_nil)) bo (fun _ _ _ _ _ => pg_name (i := 2) scF.nd rfl (Or.inl rfl) (Or.inr rfl)) (fun _ _ _ _ _ => pts_nil) (fun _ _ _ _ _ => pe_op op_add pe_int (pv 2)))
      (pss_cons (ps_for (passes_of rfl) rfl (pi_enum rfl gE (pa_cons (pv 0) pa_nil)) (pg_tup rfl (pgs_cons (pg_name (i := 2) scF.nd rfl (Or.inl rfl) (Or.inr rfl)) (pgs_cons (pg_name (i := 3) scF.nd rfl (Or.inl rfl) (Or.inr rfl)) pgs_nil)))
          (pss_one (ps_asg (pe_op op_mod (pe_callTy call_int1 rfl gI boot_int (pa_cons (pe_op op_add (pe_op op_mul (pe_ix ix_list (pv 1) (pe_op op_mod (pe_callTy call_int1 rfl gI boot_int (pa_cons (pv 2) pa_nil)) pe_int) fun _ _ => rfl) pe_int) (pv 3)) pa_nil)) pe_int)
            (pg_sub (pv 1) (pe_op op_mod (pe_callTy call_int1 rfl gI boot_int (pa_cons (pv 2) pa_nil)) pe_int) set_list))))
      (pss_cons (ps_for (passes_of rfl) rfl (pi_range2 rfl gR (pa_cons pe_int (pa_cons pe_int pa_nil))) (pg_name (i := 2) scF.nd rfl (Or.inl rfl) (Or.inr rfl))
          (pss_one (ps_asg (pe_op op_mod (pe_callTy call_int1 rfl gI boot_int (pa_cons (pe_op op_add (pe_ix ix_list (pv 1) (pv 2) fun _ _ => rfl) (pe_op op_mul (pe_ix ix_list (pv 1) (pe_op op_sub (pv 2) pe_int) fun _ _ => rfl) pe_int)) pa_nil)) pe_int)
            (pg_sub (pv 1) (pv 2) set_list))))
      (pss_one (ps_ret (pv 1))))), ?_⟩
    refine ⟨64, rfl, by decide, by decide, fun p hp => lc_range (fun i H' => ∃ cs : List Int, H' = upd H p (.lst (cs.map V.int)) ∧ cs.length = i ∧ ∀ c ∈ cs, 0 ≤ c ∧ c < 2 ^ 31) ⟨[], rfl, rfl, by simp⟩ (fun i H' hi ⟨cs, e, h1, h2⟩ => ?_) fun H' ⟨cs, e, h1, h2⟩ => ?_⟩
    · refine ⟨rfl, ?_⟩
      unfold tYes
      simp only [if_true]
      refine ⟨_, rfl, _, _, rfl, rfl, cs.map V.int, by rw [e]; exact upd_same, size_lt (by rw [List.length_map, h1]; omega), cs ++ [17 + (0 + (i : Int))], ?_, by simp [h1], fun c hc => ?_⟩
      · rw [e, upd_upd]
        congr 2
        rw [List.map_append]
        rfl
      · rcases List.mem_append.mp hc with z | z
        · exact h2 c z
        · have := List.mem_singleton.mp z
          omega
    · subst e
      refine ⟨_, rfl, a, ns.map V.int, rfl, ?_, for_it walk_enum (fun _ => FInv H a p) (FInv.put rfl rfl rfl hp (ExT.refl _) ⟨h1, h2⟩) (fun i σ H2 _ iv => sqL_ex iv.2.2.2.2.1 hS) (fun i x σ H2 H3 hi iv y => ?_) fun σ H2 iv => ?_⟩
      · exact sqL_ex (ExT.new hp) hS
      · obtain ⟨T, x1, x2, rfl, hT, rfl, e1, e2⟩ := y
        obtain ⟨s0, s1, sl, hp, ex, cs2, hc, ok⟩ := iv
        have nTp : p ≠ T := ne_of_none hc hT
        have hc3 : upd H2 T (.tup [x1, x2]) p = some (.lst (cs2.map V.int)) := by rw [upd_ne nTp]; exact hc
        have ex3 : ExT H (upd H2 T (.tup [x1, x2])) := ex.trans (ExT.new hT)
        cases e1
        have e2 : (ns.map V.int)[i]? = some x2 := e2
        rw [List.getElem?_map] at e2
        obtain ⟨n, _, rfl⟩ := Option.map_eq_some_iff.mp e2
        obtain ⟨o2, o3, rfl⟩ := four s0 s1 sl
        have hT3 : SqT K (upd H2 T (.tup [V.int (i : Nat), V.int n])) T [V.int (i : Nat), V.int n] := SqT.of upd_same
        generalize upd H2 T (.tup [V.int (i : Nat), V.int n]) = H3 at hc3 ex3 hT3 ⊢
        have r0 : 0 ≤ ((i : Nat) : Int) % 64 := by omega
        have r1 : ((i : Nat) : Int) % 64 < cs2.length := by rw [ok.1]; omega
        refine ⟨T, _, rfl, hT3, rfl, _, _, rfl, _, _, rfl, rfl, ?_⟩
        refine ⟨_, rfl, _, rfl, .inl ⟨_, rfl, _, _, rfl, rfl, (show (0:Int) < 64 by decide), _, _, _, _, rfl, rfl, SqL.of hc3, atI_ints r0 r1, _, _, rfl, rfl, .inr (by decide), _, rfl, _, _, rfl, rfl, .inl ⟨_, rfl, _, _, rfl, rfl, (show (0:Int) < 2147483647 by decide), ?_⟩⟩⟩
        refine ⟨_, rfl, _, rfl, .inl ⟨_, rfl, _, _, rfl, rfl, (show (0:Int) < 64 by decide), _, _, _, _, rfl, rfl, hc3, ixN_nat r0 (by rw [List.length_map]; exact r1), ?_⟩⟩
        rw [map_set_int]
        exact FInv.put rfl rfl rfl hp ex3 (ok.set _ (mod31 _).1 (mod31 _).2)
      · refine ⟨_, _, rfl, by decide, for_it walk_range (fun _ => FInv H a p) iv (fun _ _ _ _ _ => trivial) (fun i x σ H2 H3 hi iv y => ?_) fun σ H2 iv => ?_⟩
        · obtain ⟨rfl, rfl⟩ := y
          obtain ⟨s0, s1, sl, hp, ex, cs2, hc, ok⟩ := iv
          obtain ⟨o2, o3, rfl⟩ := four s0 s1 sl
          have hi : i < 63 := hi
          have r0 : 0 ≤ 1 + ((i : Nat) : Int) := by omega
          have r1 : 1 + ((i : Nat) : Int) < cs2.length := by rw [ok.1]; omega
          have t0 : 0 ≤ 1 + ((i : Nat) : Int) - 1 := by omega
          have t1 : 1 + ((i : Nat) : Int) - 1 < cs2.length := by rw [ok.1]; omega
          refine ⟨_, rfl, _, rfl, _, _, _, _, rfl, rfl, SqL.of hc, atI_ints r0 r1, _, rfl, _, rfl, _, _, rfl, rfl, _, _, _, _, rfl, rfl, SqL.of hc, atI_ints t0 t1, _, _, rfl, rfl, .inr (by decide), _, _, rfl, rfl, .inl ⟨_, rfl, _, _, rfl, rfl, (show (0:Int) < 2147483647 by decide), ?_⟩⟩
          refine ⟨_, rfl, _, rfl, _, _, _, _, rfl, rfl, hc, ixN_nat r0 (by rw [List.length_map]; exact r1), ?_⟩
          rw [map_set_int]
          exact FInv.put rfl rfl rfl hp ex (ok.set _ (mod31 _).1 (mod31 _).2)
        · obtain ⟨s0, s1, sl, hp, ex, cs2, hc, ok⟩ := iv
          exact ⟨_, s1, q H2 p cs2 ex hp hc ok⟩
theorem bF (F : FnP K "_law_folded" sFolded f fd) : Binds K fd ["_law_script"] [] := FunD.bindsN F fun _ _ _ _ _ _ us hl => match us, hl with | [_], _ => rfl
def spBegun (K : PySem.W.Frag) : Sp := fun vs H Q _ => ∃ (a : Addr) (ns : List Int), vs = [.ref a] ∧ SqL K H a (ns.map V.int) ∧ ns.length ≤ 63 ∧
  ∀ (H' : Hp) (W : Wd) (g : G), ExT H H' → H W.am = none → H W.ac = none → H W.ag = none → Draw0 W g H' → g.spot = 0 → Q (.ref W.am) H'
abbrev nB : List Str := ["_law_script", "_law_m", "_law_cell"]
theorem scB : FnScope nB ["_law_script"] (defScope sBegun) := ⟨rfl, rfl, rfl, by decide +kernel, rfl, by decide +kernel, by decide +kernel⟩
theorem ok_begun (F : FnP K "_law_begun" sBegun f fd) (FF : FnP K "_law_folded" sFolded fF fdF) (gF : mg "_law_folded" = some (.ref fF)) (gI : mg "int" = none) (gR : mg "range" = none) (gE : mg "enumerate" = none) : FnOkG P w K mg base CX0 2 f fd ["_law_script"] (spBegun K) := by
  have GF : FnOkG P w K mg base CX0 1 fF fdF ["_law_script"] (spFolded K) := ok_folded FF gI gR gE
  refine FunD.okG F scB (fun vs H Q E h => ?_) (fun cdv A outer s H vs Q E hr hgd h => ?_)
  · obtain ⟨a, ns, rfl, _⟩ := h
    rfl
  · obtain ⟨a, ns, rfl, hS, hl, q⟩ := h
    have hu : (A.deeper (envOfC "_law_begun" (defScope sBegun) s.heap.objs.size f cdv)).units + 1 < cLine := by have := hr.un; omega
    have bo : BlkOk nB (defScope sBegun) ⟨.function, [(Str.ofString ".0", .local), (Str.ofString "_law_cell", .local)], false, false, []⟩ [("_law_cell", 2)] := blkOk_by (by decide +kernel)
    refine ⟨_, pss_cons (ps_set (i := 1) scB.nd rfl (Or.inl rfl) (pe_disp (pps_cons pe_str (pe_callG GF hr hgd rfl gF FF.kp (bF FF) .nil pass0 (pa_cons (pv 0) pa_nil) rfl rfl rfl) (pps_cons pe_str (pe_lst pa_nil) (pps_cons pe_str pe_int pps_nil))) rfl rfl (by simp) (by decide)))
      (pss_cons (ps_dput hu (pv 1) pe_str (pe_lc (own := [("_law_cell", 2)]) rfl scB.nd (pi_list (pv 0)) bo (fun _ _ _ _ _ => pg_name (i := 2) scB.nd rfl (Or.inl rfl) (Or.inr rfl)) (fun _ _ _ _ _ => pts_nil) (fun _ _ _ _ _ => pe_ifExp (pt_cmp (pc_ge (pv 2) (pe_op op_pow pe_int pe_int))) (pv 2) pe_int)) rfl)
      (pss_one (ps_ret (pv 1)))), ?_⟩
    intro m hm
    refine ⟨_, rfl, a, ns, rfl, sqL_ex (ExT.new hm) hS, hl, fun H2 c cs ex hc h2 ok => ?_⟩
    have m2 : H2 m = some (.dK []) := ex.1 m _ upd_same
    have ex0 : ExT H H2 := (ExT.new hm).trans ex
    refine ⟨Nat.zero_le _, fun gr hgr => ⟨?_, [(.inr "cells", .ref c), (.inr "great", .ref gr), (.inr "spot", .int 0)], rfl, (show 3 ≤ 15 by decide), ?_⟩⟩
    · rw [upd_ne (ne_of_none m2 hgr)]; exact m2
    have nmg : m ≠ gr := ne_of_none m2 hgr
    have ncg : c ≠ gr := ne_of_none h2 hgr
    have hc0 : H c = none := none_upd hc
    have nmc : m ≠ c := fun e => by rw [← e, upd_same] at hc; cases hc
    have hg0 : H gr = none := by
      cases z : H gr with
      | none => rfl
      | some o => rw [ex0.1 gr o z] at hgr; cases hgr
    have exm : ExT H (upd (upd H2 gr (.lst [])) m (.dK [(.inr "cells", .ref c), (.inr "great", .ref gr), (.inr "spot", .int 0)])) := (ex0.put hg0).put hm
    refine ⟨_, rfl, a, rfl, ⟨ns.map V.int, sqL_ex exm hS⟩, fun D hD => ?_⟩
    have hD : upd (upd H2 gr (.lst [])) m (.dK [(.inr "cells", .ref c), (.inr "great", .ref gr), (.inr "spot", .int 0)]) D = none := hD
    generalize hH4 : upd (upd H2 gr (.lst [])) m (.dK [(.inr "cells", .ref c), (.inr "great", .ref gr), (.inr "spot", .int 0)]) = H4 at exm hD
    have c4 : H4 c = some (.lst (cs.map V.int)) := by rw [← hH4, upd_ne (Ne.symm nmc), upd_ne ncg]; exact h2
    have m4 : H4 m = some (.dK [(.inr "cells", .ref c), (.inr "great", .ref gr), (.inr "spot", .int 0)]) := by rw [← hH4]; exact upd_same
    have hD0 : H D = none := by
      cases z : H D with
      | none => rfl
      | some o => rw [exm.1 D o z] at hD; cases hD
    have nmD : m ≠ D := ne_of_none m4 hD
    have ncD : c ≠ D := ne_of_none c4 hD
    have hu4 : upd (upd H2 gr (.lst [])) m (.dK (mergeK [] [(.inr "cells", .ref c), (.inr "great", .ref gr), (.inr "spot", .int 0)])) = H4 := hH4
    rw [hu4]
    refine lc_list (xs := ns.map V.int) (fun i H' => ∃ xs : List Int, H' = upd H4 D (.lst (xs.map V.int)) ∧ xs.length = i) ⟨[], rfl, rfl⟩ (fun i H' _ ⟨xs, e, _⟩ => by rw [e]; exact sqL_ex (exm.trans (ExT.new hD)) hS) (fun i x H' hx ⟨xs, e, h1⟩ => ?_) fun H' ⟨xs, e, h1⟩ => ?_
    · rw [List.getElem?_map] at hx
      obtain ⟨n, hn, rfl⟩ := Option.map_eq_some_iff.mp hx
      have hi : i < ns.length := (List.getElem?_eq_some_iff.mp hn).1
      refine ⟨rfl, ?_⟩
      unfold tYes
      simp only [if_true]
      have last : ∀ y : Int, ∃ acc, H' D = some (.lst acc) ∧ acc.length < sizeLine ∧ ∃ ys : List Int, upd H' D (.lst (acc ++ [V.int y])) = upd H4 D (.lst (ys.map V.int)) ∧ ys.length = i + 1 := fun y => ⟨xs.map V.int, by rw [e]; exact upd_same, size_lt (by rw [List.length_map, h1]; omega), xs ++ [y], by rw [e, upd_upd, List.map_append]; rfl, by simp [h1]⟩
      refine ⟨_, rfl, _, _, rfl, rfl, by unfold CPow; decide, _, _, rfl, rfl, decide ((10 : Int) ^ (18 : Int).toNat ≤ n), rfl, ?_⟩
      by_cases hq : (10 : Int) ^ (18 : Int).toNat ≤ n
      · rw [decide_eq_true hq]
        refine iteT ?_
        exact ⟨_, rfl, last n⟩
      · rw [decide_eq_false hq]
        refine iteF ?_
        exact last 0
    · subst e
      have exD : ExT H (upd H4 D (.lst (xs.map V.int))) := exm.trans (ExT.new hD)
      refine ⟨_, rfl, m, _, rfl, DPut.k (k := .inr "great") (by rw [upd_ne nmD]; exact m4) (by show 3 < sizeLine; decide), ?_⟩
      refine ⟨_, rfl, ?_⟩
      refine q _ ⟨m, c, D, w, K, [], [], m, fun _ => none, fun _ => none⟩ ⟨cs, xs, 0⟩ (exD.put hm) hm hc0 hD0 ⟨upd_same, ?_, ?_, ncD, ok.1, ok.2, Int.le_refl _, ?_⟩ rfl
      · rw [upd_ne (Ne.symm nmc), upd_ne ncD]; exact c4
      · rw [upd_ne (Ne.symm nmD)]; exact upd_same
      · rw [List.length_map] at h1
        show xs.length ≤ 63
        omega
end
end Bk
set_option Elab.async false
set_option linter.all false
set_option maxRecDepth 100000
set_option maxHeartbeats 4000000
namespace Bk
open PySem PySem.Spec PyProof.Rows L2 Row
open Evl (Ex ex_l ex_t)
/-- nothing but the script and the tables of code objects -/
structure Begin (K : PySem.W.Frag) (a : Addr) (ns : List Int) (ts : List Addr) (H : Hp) : Prop where
  tab : ∀ b ∈ ts, H b = some (.tbl #[])
  only : ∀ b u, H b = some u → (b ∈ ts ∧ u = .tbl #[]) ∨ (b = a ∧ K.lookup a = none ∧ ∃ o, u = .frz o (.lst (ns.map V.int)))
  scr : SqL K H a (ns.map V.int)
theorem begin_of {P : Program} {w : World} {K : PySem.W.Frag} {a : Addr} {ts : List Addr} {h : Heap} {vs : List Value} {ns : List Int} (KX : K.In h) (hT : ∀ b ∈ ts, h.get? b = some { cls := .none, data := .fields #[] })
    (ha : h.get? a = some { cls := .type "list", data := .seq vs.toArray }) (hi : IntsAre vs ns) (hl : ns.length ≤ sizeLine) : ∃ H, Begin K a ns ts H ∧ HOk P w H h := by
  have rv := vals_ints hi
  have aT : a ∉ ts := fun z => by
    have q := hT a z
    rw [ha] at q
    have := congrArg Obj.data (Option.some.inj q)
    cases this
  cases hk : K.lookup a with
  | some o =>
    have e := KX a o hk
    rw [ha] at e
    cases e
    refine ⟨fun b => if b ∈ ts then some (.tbl #[]) else none, ⟨fun b hb => if_pos hb, fun b u e => ?_, .inr ⟨_, vs.toArray, _, hk, rfl, rfl, rfl, by rw [List.size_toArray, hi.length]; exact hl, by simpa using rv⟩⟩, fun b u e => ?_⟩
    · by_cases hb : b ∈ ts
      · have e : (if b ∈ ts then some (HO.tbl #[]) else none) = some u := e
        rw [if_pos hb] at e
        exact .inl ⟨hb, (Option.some.inj e).symm⟩
      · have e : (if b ∈ ts then some (HO.tbl #[]) else none) = some u := e
        rw [if_neg hb] at e
        cases e
    · have e : (if b ∈ ts then some (HO.tbl #[]) else none) = some u := e
      by_cases hb : b ∈ ts
      · rw [if_pos hb] at e
        cases e
        exact hT b hb
      · rw [if_neg hb] at e
        cases e
  | none =>
    refine ⟨fun b => if b ∈ ts then some (.tbl #[]) else if b = a then some (.frz { cls := .type "list", data := .seq vs.toArray } (.lst (ns.map V.int))) else none, ⟨fun b hb => if_pos hb, fun b u e => ?_, .inl (.inr ⟨_, (if_neg aT).trans (if_pos rfl)⟩)⟩, fun b u e => ?_⟩
    · have e : (if b ∈ ts then some (HO.tbl #[]) else if b = a then some (HO.frz { cls := .type "list", data := .seq vs.toArray } (.lst (ns.map V.int))) else none) = some u := e
      by_cases hb : b ∈ ts
      · rw [if_pos hb] at e
        exact .inl ⟨hb, (Option.some.inj e).symm⟩
      · rw [if_neg hb] at e
        by_cases hba : b = a
        · rw [if_pos hba] at e
          exact .inr ⟨hba, hk, _, (Option.some.inj e).symm⟩
        · rw [if_neg hba] at e
          cases e
    · have e : (if b ∈ ts then some (HO.tbl #[]) else if b = a then some (HO.frz { cls := .type "list", data := .seq vs.toArray } (.lst (ns.map V.int))) else none) = some u := e
      by_cases hb : b ∈ ts
      · rw [if_pos hb] at e
        cases e
        exact hT b hb
      · rw [if_neg hb] at e
        by_cases hba : b = a
        · rw [if_pos hba] at e
          cases e
          rw [hba]
          exact ⟨ha, by rw [List.length_map]; exact hl, vs, _, rv, ha⟩
        · rw [if_neg hba] at e
          cases e
theorem law_callT {P : Program} {w : World} {K : PySem.W.Frag} {mg mb : Str → Option Value} {CX : CXT} {k : Nat} {fa a : Addr} {cs : List (Addr × Addr)} {fd : FuncData} {x : Str} {sp : Sp} {s1 : Shared} {vs : List Value} {ns : List Int}
    (KX : K.In s1.heap) (hns : s1.heap.Ns mainGlobals mg) (hb : s1.heap.Ns builtinsNs mb) (hbb : ∀ x : Str, x ≠ "__name__" → mb x = bootBuiltins x) (hlim : s1.heap.NoLimit) (hg : s1.gens = #[])
    (hT : ∀ p ∈ cs, s1.heap.get? p.2 = some { cls := .none, data := .fields #[] }) (nT : ∀ p ∈ cs, K.lookup p.2 = none) (C : ∀ p ∈ cs, PySem.W.CodeHd s1.heap p.1 p.2)
    (hbm : ∃ (bm : Addr) (ob : Obj), mg "__builtins__" = some (.ref bm) ∧ bm ≠ builtinsNs ∧ s1.heap.get? bm = some ob ∧ ob.cls = .type "module" ∧ ob.dict = some builtinsNs ∧ ob.data = .plain)
    (ha : s1.heap.get? a = some { cls := .type "list", data := .seq vs.toArray }) (hi : IntsAre vs ns) (hl : ns.length ≤ sizeLine) (hr : Room k callerA)
    (F : ∀ base : Heap, K.In base → base.Ns mainGlobals mg → (∀ p ∈ cs, LamX.TabB base mg p.1 p.2) → FnOkG P w K mg base CX k fa fd [x] sp) (hbind : ∀ (s : Shared) (u : Value), BindsTo s fd ⟨[u], []⟩ [(x, u)])
    (hsp : ∀ H : Hp, Begin K a ns (cs.map (·.2)) H → sp [.ref a] H (fun v _ => v = .bl true) fun _ _ _ => False)
    (hCX : ∀ H e s', CX [] H s1 (fun _ _ _ => False) e s' → False) :
    codeAny (model P w) callerA (.call (.ref fa) ⟨[.ref a], []⟩) (fun r s' => r = .ok (.ret (.bool true)) ∧ OldK s1.heap s'.heap ∧ s'.os = s1.os ∧ AllBare s'.gens) s1 := by
  have isT : ∀ b ∈ cs.map (·.2), s1.heap.get? b = some { cls := .none, data := .fields #[] } := fun b hb => by
    obtain ⟨p, hp, rfl⟩ := List.mem_map.mp hb
    exact hT p hp
  obtain ⟨H, B, hok⟩ := begin_of (P := P) (w := w) KX isT ha hi hl
  -- what is no list and no empty record is not tracked
  have free : ∀ {b : Addr} {o : Obj}, s1.heap.get? b = some o → (∀ vs n, o.data ≠ .seq vs n) → o.data ≠ .fields #[] → H b = none := by
    intro b o e n1 n2
    cases q : H b with
    | none => rfl
    | some u =>
      rcases B.only b u q with ⟨z, _⟩ | ⟨z, _, _⟩
      · rw [isT b z] at e
        cases e
        exact absurd rfl n2
      · rw [z, ha] at e
        cases e
        exact absurd rfl (n1 _ _)
  have dict : ∀ {b : Addr} {o : Obj} {es : Array DictEntry} {ep : Nat}, s1.heap.get? b = some o → o.data = .dict es ep → H b = none := by
    intro b o es ep e d
    exact free e (fun vs n z => by rw [d] at z; cases z) (fun z => by rw [d] at z; cases z)
  have toB : ∀ {b : Addr} {m : Str → Option Value}, s1.heap.Ns b m → (hidT s1.heap H).Ns b m := by
    rintro b m ⟨o, es, ep, e, d, r⟩
    exact ⟨o, es, ep, hidT_get e (dict e d), d, r⟩
  have KB : K.In (hidT s1.heap H) := fun b o e => hidT_get (KX b o e) (by
    cases q : H b with
    | none => rfl
    | some u =>
      rcases B.only b u q with ⟨z, _⟩ | ⟨z, zk, _⟩
      · obtain ⟨p, hp, rfl⟩ := List.mem_map.mp z
        rw [nT p hp] at e
        cases e
      · rw [z, zk] at e
        cases e)
  have M : Mod K mg (hidT s1.heap H) := ⟨KB, toB hns, ⟨mb, toB hb, hbb⟩, let ⟨mc, q1, q2⟩ := hlim; ⟨mc, toB q1, q2⟩⟩
  have TB : ∀ p ∈ cs, LamX.TabB (hidT s1.heap H) mg p.1 p.2 := by
    intro p hp
    have hTp := hT p hp
    refine ⟨?_, ?_, fun z => ?_⟩
    · obtain ⟨o, us, file, tf, flags, tg, inF, text, tt, e1, r1, r2, r3, r4, r5, r6, r7, r8, hne⟩ := C p hp
      exact ⟨o, us, file, tf, flags, tg, inF, text, tt, hidT_get e1 (free e1 (fun vs n z => by rw [r2] at z; cases z) (fun z => by rw [r2] at z; cases z; simp at r3)), r1, r2, r3, r4, r5, r6, r7, r8, hne⟩
    · obtain ⟨bm, ob, b1, b2, b3, b4, b5, b6⟩ := hbm
      refine ⟨bm, ob, b1, b2, fun q => ?_, fun q => ?_, hidT_get b3 (free b3 (fun vs n z => by rw [b6] at z; cases z) (fun z => by rw [b6] at z; cases z)), b4, b5, b6⟩
      · obtain ⟨o, es, ep, e, hd, _⟩ := hns
        rw [q, e] at b3
        cases b3
        rw [hd] at b6
        cases b6
      · rw [q, hTp] at b3
        cases b3
        cases b6
    · obtain ⟨o, es, ep, e, hd, _⟩ := hns
      rw [z, hTp] at e
      cases e
      cases hd
  have e0 : Env0 P w K mg (hidT s1.heap H) callerA [] s1 H := ⟨rfl, M, fun b o e => of_hidT e, Nat.le_of_eq (hidT_size _ _), trivial, fun b hb => absurd (show b ∈ ([] : List Addr) from hb) (by simp), hok, .of_eq hg⟩
  refine codeAny_mono ((F _ KB (toB hns) TB).run callerA [] s1 H ⟨[.ref a], []⟩ [.ref a] [.ref a] _ _ hr rfl e0 (hbind s1 (.ref a)) (.cons rfl .nil) (hsp H B)) fun r s' h => ?_
  rcases r with e | (_ | _ | _ | u)
  · exact (hCX H e s' h).elim
  · exact False.elim h
  · exact False.elim h
  · exact False.elim h
  obtain ⟨v, H', os, bare, un, hok', r', q⟩ := h
  have q' : v = .bl true := q
  subst q'
  obtain rfl : u = Value.bool true := r'
  have keep : ∀ b o, b ∉ cs.map (·.2) → s1.heap.get? b = some o → s'.heap.get? b = some o := by
    intro b o nb e
    cases q : H b with
    | none => exact un.keep b o e q (by intro z; exact absurd (show b ∈ ([] : List Addr) from z) (by simp)) (by simp)
    | some u =>
      rcases B.only b u q with ⟨z, _⟩ | ⟨_, _, ob, rfl⟩
      · exact absurd z nb
      · obtain ⟨e1, _⟩ := hok b _ q
        obtain ⟨e2, _⟩ := hok' b _ (un.frzs b ob _ q)
        rw [e] at e1
        cases e1
        exact e2
  have more : ∀ p ∈ cs, ∃ m : Array Value, s'.heap.get? p.2 = some { cls := .none, data := .fields m } := by
    intro p hp
    obtain ⟨m, z⟩ := un.tbls p.2 #[] (B.tab _ (List.mem_map.mpr ⟨p, hp, rfl⟩))
    exact ⟨_, hok' p.2 _ z⟩
  refine ⟨rfl, ⟨fun b o e => ?_, fun b o e => ?_⟩, os, bare⟩
  · by_cases hb : b ∈ cs.map (·.2)
    · obtain ⟨p, hp, rfl⟩ := List.mem_map.mp hb
      obtain ⟨m, hm⟩ := more p hp
      rw [hT p hp] at e
      cases e
      exact .inr (.inl ⟨((C p hp).tab (hT p hp)).isCodeTable, rfl, #[], m, rfl, by rw [Array.empty_append]; exact hm⟩)
    · exact .inl (keep b o hb e)
  · by_cases hb : b ∈ cs.map (·.2)
    · obtain ⟨p, hp, rfl⟩ := List.mem_map.mp hb
      obtain ⟨m, hm⟩ := more p hp
      exact ⟨_, hm⟩
    · exact ⟨o, keep b o hb e⟩
theorem walk_T {l : PySem.W.OpenLaw} {n k : Nat} {q : Program} {loose : List Str} {XP : (Str → Option Value) → Heap → Prop} {YP : World → Heap → Prop} {d : DefRec} {CX : World → CXT} {x : Str}
    (hn : l.most = some n) (hn2 : n ≤ sizeLine) (hdf : d.params.defaults = []) (hr : Room k callerA)
    (F : ∀ (w : World) (mg : Str → Option Value) (fa : Addr) (h : Heap), YP w h → h.Ns mainGlobals mg → mg d.name = some (.ref fa) →
      ∃ (K : PySem.W.Frag) (fd : FuncData) (sp : Sp) (cs : List (Addr × Addr)), K.In h ∧ (∀ p ∈ cs, h.get? p.2 = some { cls := .none, data := .fields #[] }) ∧ (∀ p ∈ cs, K.lookup p.2 = none) ∧ (∀ p ∈ cs, PySem.W.CodeHd h p.1 p.2) ∧ (∀ (s : Shared) (u : Value), BindsTo s fd ⟨[u], []⟩ [(x, u)]) ∧
        (∀ (H : Hp) (a : Addr) (ns : List Int), ns.length ≤ n → Begin K a ns (cs.map (·.2)) H → sp [.ref a] H (fun v _ => v = .bl true) fun _ _ _ => False) ∧
        ∀ base : Heap, K.In base → base.Ns mainGlobals mg → (∀ p ∈ cs, LamX.TabB base mg p.1 p.2) → FnOkG l.prog w K mg base (CX w) k fa fd [x] sp)
    (hCX : ∀ (w : World) (H : Hp) (s : Shared) (e : Value) (s' : Shared), CX w [] H s (fun _ _ _ => False) e s' → False) :
    PySem.W.WalkO q loose XP YP l.row.toRowW d [] (fun f vs => PySem.call f vs) := by
  refine Att.attach_call hn hdf fun w s0 s1 mg mb fa o pm cd doc a vs ns G Y ho hd hcd hmg hobj hints hlen hg => ?_
  obtain ⟨K, fd, sp, cs, KX, hT, nT, C, hb, hsp, hF⟩ := F w mg fa _ Y G.T.g hmg
  exact law_callT KX G.T.g G.T.b G.T.builtins G.T.nolimit hg hT nT C G.T.bmain hobj hints (Nat.le_trans hlen hn2) hr hF hb (fun H hB => hsp H a ns hlen hB) fun H e s' => hCX w H s1 e s'
def spLaw (K : PySem.W.Frag) (ts : List Addr) : Sp := fun vs H Q _ => ∃ (a : Addr) (ns : List Int), vs = [.ref a] ∧ Begin K a ns ts H ∧ ns.length ≤ 63 ∧ ∀ H', Q (.bl true) H'
def gm0 (m : Nat) (ns : List Int) : Gm := .val (.scr ns) :: .val .m :: List.replicate m .no
/-- the tables are not among what is known -/
def noTab (H : Hp) : Hp := fun b => match H b with
  | some (.tbl _) => none
  | o => o
theorem noTab_ex (H : Hp) : Ex (noTab H) H := fun b o e => by
  unfold noTab at e
  split at e
  · cases e
  · exact e
theorem noTab_at {H : Hp} {b : Addr} {o : HO} (h : H b = some o) (n : ∀ ps, o ≠ .tbl ps) : noTab H b = some o := by
  unfold noTab
  split
  · rename_i ps e
    rw [h] at e
    exact absurd (Option.some.inj e) (n ps)
  · exact h
theorem noTab_none {H : Hp} {b : Addr} {ps : Array Value} (h : H b = some (.tbl ps)) : noTab H b = none := by
  unfold noTab
  rw [h]
theorem noTab_n {H : Hp} {b : Addr} (h : H b = none) : noTab H b = none := by
  unfold noTab
  rw [h]
theorem sqL_noTab {K : PySem.W.Frag} {H : Hp} {a : Addr} {xs : List V} (h : SqL K H a xs) : SqL K (noTab H) a xs := by
  rcases h with (h | ⟨o, h⟩) | h
  · exact .inl (.inl (noTab_at h fun ps z => by cases z))
  · exact .inl (.inr ⟨o, noTab_at h fun ps z => by cases z⟩)
  · exact .inr h
section
variable {P : Program} {w : World} {K : PySem.W.Frag} {mg : Str → Option Value} {base : Heap} {pn : PrN} {p : Pr} {f fB : Addr} {fd fdB : FuncData} {xc : List (Nat × Addr × List Str)} {tb : List (Addr × Str)}
theorem pss_ex {α : Type} {X : Cx} {st : List Stmt} {t : α → TS} (h : ∀ a, PSs X st (t a)) : PSs X st (fun D σ H => ∃ a, t a D σ H) := ⟨fun pins s σ H D I ⟨a, q⟩ => (h a).run pins s σ H D I q⟩
theorem ok_law (w0 : World0 P w K mg base pn p xc tb) {params : Arguments} {scope : Scope} {N : List Str} {n k : Nat} {lam : Bool} {lawB : B} {st0 : Stmt} {rest : List Stmt} {y : Str} {p1 p2 p3 p4 pos : Pos} (F : FunD K "law" "law" params (st0 :: rest) scope [] [] f fd) (S : FnScope ("_law_script" :: y :: N) ["_law_script"] scope) (hN : ∀ z ∈ (("_law_script" : Str) :: y :: N), okN z = true)
    (e0 : st0 = .Assign [.Name y p1] (.Call (.Name "_law_begun" p2) [.Name "_law_script" p3] [] p4) pos) (hy : locB ⟨[], scope, fun _ => true, false, none⟩ y = true) (hgb : scope.names.lookup ("_law_begun" : Str) = some .globalImplicit)
    (gB : mg "_law_begun" = some (.ref fB)) (kB : PySem.W.keepIn K (.ref fB) = true) (bB : Binds K fdB ["_law_script"] []) (GB : FnOkG P w K mg base CX0 2 fB fdB ["_law_script"] (spBegun K))
    (hc : chkB n pn ⟨"_law_script" :: y :: N, scope, fun _ => true, lam, none⟩ rest lawB = true) (hlam : lam = true → LamD mg base tb "law" fd.code)
    (hlaw : ∀ (ns : List Int) (g : G), ns.length ≤ 63 → GOk g → g.spot = 0 → ∃ g', evB p.cs (den p k) lawB (gm0 N.length ns) g = .ok (.rt (.bl true)) g') :
    FnOkG P w K mg base (L2.CX P w) (ix (k + 1)) f fd ["_law_script"] (spLaw K (tb.map (·.1))) := by
  obtain ⟨oc, od, dV, kV, doc, pm, an, cdv, ct, osl, rfl, lk, hcd, _, _⟩ := F.ex
  refine FnOkG.mono (j := 4 * k + 5 + 1) (fn_ofG lk hcd S (fun vs H Q E h => ?_) fun A outer s H vs Q E hr hgd h => ?_) (by unfold ix; omega)
  · obtain ⟨a, ns, rfl, _⟩ := h
    rfl
  · obtain ⟨a, ns, rfl, hB, hl, q⟩ := h
    subst e0
    have hy' : Loc scope y := by
      unfold locB at hy
      split at hy
      · rename_i e; exact .inl e
      · rename_i e; exact .inr e
      · cases hy
    have vs0 : Vis scope "_law_script" := by
      rcases S.par "_law_script" (by simp) with z | z
      · exact .inl z
      · exact .inr (.inl z)
    have ok := fun (W : Wd) (hw : WIs W w K xc tb) => ok_body (W := W) (outer := outer) (H := H) (E := E) (kl := den p k) (lv := none) w0 hw (fun _ _ => rfl) (defs_all w0 k k (Nat.le_refl _) W hw) S hN hr hgd hlam (fun hl => lams_ok w0 hw (fun j hj => defs_all w0 k j (by omega)) S hr hgd (hlam hl)) (fun hl => lams0_ok w0 hw (fun j hj => defs_all w0 k j (by omega)) S hr hgd (hlam hl)) (fun x j z => by cases z) (fun x j z => by cases z)
    have ps0 : Passes (L2.CX P w) (cxOf (L2.CX P w) P w K mg base ("_law_script" :: y :: N) "law" scope f cdv A outer s H E) E0 := passes_call LamX.takes0 fun _ _ _ _ h => h
    refine ⟨_, pss_cons (ps_set (i := 1) S.nd rfl hy' (pe_callG (GB.cx.mono (by omega : 2 ≤ 4 * k + 5)) hr hgd hgb gB kB bB .nil ps0 (pa_cons (pe_var (i := 0) rfl vs0) pa_nil) rfl rfl rfl) rfl (Or.inl rfl)) (pss_ex fun (z : { W : Wd // WIs W w K xc tb } × Hp × Hp) => (ss_all n).b (Hk0 := z.2.1) (H0 := z.2.2) (ok z.1.1 z.1.2) S.kind hc), ?_⟩
    refine ⟨_, rfl, a, ns, rfl, hB.scr, hl, fun H' W g ex h1 h2 h3 dr0 sp0 => ?_⟩
    have tabs : LamX.Tabs tb H' := fun r hr' => LamX.TabS.nil (ex.1 _ _ (hB.tab r.1 (List.mem_map.mpr ⟨r, hr', rfl⟩)))
    have dr : DrawAt ⟨W.am, W.ac, W.ag, w, K, tb, xc, W.am, fun _ => none, fun _ => none⟩ g H' := ⟨dr0.m, dr0.c, dr0.gr, dr0.ne, dr0.ok, tabs, fun b ps e => by
      rcases hB.only b _ (ex.2 b ps e) with ⟨z, _⟩ | ⟨_, _, o, z⟩
      · obtain ⟨r, hr', rfl⟩ := List.mem_map.mp z
        exact ⟨r, hr', rfl⟩
      · cases z⟩
    obtain ⟨g', eg⟩ := hlaw ns g hl dr.ok sp0
    have exk : Ex (noTab H) H' := fun b o e => ex.1 b o (noTab_ex H b o e)
    refine ⟨(⟨⟨W.am, W.ac, W.ag, w, K, tb, xc, W.am, fun _ => none, fun _ => none⟩, rfl, rfl, rfl, rfl⟩, noTab H, H'), noTab H, gm0 N.length ns, g, noTab H, ⟨⟨exk, noTab_n h1, noTab_n h2, noTab_n h3, fun r hr' => noTab_none (hB.tab r.1 (List.mem_map.mpr ⟨r, hr', rfl⟩)), dr, fun b o z => (nomatch z), fun b o z => (nomatch z)⟩, Step.refl exk, ⟨[], ?_, List.nodup_nil, fun p hp => absurd hp (by simp)⟩, fun b o z => (nomatch z)⟩, Ex.refl _, ?_⟩
    · have es : (L2.start (("_law_script" : Str) :: y :: N) [V.ref a]).set 1 (some (V.ref W.am)) = some (V.ref a) :: some (V.ref W.am) :: List.replicate N.length none := by
        unfold L2.start
        simp
        rfl
      rw [es]
      exact .val ⟨a, rfl, sqL_noTab hB.scr⟩ (.val rfl (gm_no _))
    · rw [eg]
      intro v Hk' H'' _ _ r
      have r : v = .bl true := r
      subst r
      exact q H''
end
end Bk
set_option Elab.async false
set_option linter.all false
set_option maxRecDepth 100000
set_option maxHeartbeats 4000000
set_option pp.maxSteps 800
namespace Bk
open PySem PySem.Spec PyProof.Rows L2
abbrev FnM : Type := Option (Str × Str × Arguments × FuncBody × Scope × Addr × List Str × Addr)
def fnM (K : PySem.W.Frag) (a : Addr) : FnM := match K.lookup a with
  | some ⟨_, _, .func fd, _⟩ => some (fd.name, fd.qualname, fd.params, fd.body, fd.scope, fd.globals, fd.closure.map (·.1), fd.builtins)
  | _ => none
/-- a class of exceptions, with its __init__ -/
structure ClD where
  num : Nat
  x : Str
  ns : List Str
  vb : Bool
  params : Arguments
  body : List Stmt
  scope : Scope
  /-- tests that are asked of its instances, and their answers -/
  is : List (List Str × Bool)
def ClD.C (K : PySem.W.Frag) (d : ClD) : Addr := He.ga K d.x
def ClD.fI (K : PySem.W.Frag) (d : ClD) : Addr := He.ma K (d.C K) "__init__"
def ClD.val (d : ClD) : FnM := some ("__init__", d.x ++ ".__init__", d.params, .stmts d.body, d.scope, mainGlobals, ["__class__"], builtinsNs)
def ClD.B (d : ClD) : String := if d.vb then "ValueError" else "OverflowError"
def ClD.newId (d : ClD) : String := if d.vb then "ValueError.__new__" else "OverflowError.__new__"
def ClD.initId (d : ClD) : String := if d.vb then "ValueError.__init__" else "OverflowError.__init__"
def ClD.bm (d : ClD) : List Value := if d.vb then [.type "ValueError", .type "Exception", .type "BaseException", .type "object"] else [.type "OverflowError", .type "ArithmeticError", .type "Exception", .type "BaseException", .type "object"]
def noneV : Value → Bool
  | .none => true
  | _ => false
theorem noneV_ok {v : Value} (h : noneV v = true) : v = .none := by
  cases v <;> first | rfl | cases h
def innB (P : Program) (K : PySem.W.Frag) (C fI : Addr) : Bool := match K.lookup fI with
  | some ⟨_, _, .func fd, _⟩ => (match fd.code, fd.closure with
    | .ref cda, [(_, cc)] => noneV fd.defaults && PySem.W.codeIn K fd.code fd.qualname && (match K.lookup cda with
      | some ⟨_, _, .fields vs, _⟩ => (match (vs[2]? : Option Value) with
        | some (.str file _) => (P.main.file : Str) == file
        | _ => false)
      | _ => false) && (match K.lookup cc with
      | some ⟨_, _, .cell (some (.ref C')), _⟩ => C' == C
      | _ => false)
    | _, _ => false)
  | _ => false
def ClD.ok0 (P : Program) (K : PySem.W.Frag) (d : ClD) : Bool :=
  He.eqO (PySem.W.nsIn K mainGlobals d.x) (some (some (.ref (d.C K)))) && PySem.W.excInitIn K (d.C K) d.bm d.newId && PySem.W.excOver K (d.C K) d.bm && PySem.W.hasDictIn K (d.C K) &&
  He.eqO (PySem.W.findIn K (.ref (d.C K)) "__setattr__") (some (some (.builtin "object.__setattr__"))) && (d.ns.all fun n => He.eqO (PySem.W.findIn K (.ref (d.C K)) n) (some none)) &&
  He.eqO (PySem.W.findIn K (.ref (d.C K)) "__init__") (some (some (.ref (d.fI K)))) && decide (PySem.W.typeIn K (.ref (d.fI K)) = some (.type "function")) &&
  He.eqO (PySem.W.ks_superIn K (d.C K) (d.C K) "__init__") (some (some (.builtin d.initId))) && decide (PySem.W.subIn K (.ref (d.C K)) (.type d.B) = some true) && decide (PySem.W.mroIn K (d.C K) (.ref (d.C K)) = some true) &&
  PySem.W.keepIn K (.ref (d.C K)) && decide (PySem.W.subIn K (.ref (d.C K)) (.type "BaseException") = some true) && decide (PySem.W.typeIn K (.ref (d.C K)) = some (.type "type")) && xfB K (d.C K) && innB P K (d.C K) (d.fI K)
/-- the class that a name says -/
def nmV (K : PySem.W.Frag) (y : Str) : Option V := match PySem.W.nsIn K mainGlobals y with
  | some (some (.ref C)) => some (.ref C)
  | some none => (match bootBuiltins y with
    | some (.type T) => some (.ty T)
    | _ => none)
  | _ => none
def nmVs (K : PySem.W.Frag) : List Str → Option (List V)
  | [] => some []
  | y :: ys => (nmV K y).bind fun c => (nmVs K ys).map (c :: ·)
/-- an exception of the class C, asked for classes by their names -/
def tstB (K : PySem.W.Frag) (C : Addr) (q : List Str × Bool) : Bool := q.1.all okN && match nmVs K q.1 with
  | some cvs => decide (PySem.W.exmAny K (.ref C) (cvs.map vV) = some q.2) && (match cvs with
    | [c] => decide (PySem.W.kitOne K (.ref C) (vV c) = some q.2)
    | _ => true)
  | none => false
def ClD.okX (K : PySem.W.Frag) (d : ClD) : Bool := He.eqO (PySem.W.findIn K (.ref (d.C K)) "__class__") (some (some (.builtin "object.__class__"))) && He.eqO (PySem.W.specialIn K (.builtin "object.__class__") "__get__") (some (some (.builtin "getset_descriptor.__get__"))) &&
  decide (PySem.W.takesIn K (.builtin "object.__class__") = some true) && decide (PySem.W.mroIn K (d.C K) (.type "object") = some true) && He.eqO (PySem.W.findIn K (.ref (d.C K)) "__getattribute__") (some (some (.builtin "BaseException.__getattribute__"))) && He.eqO (PySem.W.findIn K (.ref (d.C K)) "__getattr__") (some none) && decide (PySem.W.subIn K (.ref (d.C K)) (.type "BaseException") = some true) && PySem.W.hasDictIn K (d.C K) && d.is.all (tstB K (d.C K))
def ClD.ok (P : Program) (K : PySem.W.Frag) (d : ClD) : Bool := d.ok0 P K && d.okX K
theorem ClD.okX_c {K : PySem.W.Frag} {d : ClD} (h : d.okX K = true) : ExcC K (d.C K) := by
  unfold ClD.okX at h
  simp only [Bool.and_eq_true, decide_eq_true_eq] at h
  obtain ⟨⟨⟨⟨⟨⟨⟨⟨h1, h2⟩, h3⟩, h4⟩, h5⟩, h6⟩, h7⟩, h8⟩, h9⟩ := h
  exact ⟨He.eqO_ok h5, He.eqO_ok h6, h7, h8, He.eqO_ok h1, He.eqO_ok h2, h3, h4⟩
theorem ClD.okX_t {K : PySem.W.Frag} {d : ClD} (h : d.okX K = true) : ∀ q ∈ d.is, tstB K (d.C K) q = true := by
  unfold ClD.okX at h
  simp only [Bool.and_eq_true, decide_eq_true_eq, List.all_eq_true] at h
  exact h.2
/-- what stands in the text of an __init__ -/
def stoB : List Str → List Stmt → Bool
  | [], [] => true
  | n :: ns, .Assign [.Attribute (.Name y _) m _] (.Name z _) _ :: r => decide (y = ("self" : Str)) && decide (m = n) && decide (z = n) && stoB ns r
  | _, _ => false
theorem stoB_ok : ∀ {ns : List Str} {r : List Stmt}, stoB ns r = true → Sto ns r
  | [], [], _ => .nil
  | [], _ :: _, h => by simp [stoB] at h
  | n :: ns, r, h => by
    unfold stoB at h
    split at h
    · rename_i e
      cases e
    · rename_i n1 ns1 y p1 m p2 z p3 p4 r1 e
      simp only [Bool.and_eq_true, decide_eq_true_eq] at h
      obtain ⟨⟨⟨rfl, rfl⟩, rfl⟩, h⟩ := h
      cases e
      exact .cons (stoB_ok h)
    · cases h
def iniB (d : ClD) : Bool := (match d.body with
  | .Expr (.Call (.Attribute (.Call (.Name s _) [] [] _) i p2) [.Constant (.str _) _ _] [] p4) _ :: r => decide (s = ("super" : Str)) && decide (i = ("__init__" : Str)) && (p2.endLine == p4.line) && stoB d.ns r
  | _ => false) && decide (((d.params.posonlyargs ++ d.params.args).head?.map (·.arg)) = some ("self" : Str)) && decide (d.scope.kind = .function) && !d.scope.isCoroutine && !d.scope.isGenerator && (d.scope.names.all fun z => !decide (z.2 = .cell)) &&
  decide (d.scope.names.lookup ("super" : Str) = some .globalImplicit) && decide (d.scope.names.lookup ("__class__" : Str) = some .free) && ((("self" : Str) :: d.ns).all fun n => decide (d.scope.names.lookup n = some .local)) &&
  decide ((("self" : Str) :: d.ns).Nodup) && (d.ns.all fun n => !(n == ("__debug__" : Str))) && decide (1 ≤ d.ns.length ∧ d.ns.length ≤ 50) && okN d.x
def bindsP (d : ClD) : Prop := ∀ (name qual : Str) (cl : List (Str × Addr)) (kV doc pm cv ct : Value) (an : Option Addr) (x : Value) (us : List Value), us.length = d.ns.length → bindArgs (PySem.W.fnX name qual d.params d.body d.scope cl .none kV doc pm an cv ct) ⟨x :: us, []⟩ = pure ((("self" : Str), x) :: d.ns.zip us)
def bindsW (d : ClD) : Prop := ∀ q ∈ kwsOf d.ns, ∀ (name qual : Str) (cl : List (Str × Addr)) (kV doc pm cv ct : Value) (an : Option Addr) (x : Value) (ws us : List Value), ws.length = q.1.length → PickV ws q.2 us → bindArgs (PySem.W.fnX name qual d.params d.body d.scope cl .none kV doc pm an cv ct) ⟨[x], q.1.zip ws⟩ = pure ((("self" : Str), x) :: d.ns.zip us)
def bindsB (d : ClD) : Prop := bindsP d ∧ bindsW d
section
variable {P : Program} {K : PySem.W.Frag} {d : ClD}
theorem ClD.inn (e : fnM K (d.fI K) = d.val) (h : innB P K (d.C K) (d.fI K) = true) (hi : iniB d = true) (hb : bindsB d) : IniFn P K (d.C K) (d.fI K) d.ns := by
  unfold innB at h
  unfold fnM at e
  split at h
  · rename_i oc od fd osl lk
    rw [lk] at e
    simp only at e
    split at h
    · rename_i cda nm cc hcd hcl
      simp only [Bool.and_eq_true] at h
      obtain ⟨⟨⟨h0, h1⟩, h2⟩, h3⟩ := h
      split at h2
      · rename_i ccl cdd vs ccs lcd
        split at h2
        · rename_i file tf hvs
          split at h3
          · rename_i cl cld C' csl lcc
            have hC : C' = d.C K := eq_of_beq h3
            subst hC
            obtain ⟨n1, n2, n3, n4, n5, n6, n7, n8, n9, n10, n11, n12, n13, n14, n15⟩ := fd
            simp only at hcd hcl
            have h00 : n8 = .none := noneV_ok h0
            subst h00
            subst hcd hcl
            simp only [ClD.val, Option.some.injEq, Prod.mk.injEq, List.map_cons, List.map_nil, List.cons.injEq, and_true] at e
            obtain ⟨e1, e2, e3, e4, e5, e6, e7, e8⟩ := e
            subst e1 e2 e3 e4 e5 e6 e7 e8
            unfold iniB at hi
            simp only [Bool.and_eq_true, decide_eq_true_eq, Bool.not_eq_true', List.all_eq_true, decide_eq_false_iff_not] at hi
            obtain ⟨⟨⟨⟨⟨⟨⟨⟨⟨⟨⟨⟨i1, i2⟩, i3⟩, i4⟩, i5⟩, i6⟩, i7⟩, i8⟩, i9⟩, i10⟩, i11⟩, i12⟩, i13⟩ := hi
            split at i1
            · rename_i s0 p0 p1 i0 p2 text j p3 p4 p5 r hbody
              simp only [Bool.and_eq_true, decide_eq_true_eq] at i1
              obtain ⟨⟨⟨rfl, rfl⟩, hl⟩, hst⟩ := i1
              obtain ⟨ar, har1, har2⟩ := Option.map_eq_some_iff.mp i2
              refine ⟨oc, od, ("__init__" : Str), d.x ++ (".__init__" : Str), d.params, r, d.scope, .none, n9, n10, n11, n12, cda, n14, osl, cc, text, p0, p1, p2, p3, p4, p5, ar, j, ccl, cdd, vs, ccs, file, tf, cl, cld, csl, ?_, h1, stoB_ok hst, har1, har2, i3, i4, i5, i6, i7, i8, i9, fun as x us s hA => BindsTo.of_eq ?_, lcd, hvs, h2, lcc, hl⟩
              · rw [hbody] at lk
                exact lk
              · obtain ⟨hlu, rfl | ⟨q, hq, ws, hw, rfl, pk⟩⟩ := hA
                · have := hb.1 "__init__" (d.x ++ ".__init__") [("__class__", cc)] n9 n10 n11 (.ref cda) n14 n12 x us hlu
                  rw [hbody] at this
                  exact this
                · have := hb.2 q hq "__init__" (d.x ++ ".__init__") [("__class__", cc)] n9 n10 n11 (.ref cda) n14 n12 x ws us hw pk
                  rw [hbody] at this
                  exact this
            · cases i1
          · cases h3
        · cases h2
      · cases h2
    · cases h
  · cases h
theorem ClD.xc (e : fnM K (d.fI K) = d.val) (h : d.ok0 P K = true) (hi : iniB d = true) (hb : bindsB d) (ho : PySem.W.nsIn K cStatics "thirdparty.any" = some none) (hs : PySem.W.nsIn K mainGlobals ("super" : Str) = some none) (ht : (P.main.scope.names.lookup ("super" : Str)).isSome = false) : XcOk P K (d.C K) d.ns ∧ ClsF K (d.C K) d.ns := by
  unfold ClD.ok0 at h
  simp only [Bool.and_eq_true, decide_eq_true_eq, List.all_eq_true] at h
  obtain ⟨⟨⟨⟨⟨⟨⟨⟨⟨⟨⟨⟨⟨⟨⟨h1, h2⟩, h3⟩, h4⟩, h5⟩, h6⟩, h7⟩, h8⟩, h9⟩, h10⟩, h11⟩, h12⟩, h13⟩, h14⟩, h15⟩, h16⟩ := h
  have fn := ClD.inn e h16 hi hb
  unfold iniB at hi
  simp only [Bool.and_eq_true, decide_eq_true_eq, Bool.not_eq_true', List.all_eq_true] at hi
  obtain ⟨⟨⟨⟨⟨⟨⟨⟨⟨⟨⟨⟨i1, i2⟩, i3⟩, i4⟩, i5⟩, i6⟩, i7⟩, i8⟩, i9⟩, i10⟩, i11⟩, i12⟩, i13⟩ := hi
  have no : ∀ n ∈ d.ns, PySem.W.findIn K (.ref (d.C K)) n = some none := fun n hn => He.eqO_ok (h6 n hn)
  refine ⟨⟨⟨d.fI K, d.B, d.newId, d.initId, d.bm, ?_, fn⟩, h12, h13, h14, i12, (List.nodup_cons.mp i10).2, ht, hs⟩, xfB_ok h15, no⟩
  have base : ExcBaseFacts d.B d.newId d.initId d.bm ∧ PySem.W.KxsFacts d.B d.initId ∧ StoreFacts d.B d.bm "object.__setattr__" "object" := by
    unfold ClD.B ClD.newId ClD.initId ClD.bm
    cases d.vb with
    | true => exact ⟨PySem.F.excBase_ValueError, PySem.W.kxs_ValueError, PySem.F.store_ValueError⟩
    | false => exact ⟨PySem.F.excBase_OverflowError, PySem.W.kxs_OverflowError, PySem.F.store_OverflowError⟩
  exact ⟨base.1, base.2.1, base.2.2, h2, h3, h4, He.eqO_ok h5, no, He.eqO_ok h7, h8, He.eqO_ok h9, h10, h11, ho, i11, i10⟩
end
end Bk
set_option Elab.async false
set_option linter.all false
set_option maxRecDepth 100000
set_option maxHeartbeats 4000000
set_option pp.maxSteps 800
namespace Bk
open PySem PySem.Spec PyProof.Rows L2
def cls0B (P : Program) (cl : List ClD) (tf : List He.Defn) (K : PySem.W.Frag) : Bool :=
  (cl.all fun d => d.ok P K) && (cl.all fun d => cl.all fun e => decide (PySem.W.exmOne K (.ref (d.C K)) (.ref (e.C K)) = some (decide (d.num = e.num)))) && decide ((tf.map fun p => (He.cT K p).2).Nodup) &&
  He.eqO (PySem.W.nsIn K cStatics "thirdparty.any") (some none) && He.eqO (PySem.W.nsIn K mainGlobals ("super" : Str)) (some none)
def clsB (P : Program) (cl : List ClD) (tf : List He.Defn) (K : PySem.W.Frag) : Bool := cls0B P cl tf K && smB K
abbrev AlB : Type := He.AlD × List FnM × Bool
def valB (fn : List He.DefD) (cl : List ClD) : AlB := (He.valD fn, cl.map ClD.val, true)
structure SaysB (P : Program) (fa : List He.Fa) (fn : List He.DefD) (cl : List ClD) (tf : List He.Defn) (h : Heap) (K : PySem.W.Frag) : Prop where
  d : He.SaysD fa fn K
  fm : cl.map (fun d => fnM K (d.fI K)) = cl.map ClD.val
  more : clsB P cl tf K = true
  hd : ∀ p ∈ tf, PySem.W.codeHdIn K (He.cT K p).1 (He.cT K p).2 = true
  out : ∀ p ∈ tf, K.lookup (He.cT K p).2 = none
  empty : ∀ p ∈ tf, h.get? (He.cT K p).2 = some { cls := .none, data := .fields #[] }
theorem SaysB.more0 {P : Program} {fa : List He.Fa} {fn : List He.DefD} {cl : List ClD} {tf : List He.Defn} {h : Heap} {K : PySem.W.Frag} (c : SaysB P fa fn cl tf h K) : cls0B P cl tf K = true := ((Bool.and_eq_true _ _).mp c.more).1
theorem SaysB.sm {P : Program} {fa : List He.Fa} {fn : List He.DefD} {cl : List ClD} {tf : List He.Defn} {h : Heap} {K : PySem.W.Frag} (c : SaysB P fa fn cl tf h K) : smB K = true := ((Bool.and_eq_true _ _).mp c.more).2
def xcOf (K : PySem.W.Frag) (cl : List ClD) : List (Nat × Addr × List Str) := cl.map fun d => (d.num, d.C K, d.ns)
def tbOf (K : PySem.W.Frag) (tf : List He.Defn) : List (Addr × Str) := tf.map fun p => ((He.cT K p).2, p.1 ++ ".<locals>." ++ "<lambda>")
/-- which class -/
def clAt (cl : List ClD) (c : Nat) : Option ClD := (cl.map fun d => (d.num, d)).lookup c
theorem xc_at {K : PySem.W.Frag} {c : Nat} : ∀ {cl : List ClD}, (xcOf K cl).lookup c = (clAt cl c).map fun d => (d.C K, d.ns)
  | [] => rfl
  | d :: cl => by
    unfold xcOf clAt
    rw [List.map_cons, List.map_cons, List.lookup_cons, List.lookup_cons]
    by_cases e : c == d.num
    · rw [e]; rfl
    · simp only [Bool.not_eq_true] at e
      rw [e]
      exact xc_at (cl := cl)
theorem clAt_mem {c : Nat} {d : ClD} : ∀ {cl : List ClD}, clAt cl c = some d → d ∈ cl ∧ d.num = c
  | [], h => by cases h
  | a :: cl, h => by
    unfold clAt at h
    rw [List.map_cons, List.lookup_cons] at h
    by_cases e : c == a.num
    · rw [e] at h
      cases h
      exact ⟨List.mem_cons_self, (eq_of_beq e).symm⟩
    · simp only [Bool.not_eq_true] at e
      rw [e] at h
      obtain ⟨h1, h2⟩ := clAt_mem (cl := cl) h
      exact ⟨List.mem_cons_of_mem _ h1, h2⟩
section
variable {P : Program} {w : World} {K : PySem.W.Frag} {h : Heap} {mg : Str → Option Value} {base : Heap} {fa : List He.Fa} {fn : List He.DefD} {cl : List ClD} {tf : List He.Defn}
theorem SaysB.at (c : SaysB P fa fn cl tf h K) (hi : ∀ d ∈ cl, iniB d = true ∧ bindsB d) (ht : (P.main.scope.names.lookup ("super" : Str)).isSome = false) {d : ClD} (hd : d ∈ cl) : PySem.W.nsIn K mainGlobals d.x = some (some (.ref (d.C K))) ∧ XcOk P K (d.C K) d.ns ∧ ClsF K (d.C K) d.ns := by
  have m := c.more0
  unfold cls0B at m
  simp only [Bool.and_eq_true, List.all_eq_true] at m
  obtain ⟨⟨⟨⟨m1, m2⟩, m3⟩, m4⟩, m5⟩ := m
  have e : fnM K (d.fI K) = d.val := by
    obtain ⟨i, hi', e⟩ := List.mem_iff_getElem.mp hd
    have e2 : (cl.map (fun d => fnM K (d.fI K)))[i]? = (cl.map ClD.val)[i]? := by rw [c.fm]
    rw [List.getElem?_map, List.getElem?_map, List.getElem?_eq_getElem hi', e] at e2
    exact Option.some.inj e2
  refine ⟨?_, ClD.xc e (by have := m1 d hd; unfold ClD.ok at this; exact ((Bool.and_eq_true _ _).mp this).1) (hi d hd).1 (hi d hd).2 (He.eqO_ok m4) (He.eqO_ok m5) ht⟩
  have := m1 d hd
  unfold ClD.ok ClD.ok0 at this
  simp only [Bool.and_eq_true] at this
  replace this := this.1
  obtain ⟨⟨⟨⟨⟨⟨⟨⟨⟨⟨⟨⟨⟨⟨⟨h1, h2⟩, h3⟩, h4⟩, h5⟩, h6⟩, h7⟩, h8⟩, h9⟩, h10⟩, h11⟩, h12⟩, h13⟩, h14⟩, h15⟩, h16⟩ := this
  exact He.eqO_ok h1
theorem SaysB.okX (c : SaysB P fa fn cl tf h K) {d : ClD} (hd : d ∈ cl) : d.okX K = true := by
  have m := c.more0
  unfold cls0B at m
  simp only [Bool.and_eq_true, List.all_eq_true] at m
  have m1 := m.1.1.1.1 d hd
  unfold ClD.ok at m1
  exact ((Bool.and_eq_true _ _).mp m1).2
theorem SaysB.mgAt (c : SaysB P fa fn cl tf h K) (hi : ∀ d ∈ cl, iniB d = true ∧ bindsB d) (ht : (P.main.scope.names.lookup ("super" : Str)).isSome = false) (X : K.In h) (G : h.Ns mainGlobals mg) {d : ClD} (hd : d ∈ cl) : mg d.x = some (.ref (d.C K)) := by
  have e := (c.at hi ht hd).1
  exact PySem.W.mg_of X G e
theorem nmVs_ok (X : K.In h) (G : h.Ns mainGlobals mg) : ∀ {ys : List Str} {cvs : List V}, nmVs K ys = some cvs → (∀ y ∈ ys, okN y = true) → Paired (ClsN mg) ys cvs
  | [], cvs, e, _ => by
    simp only [nmVs, Option.some.injEq] at e
    subst e; exact .nil
  | y :: ys, cvs, e, hy => by
    simp only [nmVs, Option.bind_eq_some_iff, Option.map_eq_some_iff] at e
    obtain ⟨c, e1, l, e2, rfl⟩ := e
    refine .cons ⟨hy _ List.mem_cons_self, ?_⟩ (nmVs_ok X G e2 fun z hz => hy z (List.mem_cons_of_mem _ hz))
    unfold nmV at e1
    split at e1
    · rename_i C q
      cases e1
      exact .inl ⟨C, rfl, PySem.W.mg_of X G q⟩
    · rename_i q
      split at e1
      · rename_i T q2
        cases e1
        exact .inr ⟨T, rfl, PySem.W.mg_none_of X G q, q2⟩
      · cases e1
    · cases e1
/-- which classes are asked for is answered in the classes' own lists -/
def xiB (cl : List ClD) (ys : List Str) (yes no : List Nat) : Bool := cl.any (fun d => d.is.any fun q => decide (q.1 = ys)) && cl.all fun d => (!decide (d.num ∈ yes) || decide ((ys, true) ∈ d.is)) && (!decide (d.num ∈ no) || decide ((ys, false) ∈ d.is))
theorem SaysB.xi (c : SaysB P fa fn cl tf h K) (X : K.In h) (G : h.Ns mainGlobals mg) {ys : List Str} {yes no : List Nat} (hx : xiB cl ys yes no = true) : XiOk K mg (xcOf K cl) ys yes no := by
  unfold xiB at hx
  simp only [Bool.and_eq_true, List.any_eq_true, List.all_eq_true, decide_eq_true_eq, Bool.or_eq_true, Bool.not_eq_true', decide_eq_false_iff_not] at hx
  obtain ⟨⟨d0, hd0, q0, hq0, rfl⟩, hall⟩ := hx
  have t0 := ClD.okX_t (c.okX hd0) q0 hq0
  unfold tstB at t0
  simp only [Bool.and_eq_true, List.all_eq_true] at t0
  obtain ⟨ok0, t0⟩ := t0
  split at t0
  · rename_i cvs ecv
    refine ⟨cvs, nmVs_ok X G ecv ok0, fun n C ns hl => ?_⟩
    rw [xc_at] at hl
    obtain ⟨d, hd, e⟩ := Option.map_eq_some_iff.mp hl
    cases e
    obtain ⟨z1, rfl⟩ := clAt_mem hd
    obtain ⟨a1, a2⟩ := hall d z1
    have key : ∀ b, (q0.1, b) ∈ d.is → PySem.W.exmAny K (.ref (d.C K)) (cvs.map vV) = some b ∧ ∀ c, cvs = [c] → PySem.W.kitOne K (.ref (d.C K)) (vV c) = some b := by
      intro b hb
      have t1 := ClD.okX_t (c.okX z1) _ hb
      unfold tstB at t1
      simp only [Bool.and_eq_true, ecv, decide_eq_true_eq] at t1
      refine ⟨t1.2.1, fun c0 hc => ?_⟩
      have t2 := t1.2.2
      rw [hc] at t2
      exact of_decide_eq_true t2
    exact ⟨fun hy => key true (a1.resolve_left fun z => z hy), fun hn => (key false (a2.resolve_left fun z => z hn)).2⟩
  · cases t0
theorem SaysB.xv (c : SaysB P fa fn cl tf h K) (hi : ∀ d ∈ cl, iniB d = true ∧ bindsB d) (ht : (P.main.scope.names.lookup ("super" : Str)).isSome = false) {n : Nat} {C : Addr} {ns : List Str} (hl : (xcOf K cl).lookup n = some (C, ns)) : ClsF K C ns ∧ ExcC K C := by
  rw [xc_at] at hl
  obtain ⟨d, hd, e⟩ := Option.map_eq_some_iff.mp hl
  cases e
  obtain ⟨z1, rfl⟩ := clAt_mem hd
  exact ⟨(c.at hi ht z1).2.2, ClD.okX_c (c.okX z1)⟩
end
end Bk
set_option Elab.async false
set_option linter.all false
set_option maxRecDepth 100000
set_option maxHeartbeats 4000000
namespace Bk
open PySem PySem.W PySem.Calls PySem.Spec PyProof.Rows L2
open HandSHeadRun (frNat)
def setM (m a : Nat) : Nat := Nat.lor m (Nat.shiftLeft 1 a)
def tstM (m a : Nat) : Bool := Nat.beq (Nat.land (Nat.shiftRight m a) 1) 1
def addM {β : Type} : List Nat → Nat → List Nat → (Nat → List Nat → β) → β
  | [], m, acc, k => k m acc
  | r :: rs, m, acc, k => frNat r fun r => match tstM m r with
    | true => addM rs m acc k
    | false => frNat (setM m r) fun m => addM rs m (r :: acc) k
def oneM {β : Type} (g : Addr → Option Obj) : List Nat → Nat → List Nat → (Nat → List Nat → β) → β
  | [], m, nx, k => k m nx
  | a :: as, m, nx, k => match g a with
    | some o => addM (He.refsD o) m nx fun m nx => oneM g as m nx k
    | none => oneM g as m nx k
def rndM (g : Addr → Option Obj) : Nat → List Nat → Nat → List Nat → List Nat
  | 0, _, _, acc => acc
  | n + 1, fr, m, acc => oneM g fr m [] fun m nx => rndM g n nx m (nx ++ acc)
/-- what the module's names reach in n steps -/
def asM (g : Addr → Option Obj) (n : Nat) : List Addr := rndM g n [mainGlobals] (setM 0 mainGlobals) [mainGlobals]
def kM (n : Nat) (g : Addr → Option Obj) : PySem.W.Frag := He.frT g (asM g n ++ [cStatics, sysModules])
def obsM (P : Program) (n : Nat) (fa : List He.Fa) (fn : List He.DefD) (cl : List ClD) (tf : List He.Defn) (g : Addr → Option Obj) : AlB :=
  (He.obsD fa fn (kM n g), cl.map (fun d => fnM (kM n g) (d.fI (kM n g))), clsB P cl tf (kM n g) && He.tabsB g tf (kM n g))
theorem saysM_of {P : Program} {n : Nat} {fa : List He.Fa} {fn : List He.DefD} {cl : List ClD} {tf : List He.Defn} {h : Heap} (e : obsM P n fa fn cl tf h.get? = valB fn cl) : SaysB P fa fn cl tf h (kM n h.get?) := by
  have e1 : He.obsD fa fn (kM n h.get?) = He.valD fn := congrArg (fun z : AlB => z.1) e
  have e2 : cl.map (fun d => fnM (kM n h.get?) (d.fI (kM n h.get?))) = cl.map ClD.val := congrArg (fun z : AlB => z.2.1) e
  have e3 : (clsB P cl tf (kM n h.get?) && He.tabsB h.get? tf (kM n h.get?)) = true := congrArg (fun z : AlB => z.2.2) e
  obtain ⟨h1, h2⟩ := (Bool.and_eq_true _ _).mp e3
  have key : ∀ p ∈ tf, PySem.W.codeHdIn (kM n h.get?) (He.cT (kM n h.get?) p).1 (He.cT (kM n h.get?) p).2 = true ∧ ∃ o, h.get? (He.cT (kM n h.get?) p).2 = some o ∧ He.emptyTab o = true := fun p hp => by
    obtain ⟨h3, h4⟩ := (Bool.and_eq_true _ _).mp (List.all_eq_true.mp h2 p hp)
    refine ⟨h3, ?_⟩
    split at h4
    · rename_i o q
      exact ⟨o, q, h4⟩
    · cases h4
  exact ⟨e1, e2, h1, fun p hp => (key p hp).1, fun p hp => by
    obtain ⟨_, o, q, z⟩ := key p hp
    exact He.frT_none q z, fun p hp => by
    obtain ⟨_, o, q, z⟩ := key p hp
    rw [q, He.emptyTab_eq z]⟩
def hookM (P : Program) (n : Nat) (fa : List He.Fa) (fn : List He.DefD) (cl : List ClD) (tf : List He.Defn) : PySem.W.Hook where
  α := AlB
  obs := fun s => obsM P n fa fn cl tf s.heap.get?
  val := fun _ => valB fn cl
  says := fun _ h => ∃ K : PySem.W.Frag, K.In h ∧ SaysB P fa fn cl tf h K
  of := fun _ _ e => ⟨_, He.frT_in, saysM_of e⟩
  keeps := fun _ _ _ ⟨K, hK, c⟩ k => ⟨K, PySem.W.Frag.In.keeps hK k, ⟨c.d, c.fm, c.more, c.hd, c.out, fun p hp => k _ _ (c.empty p hp)⟩⟩
theorem obsM_eq {P : Program} {n : Nat} {fa : List He.Fa} {fn : List He.DefD} {cl : List ClD} {tf : List He.Defn} {g : Addr → Option Obj} {s : Shared} (h : ∀ a, g a = s.heap.get? a) : obsM P n fa fn cl tf g = (hookM P n fa fn cl tf).obs s := by
  have e : g = s.heap.get? := funext h
  rw [e] <;> rfl
open HandSHeadRun (endF stepQ denQ tabQ looksF seenQ getT)
noncomputable abbrev endR_ (r : PySem.W.OpenRow) (M : Nat) (w : World) (os : OsState) : Option PySem.W.SharedT := endF (stepQ (denQ tabQ) r.prog w) M r.prog w os
noncomputable abbrev kT (n : Nat) (s : PySem.W.SharedT) : PySem.W.Frag := kM n (getT s)
theorem obs_of {o : Option PySem.W.SharedT} {P : Program} {n : Nat} {fa : List He.Fa} {fn : List He.DefD} {cl : List ClD} {tf : List He.Defn}
    (h1 : o.map (fun s => (fa.all fun f => f.ok (kT n s)) && fn.all fun d => d.ok (kT n s)) = some true)
    (h3 : o.map (fun s => fn.map fun d => He.fnW (kT n s) d.at_) = some (fn.map He.DefD.val))
    (h4 : o.map (fun s => (cl.map (fun d => fnM (kT n s) (d.fI (kT n s))), clsB P cl tf (kT n s) && He.tabsB (getT s) tf (kT n s))) = some (cl.map ClD.val, true)) : o.map (fun s => obsM P n fa fn cl tf (getT s)) = some (valB fn cl) := by
  cases o with
  | none => cases h1
  | some s =>
    have h1 := Option.some.inj h1
    have h3 := Option.some.inj h3
    have h4 := Option.some.inj h4
    show some (obsM P n fa fn cl tf (getT s)) = _
    have e : obsM P n fa fn cl tf (getT s) = (((fa.all fun f => f.ok (kT n s)) && fn.all fun d => d.ok (kT n s), fn.map fun d => He.fnW (kT n s) d.at_), (cl.map (fun d => fnM (kT n s) (d.fI (kT n s))), clsB P cl tf (kT n s) && He.tabsB (getT s) tf (kT n s))) := rfl
    rw [e]
    simp only [] at h1 h3 h4
    rw [h1, h3, h4]
    rfl
theorem fin3 {A B C : Type} {x1 y1 : A} {x2 y2 : B} {x3 y3 : C} (h1 : x1 = y1) (h2 : x2 = y2) (h3 : x3 = y3) : some (x1, x2, x3) = some (y1, y2, y3) := by rw [h1, h2, h3]
theorem run_of {r : PySem.W.OpenRow} {q : Program} {M : Nat} {loose : List Str} {w : World} {P : Program} {n : Nat} {fa : List He.Fa} {fn : List He.DefD} {cl : List ClD} {tf : List He.Defn}
    (h0 : ∀ os : OsState, (endR_ r M w os).map (fun s => (looksF r.prog (boot_heap w.params) s.abs, seenQ q loose (importedModules r.prog.main.body) (fun s => xlAt q [] s && recOk r.toRowW.records s) s.abs)) = some (true, openGood q loose))
    (h1 : ∀ os : OsState, (endR_ r M w os).map (fun s => (fa.all fun f => f.ok (kT n s)) && fn.all fun d => d.ok (kT n s)) = some true)
    (h3 : ∀ os : OsState, (endR_ r M w os).map (fun s => fn.map fun d => He.fnW (kT n s) d.at_) = some (fn.map He.DefD.val))
    (h4 : ∀ os : OsState, (endR_ r M w os).map (fun s => (cl.map (fun d => fnM (kT n s) (d.fI (kT n s))), clsB P cl tf (kT n s) && He.tabsB (getT s) tf (kT n s))) = some (cl.map ClD.val, true)) :
    HandSHeadRun.RunEq r q (hookM P n fa fn cl tf) (fun s => obsM P n fa fn cl tf (getT s)) M loose w := by
  intro os
  have a := h0 os
  have b := obs_of (P := P) (h1 os) (h3 os) (h4 os)
  unfold endR_ at a b
  cases e : endF (stepQ (denQ tabQ) r.prog w) M r.prog w os with
  | none => rw [e] at a; cases a
  | some s =>
    rw [e] at a b
    have a := Option.some.inj a
    have b := Option.some.inj b
    simp only [Prod.mk.injEq] at a
    exact fin3 a.1 a.2 b
end Bk
set_option Elab.async false
set_option linter.all false
set_option maxRecDepth 100000
set_option maxHeartbeats 0
namespace Bk
open PySem PySem.Spec PyProof.Rows L2 Row
abbrev DEPTH : Nat := 14
abbrev STEPS : Nat := 8000
def pn : PrN := ⟨[], [(17, ("_law_like" : Str)), (388, ("_law_classes" : Str))], [(0, ("BadHall" : Str), ["part"]), (1, ("BadRule" : Str), ["path"]), (2, ("BadCall" : Str), ["place"]), (3, ("BadNumber" : Str), ["value"]), (4, ("BadPlan" : Str), ["part"]), (5, ("BadShare" : Str), ["value"]), (6, ("BadLog" : Str), ["place"]), (7, ("BadPaper" : Str), ["word"]), (8, ("BadText" : Str), ["line", "word"]), (9, ("TooGreat" : Str), ["most"]), (10, ("BadKind" : Str), ["value"]), (11, ("BadMeasure" : Str), ["value"]), (12, ("BadMost" : Str), ["value"]), (13, ("BadState" : Str), ["value"])], [], [], [], [], [(["BadRule"], [1], [0, 2, 3, 4, 5, 6, 7, 8, 9, 10, 11, 12, 13]), (["BadHall"], [0], [1, 2, 3, 4, 5, 6, 7, 8, 9, 10, 11, 12, 13]), (["BadCall"], [2], [0, 1, 3, 4, 5, 6, 7, 8, 9, 10, 11, 12, 13]), (["BadKind"], [10], [0, 1, 2, 3, 4, 5, 6, 7, 8, 9, 11, 12, 13]), (["BadPaper"], [7], [0, 1, 2, 3, 4, 5, 6, 8, 9, 10, 11, 12, 13]), (["BadMeasure"], [11], [0, 1, 2, 3, 4, 5, 6, 7, 8, 9, 10, 12, 13]), (["BadPlan"], [4], [0, 1, 2, 3, 5, 6, 7, 8, 9, 10, 11, 12, 13]), (["BadNumber"], [3], [0, 1, 2, 4, 5, 6, 7, 8, 9, 10, 11, 12, 13]), (["BadLog"], [6], [0, 1, 2, 3, 4, 5, 7, 8, 9, 10, 11, 12, 13]), (["BadShare"], [5], [0, 1, 2, 3, 4, 6, 7, 8, 9, 10, 11, 12, 13]), (["BadState"], [13], [0, 1, 2, 3, 4, 5, 6, 7, 8, 9, 10, 11, 12]), (["BadMost"], [12], [0, 1, 2, 3, 4, 5, 6, 7, 8, 9, 10, 11, 13]), (["CallError"], [0, 1, 2, 3, 4, 5, 6, 7, 8, 10, 11, 12, 13], [9]), (["BadText"], [8], [0, 1, 2, 3, 4, 5, 6, 7, 9, 10, 11, 12, 13]), (["TooGreat"], [9], [0, 1, 2, 3, 4, 5, 6, 7, 8, 10, 11, 12, 13]), (["ValueError"], [0, 1, 2, 3, 4, 5, 6, 7, 8, 10, 11, 12, 13], [9])]⟩
def nn__law_like : List Str := ["_law_answer", "_law_due"]
theorem sc__law_like : FnScope nn__law_like ["_law_answer", "_law_due"] (defScope (top 21)) := C8.fnScope_by (by decide +kernel)
theorem ck__law_like : chkB 200 pn ⟨nn__law_like, defScope (top 21), fun _ => true, false, none⟩ (defBody (top 21)) b__law_like = true := by decide +kernel
def nn__law_classes : List Str := ["_law_error", "_law_rows", "_law_label", "_law_is_so"]
theorem sc__law_classes : FnScope nn__law_classes ["_law_error"] (defScope (top 22)) := C8.fnScope_by (by decide +kernel)
theorem ck__law_classes : chkB 200 pn ⟨nn__law_classes, defScope (top 22), fun _ => true, false, none⟩ (defBody (top 22)) b__law_classes = true := by decide +kernel
theorem sc_law : FnScope n_law ["_law_script"] (defScope sLaw) := C8.fnScope_by (by decide +kernel)
theorem ck_law : chkB 200 pn ⟨n_law, defScope sLaw, fun _ => true, false, none⟩ (defBody sLaw).tail b_law = true := by decide +kernel
def d__law_mixed : He.DefD := ⟨("_law_mixed", none), "_law_mixed", "_law_mixed", defArgs (top 17), defBody (top 17), defScope (top 17), [], []⟩
def d__law_folded : He.DefD := ⟨("_law_folded", none), "_law_folded", "_law_folded", defArgs (top 18), defBody (top 18), defScope (top 18), [], []⟩
def d__law_draw : He.DefD := ⟨("_law_draw", none), "_law_draw", "_law_draw", defArgs (top 19), defBody (top 19), defScope (top 19), [], []⟩
def d__law_begun : He.DefD := ⟨("_law_begun", none), "_law_begun", "_law_begun", defArgs (top 20), defBody (top 20), defScope (top 20), [], []⟩
def d_law : He.DefD := ⟨("law", none), "law", "law", defArgs (top 23), defBody (top 23), defScope (top 23), [], []⟩
def d__law_like : He.DefD := ⟨("_law_like", none), "_law_like", "_law_like", defArgs (top 21), defBody (top 21), defScope (top 21), [], []⟩
def d__law_classes : He.DefD := ⟨("_law_classes", none), "_law_classes", "_law_classes", defArgs (top 22), defBody (top 22), defScope (top 22), [], []⟩
def fn : List He.DefD := [d__law_mixed, d__law_folded, d__law_draw, d__law_begun, d_law, d__law_like, d__law_classes]
def fa : List He.Fa := [.glo "_law_mixed", .glo "_law_folded", .glo "_law_draw", .glo "_law_begun", .glo "law", .glo "_law_like", .glo "_law_classes", .free "len", .free "all", .free "any", .free "sum", .free "min", .free "max", .free "sorted", .free "tuple", .free "list", .free "int", .free "repr", .free "isinstance", .free "range", .free "zip", .free "enumerate", .free "bool", .free "str"]
abbrev RR : PySem.W.OpenRow := PySem.W.OpenLaw.row PySem.Challenge.rw_booklimits_k80_errors_of_the_third_part
def inCls (s : Stmt) : Stmt := match s with
  | .ClassDef _ _ _ (b :: _) _ _ _ _ _ _ _ => b
  | _ => s
def x_BadHall : ClD := ⟨0, "BadHall", ["part"], true, defArgs (inCls (top 2)), defBody (inCls (top 2)), defScope (inCls (top 2)), [(["BadRule"], false), (["BadHall"], true), (["BadCall"], false), (["BadKind"], false), (["BadPaper"], false), (["BadMeasure"], false), (["BadPlan"], false), (["BadNumber"], false), (["BadLog"], false), (["BadShare"], false), (["BadState"], false), (["BadMost"], false), (["CallError"], true), (["BadText"], false), (["TooGreat"], false), (["ValueError"], true)]⟩
def x_BadRule : ClD := ⟨1, "BadRule", ["path"], true, defArgs (inCls (top 3)), defBody (inCls (top 3)), defScope (inCls (top 3)), [(["BadRule"], true), (["BadHall"], false), (["BadCall"], false), (["BadKind"], false), (["BadPaper"], false), (["BadMeasure"], false), (["BadPlan"], false), (["BadNumber"], false), (["BadLog"], false), (["BadShare"], false), (["BadState"], false), (["BadMost"], false), (["CallError"], true), (["BadText"], false), (["TooGreat"], false), (["ValueError"], true)]⟩
def x_BadCall : ClD := ⟨2, "BadCall", ["place"], true, defArgs (inCls (top 5)), defBody (inCls (top 5)), defScope (inCls (top 5)), [(["BadRule"], false), (["BadHall"], false), (["BadCall"], true), (["BadKind"], false), (["BadPaper"], false), (["BadMeasure"], false), (["BadPlan"], false), (["BadNumber"], false), (["BadLog"], false), (["BadShare"], false), (["BadState"], false), (["BadMost"], false), (["CallError"], true), (["BadText"], false), (["TooGreat"], false), (["ValueError"], true)]⟩
def x_BadNumber : ClD := ⟨3, "BadNumber", ["value"], true, defArgs (inCls (top 10)), defBody (inCls (top 10)), defScope (inCls (top 10)), [(["BadRule"], false), (["BadHall"], false), (["BadCall"], false), (["BadKind"], false), (["BadPaper"], false), (["BadMeasure"], false), (["BadPlan"], false), (["BadNumber"], true), (["BadLog"], false), (["BadShare"], false), (["BadState"], false), (["BadMost"], false), (["CallError"], true), (["BadText"], false), (["TooGreat"], false), (["ValueError"], true)]⟩
def x_BadPlan : ClD := ⟨4, "BadPlan", ["part"], true, defArgs (inCls (top 11)), defBody (inCls (top 11)), defScope (inCls (top 11)), [(["BadRule"], false), (["BadHall"], false), (["BadCall"], false), (["BadKind"], false), (["BadPaper"], false), (["BadMeasure"], false), (["BadPlan"], true), (["BadNumber"], false), (["BadLog"], false), (["BadShare"], false), (["BadState"], false), (["BadMost"], false), (["CallError"], true), (["BadText"], false), (["TooGreat"], false), (["ValueError"], true)]⟩
def x_BadShare : ClD := ⟨5, "BadShare", ["value"], true, defArgs (inCls (top 12)), defBody (inCls (top 12)), defScope (inCls (top 12)), [(["BadRule"], false), (["BadHall"], false), (["BadCall"], false), (["BadKind"], false), (["BadPaper"], false), (["BadMeasure"], false), (["BadPlan"], false), (["BadNumber"], false), (["BadLog"], false), (["BadShare"], true), (["BadState"], false), (["BadMost"], false), (["CallError"], true), (["BadText"], false), (["TooGreat"], false), (["ValueError"], true)]⟩
def x_BadLog : ClD := ⟨6, "BadLog", ["place"], true, defArgs (inCls (top 13)), defBody (inCls (top 13)), defScope (inCls (top 13)), [(["BadRule"], false), (["BadHall"], false), (["BadCall"], false), (["BadKind"], false), (["BadPaper"], false), (["BadMeasure"], false), (["BadPlan"], false), (["BadNumber"], false), (["BadLog"], true), (["BadShare"], false), (["BadState"], false), (["BadMost"], false), (["CallError"], true), (["BadText"], false), (["TooGreat"], false), (["ValueError"], true)]⟩
def x_BadPaper : ClD := ⟨7, "BadPaper", ["word"], true, defArgs (inCls (top 8)), defBody (inCls (top 8)), defScope (inCls (top 8)), [(["BadRule"], false), (["BadHall"], false), (["BadCall"], false), (["BadKind"], false), (["BadPaper"], true), (["BadMeasure"], false), (["BadPlan"], false), (["BadNumber"], false), (["BadLog"], false), (["BadShare"], false), (["BadState"], false), (["BadMost"], false), (["CallError"], true), (["BadText"], false), (["TooGreat"], false), (["ValueError"], true)]⟩
def x_BadText : ClD := ⟨8, "BadText", ["line", "word"], true, defArgs (inCls (top 14)), defBody (inCls (top 14)), defScope (inCls (top 14)), [(["BadRule"], false), (["BadHall"], false), (["BadCall"], false), (["BadKind"], false), (["BadPaper"], false), (["BadMeasure"], false), (["BadPlan"], false), (["BadNumber"], false), (["BadLog"], false), (["BadShare"], false), (["BadState"], false), (["BadMost"], false), (["CallError"], true), (["BadText"], true), (["TooGreat"], false), (["ValueError"], true)]⟩
def x_TooGreat : ClD := ⟨9, "TooGreat", ["most"], false, defArgs (inCls (top 15)), defBody (inCls (top 15)), defScope (inCls (top 15)), [(["BadRule"], false), (["BadHall"], false), (["BadCall"], false), (["BadKind"], false), (["BadPaper"], false), (["BadMeasure"], false), (["BadPlan"], false), (["BadNumber"], false), (["BadLog"], false), (["BadShare"], false), (["BadState"], false), (["BadMost"], false), (["CallError"], false), (["BadText"], false), (["TooGreat"], true), (["ValueError"], false)]⟩
def x_BadKind : ClD := ⟨10, "BadKind", ["value"], true, defArgs (inCls (top 4)), defBody (inCls (top 4)), defScope (inCls (top 4)), [(["BadRule"], false), (["BadHall"], false), (["BadCall"], false), (["BadKind"], true), (["BadPaper"], false), (["BadMeasure"], false), (["BadPlan"], false), (["BadNumber"], false), (["BadLog"], false), (["BadShare"], false), (["BadState"], false), (["BadMost"], false), (["CallError"], true), (["BadText"], false), (["TooGreat"], false), (["ValueError"], true)]⟩
def x_BadMeasure : ClD := ⟨11, "BadMeasure", ["value"], true, defArgs (inCls (top 6)), defBody (inCls (top 6)), defScope (inCls (top 6)), [(["BadRule"], false), (["BadHall"], false), (["BadCall"], false), (["BadKind"], false), (["BadPaper"], false), (["BadMeasure"], true), (["BadPlan"], false), (["BadNumber"], false), (["BadLog"], false), (["BadShare"], false), (["BadState"], false), (["BadMost"], false), (["CallError"], true), (["BadText"], false), (["TooGreat"], false), (["ValueError"], true)]⟩
def x_BadMost : ClD := ⟨12, "BadMost", ["value"], true, defArgs (inCls (top 7)), defBody (inCls (top 7)), defScope (inCls (top 7)), [(["BadRule"], false), (["BadHall"], false), (["BadCall"], false), (["BadKind"], false), (["BadPaper"], false), (["BadMeasure"], false), (["BadPlan"], false), (["BadNumber"], false), (["BadLog"], false), (["BadShare"], false), (["BadState"], false), (["BadMost"], true), (["CallError"], true), (["BadText"], false), (["TooGreat"], false), (["ValueError"], true)]⟩
def x_BadState : ClD := ⟨13, "BadState", ["value"], true, defArgs (inCls (top 9)), defBody (inCls (top 9)), defScope (inCls (top 9)), [(["BadRule"], false), (["BadHall"], false), (["BadCall"], false), (["BadKind"], false), (["BadPaper"], false), (["BadMeasure"], false), (["BadPlan"], false), (["BadNumber"], false), (["BadLog"], false), (["BadShare"], false), (["BadState"], true), (["BadMost"], false), (["CallError"], true), (["BadText"], false), (["TooGreat"], false), (["ValueError"], true)]⟩
def xl : List ClD := [x_BadHall, x_BadRule, x_BadCall, x_BadNumber, x_BadPlan, x_BadShare, x_BadLog, x_BadPaper, x_BadText, x_TooGreat, x_BadKind, x_BadMeasure, x_BadMost, x_BadState]
def tf : List He.Defn := []
abbrev PP : Program := RR.prog
abbrev hk : PySem.W.Hook := hookM PP 5 fa fn xl tf
def ob (s : PySem.W.SharedT) : AlB := obsM PP 5 fa fn xl tf (HandSHeadRun.getT s)
theorem ob_eq (s : PySem.W.SharedT) : ob s = hk.obs s.abs := obsM_eq (HandSHeadRun.getT_eq s)
def loose : List Str := (["CallError", "BadHall", "BadRule", "BadKind", "BadCall", "BadMeasure", "BadMost", "BadPaper", "BadState", "BadNumber", "BadPlan", "BadShare", "BadLog", "BadText", "TooGreat", "_law_mixed", "_law_folded", "_law_draw", "_law_begun", "_law_like", "_law_classes"] : List Str)
theorem run0 (w : World) (os : OsState) : (endR_ RR STEPS w os).map (fun s => (HandSHeadRun.looksF RR.prog (PySem.W.boot_heap w.params) s.abs, HandSHeadRun.seenQ (PySem.W.view RR.prog [23]) loose (importedModules RR.prog.main.body) (fun s => PySem.W.xlAt (PySem.W.view RR.prog [23]) [] s && PySem.W.recOk RR.toRowW.records s) s.abs)) = some (true, PySem.W.openGood (PySem.W.view RR.prog [23]) loose) := by kernel_rfl
theorem map_and {α : Type} {o : Option α} {A B : α → Bool} (h1 : o.map A = some true) (h2 : o.map B = some true) : o.map (fun s => A s && B s) = some true := by
  cases o with
  | none => cases h1
  | some s => simp only [Option.map_some, Option.some.injEq] at h1 h2 ⊢; rw [h1, h2]; rfl
theorem all_cut {α : Type} (n : Nat) (l : List α) (f : α → Bool) : l.all f = ((l.take n).all f && (l.drop n).all f) := by
  conv => lhs; rw [← List.take_append_drop n l]
  rw [List.all_append]
theorem run1a (w : World) (os : OsState) : (endR_ RR STEPS w os).map (fun s => (fa.take 12).all fun f => f.ok (kT 5 s)) = some true := by kernel_rfl
theorem run1b (w : World) (os : OsState) : (endR_ RR STEPS w os).map (fun s => (fa.drop 12).all fun f => f.ok (kT 5 s)) = some true := by kernel_rfl
theorem run1c (w : World) (os : OsState) : (endR_ RR STEPS w os).map (fun s => (fn.take 3).all fun d => d.ok (kT 5 s)) = some true := by kernel_rfl
theorem run1d (w : World) (os : OsState) : (endR_ RR STEPS w os).map (fun s => (fn.drop 3).all fun d => d.ok (kT 5 s)) = some true := by kernel_rfl
theorem run1 (w : World) (os : OsState) : (endR_ RR STEPS w os).map (fun s => (fa.all fun f => f.ok (kT 5 s)) && fn.all fun d => d.ok (kT 5 s)) = some true := by
  have h := map_and (map_and (run1a w os) (run1b w os)) (map_and (run1c w os) (run1d w os))
  have e : ∀ s, ((fa.all fun f => f.ok (kT 5 s)) && fn.all fun d => d.ok (kT 5 s)) = ((((fa.take 12).all fun f => f.ok (kT 5 s)) && ((fa.drop 12).all fun f => f.ok (kT 5 s))) && (((fn.take 3).all fun d => d.ok (kT 5 s)) && ((fn.drop 3).all fun d => d.ok (kT 5 s)))) := fun s => by
    rw [all_cut 12 fa, all_cut 3 fn]
  simp only [e]
  exact h
theorem run3 (w : World) (os : OsState) : (endR_ RR STEPS w os).map (fun s => fn.map fun d => He.fnW (kT 5 s) d.at_) = some (fn.map He.DefD.val) := by kernel_rfl
theorem run4 (w : World) (os : OsState) : (endR_ RR STEPS w os).map (fun s => (xl.map (fun d => fnM (kT 5 s) (d.fI (kT 5 s))), clsB PP xl tf (kT 5 s) && He.tabsB (HandSHeadRun.getT s) tf (kT 5 s))) = some (xl.map ClD.val, true) := by kernel_rfl
theorem run (w : World) : HandSHeadRun.RunEq RR (PySem.W.view RR.prog [23]) hk ob STEPS loose w := run_of (run0 w) (run1 w) (run3 w) (run4 w)
theorem x_ok : ∀ d ∈ xl, iniB d = true ∧ bindsB d := by
  intro d hd
  simp only [xl, List.mem_cons, List.not_mem_nil, or_false] at hd
  rcases hd with rfl | rfl | rfl | rfl | rfl | rfl | rfl | rfl | rfl | rfl | rfl | rfl | rfl | rfl
  · exact ⟨by decide +kernel, fun _ _ _ _ _ _ _ _ _ _ us hl => match us, hl with | [_], _ => rfl, fun q hq => by
      obtain rfl := List.mem_singleton.mp hq
      exact fun _ _ _ _ _ _ _ _ _ _ ws us hl pk => match ws, hl, us, pk with | [_], _, _, .at rfl .nil => rfl⟩
  · exact ⟨by decide +kernel, fun _ _ _ _ _ _ _ _ _ _ us hl => match us, hl with | [_], _ => rfl, fun q hq => by
      obtain rfl := List.mem_singleton.mp hq
      exact fun _ _ _ _ _ _ _ _ _ _ ws us hl pk => match ws, hl, us, pk with | [_], _, _, .at rfl .nil => rfl⟩
  · exact ⟨by decide +kernel, fun _ _ _ _ _ _ _ _ _ _ us hl => match us, hl with | [_], _ => rfl, fun q hq => by
      obtain rfl := List.mem_singleton.mp hq
      exact fun _ _ _ _ _ _ _ _ _ _ ws us hl pk => match ws, hl, us, pk with | [_], _, _, .at rfl .nil => rfl⟩
  · exact ⟨by decide +kernel, fun _ _ _ _ _ _ _ _ _ _ us hl => match us, hl with | [_], _ => rfl, fun q hq => by
      obtain rfl := List.mem_singleton.mp hq
      exact fun _ _ _ _ _ _ _ _ _ _ ws us hl pk => match ws, hl, us, pk with | [_], _, _, .at rfl .nil => rfl⟩
  · exact ⟨by decide +kernel, fun _ _ _ _ _ _ _ _ _ _ us hl => match us, hl with | [_], _ => rfl, fun q hq => by
      obtain rfl := List.mem_singleton.mp hq
      exact fun _ _ _ _ _ _ _ _ _ _ ws us hl pk => match ws, hl, us, pk with | [_], _, _, .at rfl .nil => rfl⟩
  · exact ⟨by decide +kernel, fun _ _ _ _ _ _ _ _ _ _ us hl => match us, hl with | [_], _ => rfl, fun q hq => by
      obtain rfl := List.mem_singleton.mp hq
      exact fun _ _ _ _ _ _ _ _ _ _ ws us hl pk => match ws, hl, us, pk with | [_], _, _, .at rfl .nil => rfl⟩
  · exact ⟨by decide +kernel, fun _ _ _ _ _ _ _ _ _ _ us hl => match us, hl with | [_], _ => rfl, fun q hq => by
      obtain rfl := List.mem_singleton.mp hq
      exact fun _ _ _ _ _ _ _ _ _ _ ws us hl pk => match ws, hl, us, pk with | [_], _, _, .at rfl .nil => rfl⟩
  · exact ⟨by decide +kernel, fun _ _ _ _ _ _ _ _ _ _ us hl => match us, hl with | [_], _ => rfl, fun q hq => by
      obtain rfl := List.mem_singleton.mp hq
      exact fun _ _ _ _ _ _ _ _ _ _ ws us hl pk => match ws, hl, us, pk with | [_], _, _, .at rfl .nil => rfl⟩
  · exact ⟨by decide +kernel, fun _ _ _ _ _ _ _ _ _ _ us hl => match us, hl with | [_, _], _ => rfl, fun q hq => by
      simp only [kwsOf, x_BadText, List.mem_cons, List.not_mem_nil, or_false] at hq
      rcases hq with rfl | rfl
      · exact fun _ _ _ _ _ _ _ _ _ _ ws us hl pk => match ws, hl, us, pk with | [_, _], _, _, .at rfl (.at rfl .nil) => rfl
      · exact fun _ _ _ _ _ _ _ _ _ _ ws us hl pk => match ws, hl, us, pk with | [_, _], _, _, .at rfl (.at rfl .nil) => rfl⟩
  · exact ⟨by decide +kernel, fun _ _ _ _ _ _ _ _ _ _ us hl => match us, hl with | [_], _ => rfl, fun q hq => by
      obtain rfl := List.mem_singleton.mp hq
      exact fun _ _ _ _ _ _ _ _ _ _ ws us hl pk => match ws, hl, us, pk with | [_], _, _, .at rfl .nil => rfl⟩
  · exact ⟨by decide +kernel, fun _ _ _ _ _ _ _ _ _ _ us hl => match us, hl with | [_], _ => rfl, fun q hq => by
      obtain rfl := List.mem_singleton.mp hq
      exact fun _ _ _ _ _ _ _ _ _ _ ws us hl pk => match ws, hl, us, pk with | [_], _, _, .at rfl .nil => rfl⟩
  · exact ⟨by decide +kernel, fun _ _ _ _ _ _ _ _ _ _ us hl => match us, hl with | [_], _ => rfl, fun q hq => by
      obtain rfl := List.mem_singleton.mp hq
      exact fun _ _ _ _ _ _ _ _ _ _ ws us hl pk => match ws, hl, us, pk with | [_], _, _, .at rfl .nil => rfl⟩
  · exact ⟨by decide +kernel, fun _ _ _ _ _ _ _ _ _ _ us hl => match us, hl with | [_], _ => rfl, fun q hq => by
      obtain rfl := List.mem_singleton.mp hq
      exact fun _ _ _ _ _ _ _ _ _ _ ws us hl pk => match ws, hl, us, pk with | [_], _, _, .at rfl .nil => rfl⟩
  · exact ⟨by decide +kernel, fun _ _ _ _ _ _ _ _ _ _ us hl => match us, hl with | [_], _ => rfl, fun q hq => by
      obtain rfl := List.mem_singleton.mp hq
      exact fun _ _ _ _ _ _ _ _ _ _ ws us hl pk => match ws, hl, us, pk with | [_], _, _, .at rfl .nil => rfl⟩
theorem no_super : (PP.main.scope.names.lookup ("super" : Str)).isSome = false := by decide +kernel
section
variable {w : World} {K : PySem.W.Frag} {h : Heap} {mg : Str → Option Value} {base : Heap}
theorem lookup_mem {α : Type} {l : List (Nat × α)} {i : Nat} {x : α} (h : l.lookup i = some x) : (i, x) ∈ l := by
  induction l with
  | nil => cases h
  | cons a l ih =>
    obtain ⟨j, y⟩ := a
    rw [List.lookup_cons] at h
    by_cases e : i == j
    · rw [e] at h; cases h; rw [eq_of_beq e]; exact List.mem_cons_self
    · simp only [Bool.not_eq_true] at e; rw [e] at h; exact List.mem_cons_of_mem _ (ih h)
theorem world (X : K.In h) (G : h.Ns mainGlobals mg) (c : SaysB PP fa fn xl tf h K) (TB : ∀ q ∈ tf.map (He.cT K), LamX.TabB base mg q.1 q.2) : World0 PP w K mg base pn p (xcOf K xl) (tbOf K tf) where
  cs := fun i d x h1 h2 => by
    have hm := h2
    simp only [pn, List.mem_cons, List.not_mem_nil, or_false, Prod.mk.injEq] at hm
  ds := fun f x h1 => by
    have hm := h1
    simp only [pn, List.mem_cons, List.not_mem_nil, or_false, Prod.mk.injEq] at hm
    rcases hm with ⟨rfl, rfl⟩ | ⟨rfl, rfl⟩
    · obtain ⟨fd, F⟩ := c.d.def_ 5 (d := d__law_like) rfl
      exact ⟨_, _, fd, ["_law_answer", "_law_due"], rfl, ⟨_, _, _, nn__law_like, 200, false, _, F, sc__law_like, by decide +kernel, ck__law_like, rfl, rfl, fun z => nomatch z⟩, by decide +kernel, He.glo_ok X G (c.d.fact 5 (f := .glo "_law_like") rfl), bindK_of (FunD.bindsN F fun _ _ _ _ _ _ us hl => match us, hl with | [_, _], _ => rfl)⟩
    · obtain ⟨fd, F⟩ := c.d.def_ 6 (d := d__law_classes) rfl
      exact ⟨_, _, fd, ["_law_error"], rfl, ⟨_, _, _, nn__law_classes, 200, false, _, F, sc__law_classes, by decide +kernel, ck__law_classes, rfl, rfl, fun z => nomatch z⟩, by decide +kernel, He.glo_ok X G (c.d.fact 6 (f := .glo "_law_classes") rfl), bindK_of (FunD.bindsN F fun _ _ _ _ _ _ us hl => match us, hl with | [_], _ => rfl)⟩
  kd := fun f x ks h1 => by
    have hm := lookup_mem h1
    simp only [pn, List.mem_cons, List.not_mem_nil, or_false, Prod.mk.injEq] at hm
  kp := fun v f x n ks ix h1 => by
    have hm := lookup_mem h1
    simp only [pn, List.mem_cons, List.not_mem_nil, or_false, Prod.mk.injEq] at hm
  dr := by
    obtain ⟨fd, F⟩ := c.d.def_ 2 (d := d__law_draw) rfl
    obtain ⟨fdM, FM⟩ := c.d.def_ 0 (d := d__law_mixed) rfl
    exact ⟨_, fd, _, He.glo_ok X G (c.d.fact 2 (f := .glo "_law_draw") rfl), F.kp, FunD.bindsN (ps := ["_law_m", "_law_limit"]) F fun _ _ _ _ _ _ us hl => match us, hl with | [_, _], _ => rfl, fun W => ok_draw W F FM (He.glo_ok X G (c.d.fact 0 (f := .glo "_law_mixed") rfl)) (He.free_ok X G (c.d.fact 16 (f := .free "int") rfl)) (He.free_ok X G (c.d.fact 7 (f := .free "len") rfl))⟩
  bn := fun x hx => by
    simp only [bNames, List.mem_cons, List.not_mem_nil, or_false] at hx
    rcases hx with rfl | rfl | rfl | rfl | rfl | rfl | rfl | rfl | rfl | rfl | rfl | rfl | rfl | rfl | rfl | rfl | rfl
    · exact (He.free_ok X G (c.d.fact 7 (f := .free "len") rfl))
    · exact (He.free_ok X G (c.d.fact 8 (f := .free "all") rfl))
    · exact (He.free_ok X G (c.d.fact 9 (f := .free "any") rfl))
    · exact (He.free_ok X G (c.d.fact 10 (f := .free "sum") rfl))
    · exact (He.free_ok X G (c.d.fact 11 (f := .free "min") rfl))
    · exact (He.free_ok X G (c.d.fact 12 (f := .free "max") rfl))
    · exact (He.free_ok X G (c.d.fact 13 (f := .free "sorted") rfl))
    · exact (He.free_ok X G (c.d.fact 14 (f := .free "tuple") rfl))
    · exact (He.free_ok X G (c.d.fact 15 (f := .free "list") rfl))
    · exact (He.free_ok X G (c.d.fact 16 (f := .free "int") rfl))
    · exact (He.free_ok X G (c.d.fact 17 (f := .free "repr") rfl))
    · exact (He.free_ok X G (c.d.fact 18 (f := .free "isinstance") rfl))
    · exact (He.free_ok X G (c.d.fact 19 (f := .free "range") rfl))
    · exact (He.free_ok X G (c.d.fact 20 (f := .free "zip") rfl))
    · exact (He.free_ok X G (c.d.fact 21 (f := .free "enumerate") rfl))
    · exact (He.free_ok X G (c.d.fact 22 (f := .free "bool") rfl))
    · exact (He.free_ok X G (c.d.fact 23 (f := .free "str") rfl))
  xs := fun i x ns h1 => by
    have hm := lookup_mem h1
    simp only [pn, List.mem_cons, List.not_mem_nil, or_false, Prod.mk.injEq] at hm
    rcases hm with ⟨rfl, rfl, rfl⟩ | ⟨rfl, rfl, rfl⟩ | ⟨rfl, rfl, rfl⟩ | ⟨rfl, rfl, rfl⟩ | ⟨rfl, rfl, rfl⟩ | ⟨rfl, rfl, rfl⟩ | ⟨rfl, rfl, rfl⟩ | ⟨rfl, rfl, rfl⟩ | ⟨rfl, rfl, rfl⟩ | ⟨rfl, rfl, rfl⟩ | ⟨rfl, rfl, rfl⟩ | ⟨rfl, rfl, rfl⟩ | ⟨rfl, rfl, rfl⟩ | ⟨rfl, rfl, rfl⟩
    · exact ⟨x_BadHall.C K, rfl, by decide +kernel, c.mgAt x_ok no_super X G (d := x_BadHall) (by simp [xl]), (c.at x_ok no_super (d := x_BadHall) (by simp [xl])).2.1⟩
    · exact ⟨x_BadRule.C K, rfl, by decide +kernel, c.mgAt x_ok no_super X G (d := x_BadRule) (by simp [xl]), (c.at x_ok no_super (d := x_BadRule) (by simp [xl])).2.1⟩
    · exact ⟨x_BadCall.C K, rfl, by decide +kernel, c.mgAt x_ok no_super X G (d := x_BadCall) (by simp [xl]), (c.at x_ok no_super (d := x_BadCall) (by simp [xl])).2.1⟩
    · exact ⟨x_BadNumber.C K, rfl, by decide +kernel, c.mgAt x_ok no_super X G (d := x_BadNumber) (by simp [xl]), (c.at x_ok no_super (d := x_BadNumber) (by simp [xl])).2.1⟩
    · exact ⟨x_BadPlan.C K, rfl, by decide +kernel, c.mgAt x_ok no_super X G (d := x_BadPlan) (by simp [xl]), (c.at x_ok no_super (d := x_BadPlan) (by simp [xl])).2.1⟩
    · exact ⟨x_BadShare.C K, rfl, by decide +kernel, c.mgAt x_ok no_super X G (d := x_BadShare) (by simp [xl]), (c.at x_ok no_super (d := x_BadShare) (by simp [xl])).2.1⟩
    · exact ⟨x_BadLog.C K, rfl, by decide +kernel, c.mgAt x_ok no_super X G (d := x_BadLog) (by simp [xl]), (c.at x_ok no_super (d := x_BadLog) (by simp [xl])).2.1⟩
    · exact ⟨x_BadPaper.C K, rfl, by decide +kernel, c.mgAt x_ok no_super X G (d := x_BadPaper) (by simp [xl]), (c.at x_ok no_super (d := x_BadPaper) (by simp [xl])).2.1⟩
    · exact ⟨x_BadText.C K, rfl, by decide +kernel, c.mgAt x_ok no_super X G (d := x_BadText) (by simp [xl]), (c.at x_ok no_super (d := x_BadText) (by simp [xl])).2.1⟩
    · exact ⟨x_TooGreat.C K, rfl, by decide +kernel, c.mgAt x_ok no_super X G (d := x_TooGreat) (by simp [xl]), (c.at x_ok no_super (d := x_TooGreat) (by simp [xl])).2.1⟩
    · exact ⟨x_BadKind.C K, rfl, by decide +kernel, c.mgAt x_ok no_super X G (d := x_BadKind) (by simp [xl]), (c.at x_ok no_super (d := x_BadKind) (by simp [xl])).2.1⟩
    · exact ⟨x_BadMeasure.C K, rfl, by decide +kernel, c.mgAt x_ok no_super X G (d := x_BadMeasure) (by simp [xl]), (c.at x_ok no_super (d := x_BadMeasure) (by simp [xl])).2.1⟩
    · exact ⟨x_BadMost.C K, rfl, by decide +kernel, c.mgAt x_ok no_super X G (d := x_BadMost) (by simp [xl]), (c.at x_ok no_super (d := x_BadMost) (by simp [xl])).2.1⟩
    · exact ⟨x_BadState.C K, rfl, by decide +kernel, c.mgAt x_ok no_super X G (d := x_BadState) (by simp [xl]), (c.at x_ok no_super (d := x_BadState) (by simp [xl])).2.1⟩
  sd := fun v x t h1 => by
    have hm := lookup_mem h1
    simp only [pn, List.mem_cons, List.not_mem_nil, or_false, Prod.mk.injEq] at hm
  xi := fun ys yes no h1 => by
    have hm := h1
    simp only [pn, List.mem_cons, List.not_mem_nil, or_false, Prod.mk.injEq] at hm
    rcases hm with ⟨rfl, rfl, rfl⟩ | ⟨rfl, rfl, rfl⟩ | ⟨rfl, rfl, rfl⟩ | ⟨rfl, rfl, rfl⟩ | ⟨rfl, rfl, rfl⟩ | ⟨rfl, rfl, rfl⟩ | ⟨rfl, rfl, rfl⟩ | ⟨rfl, rfl, rfl⟩ | ⟨rfl, rfl, rfl⟩ | ⟨rfl, rfl, rfl⟩ | ⟨rfl, rfl, rfl⟩ | ⟨rfl, rfl, rfl⟩ | ⟨rfl, rfl, rfl⟩ | ⟨rfl, rfl, rfl⟩ | ⟨rfl, rfl, rfl⟩ | ⟨rfl, rfl, rfl⟩
    · exact c.xi X G (by decide +kernel)
    · exact c.xi X G (by decide +kernel)
    · exact c.xi X G (by decide +kernel)
    · exact c.xi X G (by decide +kernel)
    · exact c.xi X G (by decide +kernel)
    · exact c.xi X G (by decide +kernel)
    · exact c.xi X G (by decide +kernel)
    · exact c.xi X G (by decide +kernel)
    · exact c.xi X G (by decide +kernel)
    · exact c.xi X G (by decide +kernel)
    · exact c.xi X G (by decide +kernel)
    · exact c.xi X G (by decide +kernel)
    · exact c.xi X G (by decide +kernel)
    · exact c.xi X G (by decide +kernel)
    · exact c.xi X G (by decide +kernel)
    · exact c.xi X G (by decide +kernel)
  xv := fun n C ns h1 => c.xv x_ok no_super h1
  sm := c.sm
  ls0 := fun f x h1 => by
    have hm := lookup_mem h1
    simp only [pn, List.mem_cons, List.not_mem_nil, or_false, Prod.mk.injEq] at hm
  ls := fun f x hf5 h1 => by
    have hm := lookup_mem h1
    simp only [pn, List.mem_cons, List.not_mem_nil, or_false, Prod.mk.injEq] at hm
end
theorem facts {w : World} {K : PySem.W.Frag} {h : Heap} {mg : Str → Option Value} {f : Addr} (X : K.In h) (GN : h.Ns mainGlobals mg) (hfa : mg ("law" : Str) = some (.ref f)) (c : SaysB PP fa fn xl tf h K)
    (hlaw : ∀ (ns : List Int) (g : G), ns.length ≤ 63 → GOk g → g.spot = 0 → ∃ g', evB p.cs (den p DEPTH) b_law (gm0 9 ns) g = .ok (.rt (.bl true)) g') :
    ∃ fd : FuncData, (∀ (s : Shared) (v : Value), BindsTo s fd ⟨[v], []⟩ [("_law_script", v)]) ∧ ∀ base : Heap, K.In base → base.Ns mainGlobals mg → (∀ q ∈ tf.map (He.cT K), LamX.TabB base mg q.1 q.2) → FnOkG PP w K mg base (L2.CX PP w) (ix (DEPTH + 1)) f fd ["_law_script"] (spLaw K ((tbOf K tf).map Prod.fst)) := by
  obtain ⟨fd, F⟩ := c.d.def_ 4 (d := d_law) rfl
  obtain ⟨fdB, FB⟩ := c.d.def_ 3 (d := d__law_begun) rfl
  obtain ⟨fdF, FF⟩ := c.d.def_ 1 (d := d__law_folded) rfl
  have e := hfa.symm.trans (He.glo_ok X GN (c.d.fact 4 (f := .glo "law") rfl))
  cases e
  have b := FunD.bindsA (ps := ["_law_script"]) F fun _ _ _ _ _ _ us hl => match us, hl with | [_], _ => rfl
  refine ⟨fd, fun s v => b s [v] rfl, fun base _ _ TB => ?_⟩
  have bB : Binds K fdB ["_law_script"] [] := FunD.bindsN FB fun _ _ _ _ _ _ us hl => match us, hl with | [_], _ => rfl
  exact ok_law (world X GN c TB) (n := 200) (st0 := (defBody sLaw).head!) (rest := (defBody sLaw).tail) F sc_law (by decide +kernel) rfl (by decide +kernel) (by decide +kernel) (He.glo_ok X GN (c.d.fact 3 (f := .glo "_law_begun") rfl)) FB.kp bB (ok_begun FB FF (He.glo_ok X GN (c.d.fact 1 (f := .glo "_law_folded") rfl)) (He.free_ok X GN (c.d.fact 16 (f := .free "int") rfl)) (He.free_ok X GN (c.d.fact 19 (f := .free "range") rfl)) (He.free_ok X GN (c.d.fact 21 (f := .free "enumerate") rfl))) ck_law (fun z => nomatch z) hlaw
end Bk
open PySem PySem.W PySem.Calls PyProof.Rows
/-- the law holds, once the compact program answers true -/
theorem holds_of (hlaw : ∀ (ns : List Int) (g : Bk.G), ns.length ≤ 63 → Bk.GOk g → g.spot = 0 → ∃ g', Bk.evB Bk.p.cs (Bk.den Bk.p Bk.DEPTH) Bk.b_law (Bk.gm0 9 ns) g = .ok (.rt (.bl true)) g') : PySem.Challenge.rw_booklimits_k80_errors_of_the_third_part.Holds := by
  w_on; o_law
  refine HandSHeadRun.head_any (r := OpenLaw.row PySem.Challenge.rw_booklimits_k80_errors_of_the_third_part) (q := view (OpenLaw.row PySem.Challenge.rw_booklimits_k80_errors_of_the_third_part).prog [23]) (H := Bk.hk) (ob := Bk.ob) (M := Bk.STEPS) (loose := Bk.loose) (d := HandSHeadRun.topDef (OpenLaw.row PySem.Challenge.rw_booklimits_k80_errors_of_the_third_part).prog 23) (kwd := []) Bk.ob_eq
    (by kernel_rfl) (fun s => by kernel_rfl) Bk.run (by kernel_rfl) (by kernel_rfl) (by kernel_rfl) (by rfl) (by first | assumption | decide +kernel) (by decide +kernel) ⟨rfl, rfl, rfl, rfl, rfl, by decide +kernel⟩ ?hw ?hc
  case hw => w_witness2
  case hc =>
    refine Bk.walk_T (l := PySem.Challenge.rw_booklimits_k80_errors_of_the_third_part) (n := 63) (k := Bk.ix (Bk.DEPTH + 1)) (x := "_law_script") (CX := fun w => L2.CX Bk.PP w) rfl (by decide) (by kernel_rfl) ⟨rfl, by decide, by decide⟩ ?F (fun _ _ _ _ _ ⟨_, _, _, _, _, _, _, _, _, _, _, _, z⟩ => z)
    intro w mg fa h Y GN hmg0
    obtain ⟨K, KX, c⟩ := Y
    have hmg : mg ("law" : PySem.Str) = some (.ref fa) := by
      have e : (HandSHeadRun.topDef (OpenLaw.row PySem.Challenge.rw_booklimits_k80_errors_of_the_third_part).prog 23).name = ("law" : PySem.Str) := by kernel_rfl
      rw [← e]
      exact hmg0
    obtain ⟨fd, hb, hF⟩ := Bk.facts (w := w) KX GN hmg c hlaw
    have mm : ∀ {q : Addr × Addr}, q ∈ Bk.tf.map (He.cT K) → ∃ p ∈ Bk.tf, He.cT K p = q := fun h => List.mem_map.mp h
    exact ⟨K, fd, Bk.spLaw K ((Bk.tbOf K Bk.tf).map Prod.fst), Bk.tf.map (He.cT K), KX, fun q hq => by obtain ⟨p, hp, rfl⟩ := mm hq; exact c.empty p hp, fun q hq => by obtain ⟨p, hp, rfl⟩ := mm hq; exact c.out p hp, fun q hq => by obtain ⟨p, hp, rfl⟩ := mm hq; exact PySem.W.codeHd_of_K KX (c.hd p hp), hb, fun H a ns hl hS => ⟨a, ns, rfl, (show Bk.Begin K a ns ((Bk.tbOf K Bk.tf).map Prod.fst) H from hS), hl, fun _ => rfl⟩, hF⟩
set_option maxRecDepth 100000 in
set_option maxHeartbeats 8000000 in
theorem PySem.Challenge.cw_booklimits_k80_errors_of_the_third_part_holds : PySem.Challenge.rw_booklimits_k80_errors_of_the_third_part.Holds := by
  exact holds_of fun ns g hl _ hs => Pk.law_ok ns g hl hs
