import PyProof.Rows.All
import Wide.All
import OpenK.AllK
import Wide.FinOn
import PySem.Challenge.RW_booklimits_k81_whole_plans
import PySem.Str
import PySem.PyData
import PyProof.P3Statements
import PyProof.ReprReads
import PyProof.EqLayable
import KE.LtData
import KE.KeyNested
import KE.SortKeyed
import HandS.ForMost
import HandS.Evl
import PyProof.DictRoadsH
import KE.KDictKeyed
import HandS.TupMul
import KE.DataMinMax
import KE.KTupSum
import KE.DataEq
import HandS.Conv
import KE.KDictCopyH
import KE.SortData
import HandS.SortInts
import HandS.Wide
import HandS.TupAny
import HandS.Style
import HandS.IsInst
import HandS.Deep
import KE.KSortedM
import KE.GoesZip
import KE.GoesEnum
import HandS.Zip
import HandS.Exc
import HandS.Star
import PyProof.EqAt
import KE.KDictDisplayH
import PyProof.DictTable
import PyProof.NeKinds
import HandS.Defaults
import HandS.Words
import HandS.Dict
import HandS.Walk
import HandS.Ends
import HandS.HeadEnd
import PyProof.ReprLen
import PyProof.Rows.RegStrFacts
import PyProof.TableCode
import HandS.Head0
import HandS.Head1
import HandS.Head2
import HandS.HeadHook1
import HandS.HeadHook2
import HandS.Codes
set_option Elab.async false
/-! The compact language and its evaluator over plain data. -/
namespace Bk
open PySem

inductive D where
  | non | bl (b : Bool) | int (i : Int) | str (x : Str) | tup (xs : List D) | lst (xs : List D)
  /-- the drawing state's handle -/
  | m
  /-- the script -/
  | scr (ns : List Int)
  /-- a dict: its keys, its values -/
  | dct (ks vs : List D)

mutual
def D.py : D → PyData
  | .non => .none
  | .bl b => .bool b
  | .int i => .int i
  | .str x => .str x
  | .tup xs => .tuple (pys xs)
  | .lst xs => .list (pys xs)
  | .m => .none
  | .scr _ => .none
  | .dct _ _ => .none
def pys : List D → List PyData
  | [] => []
  | x :: xs => x.py :: pys xs
end
mutual
/-- no handle within -/
def D.pl : D → Bool
  | .tup xs => pls xs
  | .lst xs => pls xs
  | .m => false
  | .scr _ => false
  | .dct _ _ => false
  | _ => true
def pls : List D → Bool
  | [] => true
  | x :: xs => x.pl && pls xs
end

/-! ### keys of dicts -/
mutual
def keyD : D → NestedKey
  | .non => .none
  | .bl b => .num (if b then 1 else 0)
  | .int i => .num i
  | .str x => .text x
  | .tup xs => .tup (keysD xs)
  | _ => .none
def keysD : List D → List NestedKey
  | [] => []
  | x :: xs => keyD x :: keysD xs
end
mutual
def okP : D → Bool
  | .non => true
  | .bl _ => true
  | .int _ => true
  | .str _ => true
  | .tup xs => okPs xs
  | _ => false
def okPs : List D → Bool
  | [] => true
  | x :: xs => okP x && okPs xs
end
def okK : D → Bool
  | .tup xs => okPs xs && decide ((keyD (.tup xs)).depth ≤ 8)
  | _ => false
def getK (k : NestedKey) : List D → List D → Option D
  | a :: ks, v :: vs => if keyD a = k then some v else getK k ks vs
  | _, _ => none
def setK (k : NestedKey) (y : D) : List D → List D → List D
  | a :: ks, v :: vs => if keyD a = k then y :: vs else v :: setK k y ks vs
  | _, _ => []
def putD (ks vs : List D) (k y : D) : D := if (getK (keyD k) ks vs).isSome then .dct ks (setK (keyD k) y ks vs) else .dct (ks ++ [k]) (vs ++ [y])
/-- {k: v for ..}, dict(pairs): stored one by one -/
def putsD : List D → List D → List (D × D) → Option D
  | ks, vs, [] => some (.dct ks vs)
  | ks, vs, (k, y) :: r => if okK k && decide (ks.length < 1000000) then (match putD ks vs k y with | .dct ks' vs' => putsD ks' vs' r | _ => none) else none
def pairsD : List D → Option (List (D × D))
  | [] => some []
  | .tup [k, v] :: r => (pairsD r).map ((k, v) :: ·)
  | _ => none

/-- the drawing state -/
structure G where
  cells : List Int
  great : List Int
  spot : Int

inductive R (α : Type) where
  | ok (a : α) (g : G)
  | ex (c : Nat) (ds : List D) (g : G)
  | st
@[inline] def R.bind {α β : Type} (r : R α) (k : α → G → R β) : R β := match r with
  | .ok a g => k a g
  | .ex c ds g => .ex c ds g
  | .st => .st

def mixed (cell n : Int) : Int :=
  (((cell * (1 + 2 * n) * 48271) % 2147483647 + 7919 * n * n + 104729 * n) * 69621) % 2147483629 / 7
/-- `_law_draw` -/
def G.mix (g : G) (lim : Int) : Int := mixed (mixed ((g.cells.getD (g.spot % 64).toNat 0) + 31 * (g.spot / 64)) g.spot) (g.spot + 7) % lim
def G.here (g : G) : Nat := (g.spot % (g.great.length : Int)).toNat
def G.draw (g : G) (lim : Int) : Int × G :=
  if g.great = [] then (g.mix lim, { g with spot := g.spot + 1 })
  else if 0 < g.great.getD g.here 0 then
    (g.great.getD g.here 0 % lim, { g with spot := g.spot + 1, great := g.great.set g.here (g.great.getD g.here 0 / lim) })
  else (g.mix lim, { g with spot := g.spot + 1 })

inductive Op where | add | sub | mul | div | mod | pow
inductive Cm where | eq | ne | lt | le | gt | ge | isin | notin | isN | notN
inductive Ty where | int | bool | str | tuple | list
  deriving DecidableEq
inductive Bi where | len | all | any | sum | min | max | min2 | max2 | sorted | tuple | list | int | repr | maxd | mind | sortd
inductive T where | var (i : Nat) | tup (ts : List T)

mutual
inductive E where
  | cst (d : D)
  | var (i : Nat)
  | glb (i : Nat)
  | bin (o : Op) (a b : E)
  | neg (a : E)
  | cmp (o : Cm) (a b : E)
  | chn (o p : Cm) (a b c : E)
  | and (a b : E)
  | or (a b : E)
  | not (a : E)
  | ife (c a b : E)
  | tup (as : A)
  | lst (as : A)
  | idx (a b : E)
  | sl (a : E) (lo hi : Option E)
  | lc (elt : E) (t : T) (it : I) (cond : Option E)
  | call (f : Nat) (as : A)
  | bi (b : Bi) (as : A)
  | isi (a : E) (ts : List Ty)
  | draw (a b : E)
  /-- two lists, a new one -/
  | cat (a b : E)
  /-- a[::-1] of a list -/
  | rev (a : E)
  /-- an owned list: an item; whether it is (not) empty -/
  | idxO (i : Nat) (b : E)
  | emO (neg : Bool) (i : Nat)
  /-- {}, {k: v} -/
  | dnil
  | done (k v : E)
  /-- a key (not) in an owned dict; how many keys -/
  | inO (neg : Bool) (a : E) (i : Nat)
  | lenO (i : Nat)
  /-- list(range(a)), list(range(a, b)) -/
  | lrng1 (a : E)
  | lrng2 (a b : E)
  /-- displays with starred items -/
  | tupS (as : A)
  | lstS (as : A)
inductive A where
  | nil
  | cons (e : E) (as : A)
  | star (e : E) (as : A)
inductive I where
  | seq (e : E)
  | rng1 (a : E)
  | rng2 (a b : E)
  | zip (a b : E)
  | enum (a : E)
end
mutual
inductive S where
  | expr (e : E)
  | asg (t : T) (e : E)
  /-- a name gets a new list that it owns -/
  | own (i : Nat) (e : E)
  /-- x, y = a, b; x, y, z = a, b, c; the mark: an owned new list -/
  | par (ts : List (Nat × Bool)) (as : A)
  | aug (i : Nat) (e : E)
  | ret (e : E)
  | ife (c : E) (a b : B)
  | for_ (t : T) (it : I) (b : B)
  | whl (n : Nat) (c : E) (b : B)
  | app (i : Nat) (e : E)
  /-- of owned lists: x[a] = b; t = x.pop(); x.extend(e) -/
  | sto (i : Nat) (a b : E)
  | pop (t : T) (i : Nat)
  | ext (i : Nat) (e : E)
  /-- nothing in the text: what is owned is owned no more -/
  | frz (i : Nat)
  | stop
  | pass
inductive B where
  | nil
  | cons (s : S) (b : B)
end

inductive Slot where
  | no | val (d : D) | own (d : D)
abbrev Gm := List Slot

/-! ### operations on data -/
def MulOk (i j : Int) : Bool := decide (i.natAbs.log2 + j.natAbs.log2 < 1000000)
def DivOk (j : Int) : Bool := decide (0 < j) && decide (j.natAbs.log2 < 9000)
def opD : Op → D → D → Option D
  | .add, .int i, .int j => some (.int (i + j))
  | .sub, .int i, .int j => some (.int (i - j))
  | .mul, .int i, .int j => if MulOk i j then some (.int (i * j)) else none
  | .div, .int i, .int j => if DivOk j then some (.int (i / j)) else none
  | .mod, .int i, .int j => if 0 < j then some (.int (i % j)) else none
  | .pow, .int i, .int j => if 0 ≤ j ∧ j ≤ 1000 ∧ i.natAbs < 2 ^ 64 then some (.int (i ^ j.toNat)) else none
  | .add, .tup xs, .tup ys => if xs.length + ys.length ≤ 1000000 then some (.tup (xs ++ ys)) else none
  | .add, .lst xs, .lst ys => if xs.length + ys.length ≤ 1000000 then some (.lst (xs ++ ys)) else none
  | .mul, .tup xs, .int k => if ¬ xs = [] ∧ 1 ≤ k ∧ k ≤ 1000 ∧ xs.length ≤ 1000 then some (.tup (List.replicate k.toNat xs).flatten) else none
  | .mul, .lst xs, .int k => if xs.length * k.toNat ≤ 1000000 ∧ k ≤ 1000000 ∧ -1000000 ≤ k then some (.lst (List.replicate k.toNat xs).flatten) else none
  | .add, .str x, .str y => if x.length + y.length ≤ 1000000 then some (.str (x ++ y)) else none
  | _, _, _ => none
/-- == and != are asked of data whose depth is at most 64 -/
def flatD : D → Bool
  | .non => true
  | .bl _ => true
  | .int _ => true
  | .str _ => true
  | _ => false
def eqF : D → D → Bool
  | .non, .non => true
  | .bl a, .bl b => a == b
  | .bl a, .int b => (if a then 1 else 0) == b
  | .int a, .bl b => a == (if b then 1 else 0)
  | .int a, .int b => a == b
  | .str a, .str b => a == b
  | _, _ => false
def inF (x : D) (ys : List D) : Bool := ys.any fun y => eqF y x
def cmpD : Cm → D → D → Option Bool
  | .lt, .int i, .int j => some (decide (i < j))
  | .le, .int i, .int j => some (decide (i ≤ j))
  | .gt, .int i, .int j => some (decide (j < i))
  | .ge, .int i, .int j => some (decide (j ≤ i))
  | .eq, .int i, .int j => some (decide (i = j))
  | .ne, .int i, .int j => some (!decide (i = j))
  | .eq, .str x, .str y => some (decide (x = y))
  | .ne, .str x, .str y => some (!decide (x = y))
  | .eq, a, b => if a.pl && b.pl && SeqAt.shaped a.py && SeqAt.shaped b.py then some (PyData.eqv a.py b.py) else none
  | .ne, a, b => if a.pl && b.pl && SeqAt.shaped a.py && SeqAt.shaped b.py then some (!PyData.eqv a.py b.py) else none
  | .isin, x, .tup ys => if flatD x && ys.all flatD then some (inF x ys) else none
  | .isin, x, .lst ys => if flatD x && ys.all flatD then some (inF x ys) else none
  | .notin, x, .tup ys => if flatD x && ys.all flatD then some (!inF x ys) else none
  | .notin, x, .lst ys => if flatD x && ys.all flatD then some (!inF x ys) else none
  | .isin, x, .dct ks vs => if okK x then some (getK (keyD x) ks vs).isSome else none
  | .notin, x, .dct ks vs => if okK x then some (!(getK (keyD x) ks vs).isSome) else none
  | .isN, .non, .non => some true
  | .isN, .int _, .non => some false
  | .isN, .str _, .non => some false
  | .isN, .tup _, .non => some false
  | .isN, .lst _, .non => some false
  | .isN, .bl _, .non => some false
  | .notN, .non, .non => some false
  | .notN, .int _, .non => some true
  | .notN, .str _, .non => some true
  | .notN, .tup _, .non => some true
  | .notN, .lst _, .non => some true
  | .notN, .bl _, .non => some true
  | _, _, _ => none
/-- xs[i] -/
def atD (xs : List D) (i : Int) : Option D := if 0 ≤ i then xs[i.toNat]? else if 0 ≤ i + xs.length then xs[(i + xs.length).toNat]? else none
def ixD (n : Nat) (i : Int) : Option Nat := if 0 ≤ i then (if i.toNat < n then some i.toNat else none) else if 0 ≤ i + n then some (i + n).toNat else none
def idxD : D → D → Option D
  | .tup xs, .int i => atD xs i
  | .lst xs, .int i => atD xs i
  | .dct ks vs, k => if okK k then getK (keyD k) ks vs else none
  | _, _ => none
def sIxD (n : Nat) (d : Nat) : Option Int → Nat
  | none => d
  | some i => if i < 0 then (i + n).toNat else min i.toNat n
def cutD (xs : List D) (lo hi : Option Int) : List D := (xs.drop (sIxD xs.length 0 lo)).take (sIxD xs.length xs.length hi - sIxD xs.length 0 lo)
def slD : D → Option Int → Option Int → Option D
  | .tup xs, lo, hi => some (.tup (cutD xs lo hi))
  | .lst xs, lo, hi => some (.lst (cutD xs lo hi))
  | _, _, _ => none
def intsD : List D → Option (List Int)
  | [] => some []
  | .int i :: r => (intsD r).map (i :: ·)
  | _ => none
def blsD : List D → Option (List Bool)
  | [] => some []
  | .bl i :: r => (blsD r).map (i :: ·)
  | _ => none
def maxI : Int → List Int → Int := fun a l => l.foldl (fun x y => if x < y then y else x) a
def minI : Int → List Int → Int := fun a l => l.foldl (fun x y => if y < x then y else x) a
def insI (i : Int) : List Int → List Int
  | [] => [i]
  | j :: r => if i ≤ j then i :: j :: r else j :: insI i r
def sortI (l : List Int) : List Int := l.foldr insI []
/-- the greatest, the least of alike data -/
def maxDD : D → List D → D := fun a l => l.foldl (fun x y => if W.dataLt x.py y.py then y else x) a
def minDD : D → List D → D := fun a l => l.foldl (fun x y => if W.dataLt y.py x.py then y else x) a
def alkD (xs : List D) : Bool := pls xs && xs.all (fun x => xs.all fun y => W.alike x.py y.py) && xs.all (fun x => match x with | .non => false | _ => true) && decide (PyData.depthAll (pys xs) ≤ 60)
/-- sorted data -/
def sortDD (xs : List D) : List D := xs.mergeSort (W.dataLe false D.py)
def biD : Bi → List D → Option D
  | .len, [.tup xs] => some (.int xs.length)
  | .len, [.lst xs] => some (.int xs.length)
  | .len, [.scr ns] => some (.int ns.length)
  | .len, [.str x] => if x.length ≤ 1000000 then some (.int x.length) else none
  | .all, [.lst xs] => (blsD xs).map fun bs => .bl (bs.all id)
  | .any, [.lst xs] => (blsD xs).map fun bs => .bl (bs.any id)
  | .sum, [.lst xs] => (intsD xs).map fun ns => .int ns.sum
  | .sum, [.tup xs] => (intsD xs).map fun ns => .int ns.sum
  | .max, [.lst xs] => (intsD xs).bind fun | [] => none | n :: ns => some (.int (maxI n ns))
  | .min, [.lst xs] => (intsD xs).bind fun | [] => none | n :: ns => some (.int (minI n ns))
  | .max2, [.int i, .int j] => some (.int (if i < j then j else i))
  | .min2, [.int i, .int j] => some (.int (if j < i then j else i))
  | .sorted, [.lst xs] => (intsD xs).map fun ns => .lst ((sortI ns).map .int)
  | .sorted, [.tup xs] => (intsD xs).map fun ns => .lst ((sortI ns).map .int)
  | .tuple, [.lst xs] => some (.tup xs)
  | .tuple, [.tup xs] => some (.tup xs)
  | .list, [.lst xs] => some (.lst xs)
  | .list, [.tup xs] => some (.lst xs)
  | .int, [.int i] => some (.int i)
  | .int, [.bl b] => some (.int (if b then 1 else 0))
  | .list, [.dct ks _] => if ks.length ≤ 1000000 then some (.lst ks) else none
  | .sortd, [.lst xs] => if alkD xs && xs.all (fun x => match x with | .tup (_ :: _) => true | _ => false) then some (.lst (sortDD xs)) else none
  | .maxd, [.lst xs] => if alkD xs then (match xs with | [] => none | x :: r => some (maxDD x r)) else none
  | .mind, [.lst xs] => if alkD xs then (match xs with | [] => none | x :: r => some (minDD x r)) else none
  | .repr, [d] => if d.pl && d.py.showable && decide (d.py.depth ≤ 64) && decide (d.py.shown.length ≤ 1000000) then some (.str d.py.shown) else none
  | _, _ => none
def isI : Ty → D → Bool
  | .bool, .bl _ => true
  | .int, .bl _ => true
  | .int, .int _ => true
  | .str, .str _ => true
  | .tuple, .tup _ => true
  | .list, .lst _ => true
  | .list, .scr _ => true
  | _, _ => false
def isiD (ts : List Ty) : D → Option Bool
  | .m => none
  | .dct _ _ => none
  | d => some (ts.any (isI · d))

/-! ### targets -/
mutual
def setT : T → D → Gm → Option Gm
  | .var i, d, Γ => if i < Γ.length then some (Γ.set i (.val d)) else none
  | .tup ts, .tup ds, Γ => setTs ts ds Γ
  | .tup _, _, _ => none
def setTs : List T → List D → Gm → Option Gm
  | [], [], Γ => some Γ
  | t :: ts, d :: ds, Γ => (setT t d Γ).bind (setTs ts ds)
  | _, _, _ => none
end
mutual
def T.vars : T → List Nat
  | .var i => [i]
  | .tup ts => varsT ts
def varsT : List T → List Nat
  | [] => []
  | t :: ts => t.vars ++ varsT ts
end
def wipeG (Γ : Gm) : List Nat → Gm
  | [] => Γ
  | v :: vs => (wipeG Γ vs).set v .no

def rngD (a : Int) : Nat → List D
  | 0 => []
  | n + 1 => .int a :: rngD (a + 1) n
def zipD : List D → List D → List D
  | x :: xs, y :: ys => .tup [x, y] :: zipD xs ys
  | _, _ => []
def enumD (n : Int) : List D → List D
  | [] => []
  | x :: xs => .tup [.int n, x] :: enumD (n + 1) xs
def seqD : D → Option (List D)
  | .tup xs => some xs
  | .lst xs => some xs
  | .dct ks _ => if ks.length ≤ 1000000 then some ks else none
  | _ => none
def itemsD : D → Option (List D)
  | .tup xs => some xs
  | .lst xs => some xs
  | _ => none

def lift {α : Type} (o : Option α) (g : G) : R α := match o with
  | some a => .ok a g
  | none => .st
/-- [elt for x in items if cond] -/
def R.nox {α : Type} (r : R α) : R α := match r with
  | .ok a g => .ok a g
  | _ => .st
def lcR (f : D → G → R (Option D)) : List D → G → R (List D)
  | [], g => .ok [] g
  | x :: xs, g => (f x g).nox.bind fun o g1 => (lcR f xs g1).bind fun ys g2 => .ok (match o with | some y => y :: ys | none => ys) g2
inductive Fl where
  | nx (Γ : Gm) | rt (d : D)
def forR (f : D → Gm → G → R Fl) : List D → Gm → G → R Fl
  | [], Γ, g => .ok (.nx Γ) g
  | x :: xs, Γ, g => (f x Γ g).bind fun fl g1 => match fl with
    | .nx Γ' => forR f xs Γ' g1
    | .rt d => .ok (.rt d) g1
def whlR (c : Gm → G → R Bool) (f : Gm → G → R Fl) : Nat → Gm → G → R Fl
  | 0, _, _ => .st
  | n + 1, Γ, g => (c Γ g).bind fun b g1 => if b then (f Γ g1).bind fun fl g2 => (match fl with
      | .nx Γ' => whlR c f n Γ' g2
      | .rt d => .ok (.rt d) g2)
    else .ok (.nx Γ) g1
def blR (r : R D) : R Bool := r.bind fun d g => match d with | .bl b => .ok b g | _ => .st

/-- what a program is: constants by number, defs: parameters, names, body -/
structure Df where
  np : Nat
  nn : Nat
  body : B
structure Pr where
  cs : List (Nat × D)
  ds : List (Nat × Df)

def isOb : D → Bool
  | .lst _ => true
  | .dct _ _ => true
  | _ => false
def parG : List (Nat × Bool) → List D → Gm → Option Gm
  | [], [], Γ => some Γ
  | (i, o) :: ts, d :: ds, Γ => if i < Γ.length then parG ts ds (Γ.set i (if o && isOb d then .own d else .val d)) else none
  | _, _, _ => none

section
variable (cs : List (Nat × D)) (call : Nat → List D → G → R D)
mutual
def evE : E → Gm → G → R D
  | .cst d, _, g => .ok d g
  | .var i, Γ, g => match Γ[i]? with | some (.val d) => .ok d g | _ => .st
  | .glb i, _, g => lift (cs.lookup i) g
  | .bin o a b, Γ, g => (evE a Γ g).bind fun x g => (evE b Γ g).bind fun y g => lift (opD o x y) g
  | .neg a, Γ, g => (evE a Γ g).bind fun x g => match x with | .int i => .ok (.int (-i)) g | _ => .st
  | .cmp o a b, Γ, g => (evE a Γ g).bind fun x g => (evE b Γ g).bind fun y g => lift ((cmpD o x y).map .bl) g
  | .chn o p a b c, Γ, g => (evE a Γ g).bind fun x g => (evE b Γ g).bind fun y g => (lift (cmpD o x y) g).bind fun k g =>
      if k then (evE c Γ g).bind fun z g => lift ((cmpD p y z).map .bl) g else .ok (.bl false) g
  | .and a b, Γ, g => (blR (evE a Γ g)).bind fun k g => if k then (blR (evE b Γ g)).bind fun j g => .ok (.bl j) g else .ok (.bl false) g
  | .or a b, Γ, g => (blR (evE a Γ g)).bind fun k g => if k then .ok (.bl true) g else (blR (evE b Γ g)).bind fun j g => .ok (.bl j) g
  | .not a, Γ, g => (blR (evE a Γ g)).bind fun k g => .ok (.bl (!k)) g
  | .ife c a b, Γ, g => (blR (evE c Γ g)).bind fun k g => if k then evE a Γ g else evE b Γ g
  | .tup as, Γ, g => (evA as Γ g).bind fun xs g => .ok (.tup xs) g
  | .lst as, Γ, g => (evA as Γ g).bind fun xs g => .ok (.lst xs) g
  | .idx a b, Γ, g => (evE a Γ g).bind fun x g => (evE b Γ g).bind fun y g => lift (idxD x y) g
  | .sl a lo hi, Γ, g => (evE a Γ g).bind fun x g => (evO lo Γ g).bind fun l g => (evO hi Γ g).bind fun h g => lift (slD x l h) g
  | .lc elt t it cond, Γ, g => (evI it Γ g).bind fun xs g => (lcR (fun x g => (lift (setT t x (wipeG Γ t.vars)) g).bind fun Γ' g =>
      match cond with
      | none => (evE elt Γ' g).bind fun y g => .ok (some y) g
      | some c => (blR (evE c Γ' g)).bind fun k g => if k then (evE elt Γ' g).bind fun y g => .ok (some y) g else .ok none g) xs g).bind fun ys g => .ok (.lst ys) g
  | .call f as, Γ, g => (evA as Γ g).bind fun xs g => call f xs g
  | .bi b as, Γ, g => (evA as Γ g).bind fun xs g => lift (biD b xs) g
  | .isi a ts, Γ, g => (evE a Γ g).bind fun x g => lift ((isiD ts x).map .bl) g
  | .draw a b, Γ, g => (evE a Γ g).bind fun x g => (evE b Γ g).bind fun y g => match x, y with
      | .m, .int lim => if 0 < lim ∧ lim < 2 ^ 4000 ∧ g.spot < 2 ^ 60 then .ok (.int (g.draw lim).1) (g.draw lim).2 else .st
      | _, _ => .st
  | .cat a b, Γ, g => (evE a Γ g).bind fun x g => (evE b Γ g).bind fun y g => match x, y with
      | .lst xs, .lst ys => if xs.length + ys.length ≤ 1000000 then .ok (.lst (xs ++ ys)) g else .st
      | _, _ => .st
  | .rev a, Γ, g => (evE a Γ g).bind fun x g => match x with
      | .lst xs => .ok (.lst xs.reverse) g
      | _ => .st
  | .idxO i b, Γ, g => match Γ[i]? with
      | some (.own d) => (evE b Γ g).bind fun y g => lift (idxD d y) g
      | _ => .st
  | .dnil, _, g => .ok (.dct [] []) g
  | .done a b, Γ, g => (evE a Γ g).bind fun k g => (evE b Γ g).bind fun v g => if okK k then .ok (.dct [k] [v]) g else .st
  | .inO neg a i, Γ, g => (evE a Γ g).bind fun k g => match Γ[i]? with
      | some (.own (.dct ks vs)) => if okK k then .ok (.bl (if neg then !(getK (keyD k) ks vs).isSome else (getK (keyD k) ks vs).isSome)) g else .st
      | _ => .st
  | .lrng1 a, Γ, g => (evE a Γ g).bind fun x g => match x with | .int i => if -1000000 ≤ i ∧ i ≤ 1000000 then .ok (.lst (rngD 0 i.toNat)) g else .st | _ => .st
  | .lrng2 a b, Γ, g => (evE a Γ g).bind fun x g => (evE b Γ g).bind fun y g => match x, y with
      | .int i, .int j => if (-1000000 ≤ i ∧ i ≤ 1000000) ∧ -1000000 ≤ j ∧ j ≤ 1000000 then .ok (.lst (rngD i (j - i).toNat)) g else .st
      | _, _ => .st
  | .lenO i, Γ, g => match Γ[i]? with
      | some (.own (.dct ks vs)) => if ks.length ≤ 1000000 then .ok (.int ks.length) g else .st
      | _ => .st
  | .emO neg i, Γ, g => match Γ[i]? with
      | some (.own (.lst xs)) => .ok (.bl (if neg then !xs.isEmpty else xs.isEmpty)) g
      | _ => .st
  | .tupS as, Γ, g => (evA as Γ g).bind fun xs g => if xs.length ≤ 1000000 then .ok (.tup xs) g else .st
  | .lstS as, Γ, g => (evA as Γ g).bind fun xs g => if xs.length ≤ 1000000 then .ok (.lst xs) g else .st
def evO : Option E → Gm → G → R (Option Int)
  | none, _, g => .ok none g
  | some e, Γ, g => (evE e Γ g).bind fun x g => match x with | .int i => .ok (some i) g | _ => .st
def evA : A → Gm → G → R (List D)
  | .nil, _, g => .ok [] g
  | .cons e as, Γ, g => (evE e Γ g).bind fun x g => (evA as Γ g).bind fun xs g => .ok (x :: xs) g
  | .star e as, Γ, g => (evE e Γ g).bind fun x g => match itemsD x with
      | some ys => (evA as Γ g).bind fun xs g => .ok (ys ++ xs) g
      | none => .st
def evI : I → Gm → G → R (List D)
  | .seq e, Γ, g => (evE e Γ g).bind fun x g => lift (seqD x) g
  | .rng1 a, Γ, g => (evE a Γ g).bind fun x g => match x with | .int i => if -1000000 ≤ i ∧ i ≤ 1000000 then .ok (rngD 0 i.toNat) g else .st | _ => .st
  | .rng2 a b, Γ, g => (evE a Γ g).bind fun x g => (evE b Γ g).bind fun y g => match x, y with
      | .int i, .int j => if (-1000000 ≤ i ∧ i ≤ 1000000) ∧ -1000000 ≤ j ∧ j ≤ 1000000 then .ok (rngD i (j - i).toNat) g else .st
      | _, _ => .st
  | .zip a b, Γ, g => (evE a Γ g).bind fun x g => (evE b Γ g).bind fun y g => match itemsD x, itemsD y with
      | some xs, some ys => .ok (zipD xs ys) g
      | _, _ => .st
  | .enum a, Γ, g => (evE a Γ g).bind fun x g => match itemsD x with
      | some xs => .ok (enumD 0 xs) g
      | _ => .st
end
mutual
def evS : S → Gm → G → R Fl
  | .expr e, Γ, g => (evE cs call e Γ g).bind fun _ g => .ok (.nx Γ) g
  | .asg t e, Γ, g => (evE cs call e Γ g).bind fun x g => (lift (setT t x Γ) g).bind fun Γ' g => .ok (.nx Γ') g
  | .own i e, Γ, g => (evE cs call e Γ g).bind fun x g => match x with
      | .lst xs => if i < Γ.length then .ok (.nx (Γ.set i (.own (.lst xs)))) g else .st
      | .dct ks vs => if i < Γ.length then .ok (.nx (Γ.set i (.own (.dct ks vs)))) g else .st
      | _ => .st
  | .par ts as, Γ, g => (evA cs call as Γ g).bind fun xs g => (lift (parG ts xs Γ) g).bind fun Γ' g => .ok (.nx Γ') g
  | .aug i e, Γ, g => match Γ[i]? with
      | some (.val x) => (evE cs call e Γ g).bind fun y g => (match x, y with
        | .int a, .int b => .ok (.nx (Γ.set i (.val (.int (a + b))))) g
        | _, _ => .st)
      | _ => .st
  | .ret e, Γ, g => (evE cs call e Γ g).bind fun x g => .ok (.rt x) g
  | .ife c a b, Γ, g => (blR (evE cs call c Γ g)).bind fun k g => if k then evB a Γ g else evB b Γ g
  | .for_ t it b, Γ, g => (evI cs call it Γ g).bind fun xs g => forR (fun x Γ g => (lift (setT t x Γ) g).bind fun Γ' g => evB b Γ' g) xs Γ g
  | .whl n c b, Γ, g => whlR (fun Γ g => blR (evE cs call c Γ g)) (fun Γ g => evB b Γ g) n Γ g
  | .app i e, Γ, g => match Γ[i]? with
      | some (.own (.lst xs)) => (evE cs call e Γ g).bind fun y g => if xs.length < 1000000 then .ok (.nx (Γ.set i (.own (.lst (xs ++ [y]))))) g else .st
      | _ => .st
  | .sto i a b, Γ, g => (evE cs call b Γ g).bind fun y g => match Γ[i]? with
      | some (.own (.lst xs)) => (evE cs call a Γ g).bind fun k g => (match k with
        | .int k => (match ixD xs.length k with
          | some j => .ok (.nx (Γ.set i (.own (.lst (xs.set j y))))) g
          | none => .st)
        | _ => .st)
      | some (.own (.dct ks vs)) => (evE cs call a Γ g).bind fun k g => if okK k && decide (ks.length < 1000000) then .ok (.nx (Γ.set i (.own (putD ks vs k y)))) g else .st
      | _ => .st
  | .pop t i, Γ, g => match Γ[i]? with
      | some (.own (.lst xs)) => (match xs[xs.length - 1]? with
        | some x => (lift (setT t x (Γ.set i (.own (.lst xs.dropLast)))) g).bind fun Γ' g => .ok (.nx Γ') g
        | none => .st)
      | _ => .st
  | .ext i e, Γ, g => match Γ[i]? with
      | some (.own (.lst xs)) => (evE cs call e Γ g).bind fun y g => (match y with
        | .lst ys => if xs.length + ys.length ≤ 1000000 then .ok (.nx (Γ.set i (.own (.lst (xs ++ ys))))) g else .st
        | _ => .st)
      | _ => .st
  | .frz i, Γ, g => match Γ[i]? with
      | some (.own d) => .ok (.nx (Γ.set i (.val d))) g
      | _ => .ok (.nx Γ) g
  | .stop, _, _ => .st
  | .pass, Γ, g => .ok (.nx Γ) g
def evB : B → Gm → G → R Fl
  | .nil, Γ, g => .ok (.nx Γ) g
  | .cons s b, Γ, g => (evS s Γ g).bind fun fl g => match fl with
    | .nx Γ' => evB b Γ' g
    | .rt d => .ok (.rt d) g
end
end

def startG (n : Nat) (ds : List D) : Gm := ds.map .val ++ List.replicate (n - ds.length) .no
def endR (r : R Fl) : R D := r.bind fun fl g => match fl with
  | .nx _ => .ok .non g
  | .rt d => .ok d g
def den (p : Pr) : Nat → Nat → List D → G → R D
  | 0, _, _, _ => .st
  | k + 1, f, ds, g => match p.ds.lookup f with
    | none => .st
    | some df => if ds.length = df.np ∧ df.np ≤ df.nn then endR (evB p.cs (den p k) df.body (startG df.nn ds) g) else .st
end Bk

set_option Elab.async false
set_option linter.all false
set_option maxRecDepth 100000
set_option maxHeartbeats 1000000
/-! Plain data and the drawing state in the abstract heap. -/
namespace Bk
open PySem L2
open Evl (Ex ex_l ex_t)

structure Wd where
  am : Addr
  ac : Addr
  ag : Addr
  w : World
/-- an object that is known to the sign -/
def ObX (d : Addr) (o : Obj) : HO := .ext fun h => h.get? d = some o
theorem obX_ok {P : Program} {w : World} {H : Hp} {h : Heap} {d : Addr} {o : Obj} (e : h.get? d = some o) : ObjOk P w H h d (ObX d o) := ⟨e, ⟨o, e⟩, fun _ _ z k => k _ z⟩
theorem obX_at {P : Program} {w : World} {H : Hp} {h : Heap} {d : Addr} {o : Obj} (hok : HOk P w H h) (e : H d = some (ObX d o)) : h.get? d = some o := by
  have x : ObjOk P w H h d (.ext fun h => h.get? d = some o) := hok d _ e
  exact x.1
/-- the object is a dict with these keys, the places of these, these values -/
def DcIs (w : World) (o : Obj) (xs : List (NestedKey × Addr × V)) : Prop := ∃ ys : List (NestedKey × Addr × Value), Paired (fun (p : NestedKey × Addr × V) (q : NestedKey × Addr × Value) => p.1 = q.1 ∧ p.2.1 = q.2.1 ∧ RelV p.2.2 q.2.2) xs ys ∧
  o.ExactDict ∧ (ys.map (·.1)).Nodup ∧ ∃ es ep, o.data = .dict es ep ∧ es.toList = ys.map fun x => (⟨x.1.hash w, .ref x.2.1, x.2.2⟩ : DictEntry)

section
variable (K : PySem.W.Frag) (W : Wd)
mutual
def Rp (H : Hp) : D → V → Prop
  | .non, v => v = .non
  | .bl b, v => v = .bl b
  | .int i, v => v = .int i
  | .str x, v => v = .str x
  | .tup ds, v => ∃ a xs, v = .ref a ∧ SqT K H a xs ∧ RpL H ds xs
  | .lst ds, v => ∃ a xs, v = .ref a ∧ H a = some (.lst xs) ∧ RpL H ds xs
  | .m, v => v = .ref W.am
  | .scr ns, v => ∃ a, v = .ref a ∧ SqL K H a (ns.map V.int)
  | .dct ks vs, v => ∃ (a : Addr) (o : Obj) (xs : List (NestedKey × Addr × V)), v = .ref a ∧ H a = some (ObX a o) ∧ (a == sysModules) = false ∧ DcIs W.w o xs ∧ xs.map (·.1) = keysD ks ∧ ks.all okK = true ∧ RpL H ks (xs.map fun x => V.ref x.2.1) ∧ RpL H vs (xs.map fun x => x.2.2)
def RpL (H : Hp) : List D → List V → Prop
  | [], xs => xs = []
  | d :: ds, xs => ∃ y ys, xs = y :: ys ∧ Rp H d y ∧ RpL H ds ys
end
end
section
variable {K : PySem.W.Frag} {W : Wd} {Hk Hk' Hk1 Hk2 H H' H1 H2 : Hp}
mutual
theorem Rp.mono (e : Ex H H') : ∀ {d : D} {v : V}, Rp K W H d v → Rp K W H' d v
  | .non, _, h => h
  | .bl _, _, h => h
  | .int _, _, h => h
  | .str _, _, h => h
  | .tup ds, v, h => by
    obtain ⟨a, xs, e1, h1, h2⟩ := h
    exact ⟨a, xs, e1, ex_t e h1, RpL.mono e h2⟩
  | .lst ds, v, h => by
    obtain ⟨a, xs, e1, h1, h2⟩ := h
    exact ⟨a, xs, e1, e _ _ h1, RpL.mono e h2⟩
  | .m, _, h => h
  | .scr ns, _, h => by
    obtain ⟨a, e1, h1⟩ := h
    exact ⟨a, e1, ex_l e h1⟩
  | .dct ks vs, _, h => by
    obtain ⟨a, o, xs, e1, h1, h2, h3, h4, h5, h6, h7⟩ := h
    exact ⟨a, o, xs, e1, e _ _ h1, h2, h3, h4, h5, RpL.mono e h6, RpL.mono e h7⟩
theorem RpL.mono (e : Ex H H') : ∀ {ds : List D} {vs : List V}, RpL K W H ds vs → RpL K W H' ds vs
  | [], _, h => h
  | d :: ds, vs, h => by
    obtain ⟨y, ys, e1, h1, h2⟩ := h
    exact ⟨y, ys, e1, Rp.mono e h1, RpL.mono e h2⟩
end
theorem RpL.len : ∀ {ds : List D} {vs : List V}, RpL K W H ds vs → vs.length = ds.length
  | [], _, h => by rw [show _ = [] from h]; rfl
  | d :: ds, vs, h => by
    obtain ⟨y, ys, rfl, _, h2⟩ := h
    rw [List.length_cons, List.length_cons, RpL.len h2]
theorem RpL.get : ∀ {ds : List D} {vs : List V} {i : Nat} {d : D}, RpL K W H ds vs → ds[i]? = some d → ∃ v, vs[i]? = some v ∧ Rp K W H d v
  | [], _, _, _, _, e => by simp at e
  | d :: ds, vs, 0, x, h, e => by
    obtain ⟨y, ys, rfl, h1, _⟩ := h
    simp at e
    subst e
    exact ⟨y, rfl, h1⟩
  | d :: ds, vs, i + 1, x, h, e => by
    obtain ⟨y, ys, rfl, _, h2⟩ := h
    obtain ⟨v, e1, e2⟩ := RpL.get (i := i) h2 (by simpa using e)
    exact ⟨v, by simpa using e1, e2⟩
theorem RpL.at : ∀ {ds : List D} {vs : List V} {i : Nat} {v : V}, RpL K W H ds vs → vs[i]? = some v → ∃ d, ds[i]? = some d ∧ Rp K W H d v
  | [], _, _, _, h, e => by rw [show _ = [] from h] at e; simp at e
  | d :: ds, vs, 0, x, h, e => by
    obtain ⟨y, ys, rfl, h1, _⟩ := h
    simp at e
    subst e
    exact ⟨d, rfl, h1⟩
  | d :: ds, vs, i + 1, x, h, e => by
    obtain ⟨y, ys, rfl, _, h2⟩ := h
    obtain ⟨v, e1, e2⟩ := RpL.at (i := i) h2 (by simpa using e)
    exact ⟨v, by simpa using e1, e2⟩
theorem RpL.nil : RpL K W H [] [] := rfl
theorem RpL.cons {d : D} {ds : List D} {v : V} {vs : List V} (h : Rp K W H d v) (hs : RpL K W H ds vs) : RpL K W H (d :: ds) (v :: vs) := ⟨v, vs, rfl, h, hs⟩
theorem RpL.append : ∀ {ds es : List D} {vs us : List V}, RpL K W H ds vs → RpL K W H es us → RpL K W H (ds ++ es) (vs ++ us)
  | [], _, _, _, h, h' => by rw [show _ = [] from h]; exact h'
  | d :: ds, es, vs, us, h, h' => by
    obtain ⟨y, ys, rfl, h1, h2⟩ := h
    exact ⟨y, ys ++ us, rfl, h1, RpL.append h2 h'⟩
theorem RpL.drop : ∀ (n : Nat) {ds : List D} {vs : List V}, RpL K W H ds vs → RpL K W H (ds.drop n) (vs.drop n)
  | 0, _, _, h => h
  | n + 1, [], _, h => by rw [show _ = [] from h]; exact rfl
  | n + 1, d :: ds, vs, h => by
    obtain ⟨y, ys, rfl, h1, h2⟩ := h
    exact RpL.drop n h2
theorem RpL.take : ∀ (n : Nat) {ds : List D} {vs : List V}, RpL K W H ds vs → RpL K W H (ds.take n) (vs.take n)
  | 0, _, _, h => rfl
  | n + 1, [], _, h => by rw [show _ = [] from h]; exact rfl
  | n + 1, d :: ds, vs, h => by
    obtain ⟨y, ys, rfl, h1, h2⟩ := h
    exact ⟨y, ys.take n, rfl, h1, RpL.take n h2⟩
theorem RpL.rep {ds : List D} {vs : List V} (h : RpL K W H ds vs) : ∀ n : Nat, RpL K W H (List.replicate n ds).flatten (List.replicate n vs).flatten
  | 0 => rfl
  | n + 1 => by
    rw [List.replicate_succ, List.replicate_succ, List.flatten_cons, List.flatten_cons]
    exact h.append (RpL.rep h n)
theorem RpL.ints : ∀ {ds : List D} {vs : List V} {ns : List Int}, RpL K W H ds vs → intsD ds = some ns → vs = ns.map V.int
  | [], vs, ns, h, e => by
    rw [show vs = [] from h]
    simp only [intsD, Option.some.injEq] at e
    subst e; rfl
  | d :: ds, vs, ns, h, e => by
    obtain ⟨y, ys, rfl, h1, h2⟩ := h
    cases d with
    | int i =>
      simp only [intsD, Option.map_eq_some_iff] at e
      obtain ⟨l, e1, rfl⟩ := e
      rw [show y = V.int i from h1, RpL.ints h2 e1]; rfl
    | _ => simp only [intsD] at e; cases e
theorem RpL.bls : ∀ {ds : List D} {vs : List V} {ns : List Bool}, RpL K W H ds vs → blsD ds = some ns → vs = ns.map V.bl
  | [], vs, ns, h, e => by
    rw [show vs = [] from h]
    simp only [blsD, Option.some.injEq] at e
    subst e; rfl
  | d :: ds, vs, ns, h, e => by
    obtain ⟨y, ys, rfl, h1, h2⟩ := h
    cases d with
    | bl i =>
      simp only [blsD, Option.map_eq_some_iff] at e
      obtain ⟨l, e1, rfl⟩ := e
      rw [show y = V.bl i from h1, RpL.bls h2 e1]; rfl
    | _ => simp only [blsD] at e; cases e
theorem RpL.ofInts : ∀ (ns : List Int), RpL K W H (ns.map D.int) (ns.map V.int)
  | [] => rfl
  | n :: ns => ⟨_, _, rfl, rfl, RpL.ofInts ns⟩
mutual
theorem Rp.dp : ∀ {d : D} {v : V}, Rp K W H d v → d.pl = true → Dp K H v d.py
  | .non, v, h, _ => by rw [show v = _ from h]; exact .non
  | .bl b, v, h, _ => by rw [show v = _ from h]; exact .bl b
  | .int i, v, h, _ => by rw [show v = _ from h]; exact .int i
  | .str x, v, h, _ => by rw [show v = _ from h]; exact .str x
  | .tup ds, v, h, p => by
    obtain ⟨a, xs, rfl, h1, h2⟩ := h
    exact .tup h1 (RpL.dps h2 p)
  | .lst ds, v, h, p => by
    obtain ⟨a, xs, rfl, h1, h2⟩ := h
    exact .lst (SqL.of h1) (RpL.dps h2 p)
  | .m, _, _, p => by cases p
  | .scr _, _, _, p => by cases p
  | .dct _ _, _, _, p => by cases p
theorem RpL.dps : ∀ {ds : List D} {vs : List V}, RpL K W H ds vs → pls ds = true → DpAll K H vs (pys ds)
  | [], vs, h, _ => by rw [show vs = [] from h]; exact .nil
  | d :: ds, vs, h, p => by
    obtain ⟨y, ys, rfl, h1, h2⟩ := h
    simp only [pls, Bool.and_eq_true] at p
    exact .cons (Rp.dp h1 p.1) (RpL.dps h2 p.2)
end

/-- d stands at p as the object o -/
def Ob (K : PySem.W.Frag) (W : Wd) (H : Hp) : D → Addr → HO → Prop
  | .lst ds, _, u => ∃ xs, u = .lst xs ∧ RpL K W H ds xs
  | .dct ks vs, p, u => ∃ (o : Obj) (xs : List (NestedKey × Addr × V)), u = ObX p o ∧ (p == sysModules) = false ∧ DcIs W.w o xs ∧ xs.map (·.1) = keysD ks ∧ ks.all okK = true ∧ RpL K W H ks (xs.map fun x => V.ref x.2.1) ∧ RpL K W H vs (xs.map fun x => x.2.2)
  | _, _, _ => False
theorem Ob.mono (e : Ex H H') {d : D} {p : Addr} {u : HO} (h : Ob K W H d p u) : Ob K W H' d p u := by
  cases d <;> (try exact h.elim)
  · obtain ⟨xs, e1, h1⟩ := h
    exact ⟨xs, e1, h1.mono e⟩
  · obtain ⟨o, xs, e1, h2, h3, h4, h5, h6, h7⟩ := h
    exact ⟨o, xs, e1, h2, h3, h4, h5, h6.mono e, h7.mono e⟩
theorem Ob.is {d : D} {p : Addr} {u : HO} (h : Ob K W H d p u) : isOb d = true := by
  cases d <;> first | rfl | exact h.elim
theorem Ob.rp {d : D} {p : Addr} {u : HO} (h : Ob K W H d p u) (e : H p = some u) : Rp K W H d (.ref p) := by
  cases d <;> (try exact h.elim)
  · obtain ⟨xs, e1, h1⟩ := h
    subst e1
    exact ⟨p, xs, rfl, e, h1⟩
  · obtain ⟨o, xs, e1, h2⟩ := h
    subst e1
    exact ⟨p, o, xs, rfl, e, h2⟩
/-- the drawing state stands -/
structure GOk (g : G) : Prop where
  len : g.cells.length = 64
  cel : ∀ c ∈ g.cells, 0 ≤ c ∧ c < 2 ^ 31
  spot : 0 ≤ g.spot
  gl : g.great.length ≤ 63
def mDict (W : Wd) (g : G) : HO := .dK [(.inr "cells", .ref W.ac), (.inr "great", .ref W.ag), (.inr "spot", .int g.spot)]
structure DrawAt (W : Wd) (g : G) (H : Hp) : Prop where
  m : H W.am = some (mDict W g)
  c : H W.ac = some (.lst (g.cells.map V.int))
  gr : H W.ag = some (.lst (g.great.map V.int))
  ne : W.ac ≠ W.ag
  ok : GOk g
theorem DrawAt.mc {g : G} (h : DrawAt W g H) : W.am ≠ W.ac := ne_of h.m h.c (by intro q; cases q)
theorem DrawAt.mg {g : G} (h : DrawAt W g H) : W.am ≠ W.ag := ne_of h.m h.gr (by intro q; cases q)
def Wd.out (W : Wd) (b : Addr) : Prop := b ≠ W.am ∧ b ≠ W.ac ∧ b ≠ W.ag

structure Step (W : Wd) (Hk H Hk' H' : Hp) : Prop where
  k : Ex Hk Hk'
  kh : Ex Hk' H'
  h : ∀ b o, H b = some o → W.out b → H' b = some o
  t : ∀ b o, H b = some o → ∃ o', H' b = some o'
  n : ∀ b o, Hk' b = some o → Hk b = none → H b = none
theorem Step.refl (e : Ex Hk H) : Step W Hk H Hk H := ⟨Ex.refl _, e, fun _ _ h _ => h, fun _ o h => ⟨o, h⟩, fun b o h h' => by rw [h] at h'; cases h'⟩
theorem Step.trans (a : Step W Hk H Hk1 H1) (b : Step W Hk1 H1 Hk2 H2) : Step W Hk H Hk2 H2 where
  k := a.k.trans b.k
  kh := b.kh
  h := fun x o h hx => b.h x o (a.h x o h hx) hx
  t := fun x o h => by
    obtain ⟨o', h'⟩ := a.t x o h
    exact b.t x o' h'
  n := fun x o h h' => by
    cases q : Hk1 x with
    | some o' => exact a.n x o' q h'
    | none =>
      have q1 := b.n x o h q
      cases q2 : H x with
      | none => rfl
      | some o' =>
        obtain ⟨o2, h2⟩ := a.t x o' q2
        rw [q1] at h2; cases h2
/-- a new object, known -/
theorem Step.new {p : Addr} {o : HO} (e : Ex Hk H) (hp : H p = none) : Step W Hk H (upd Hk p o) (upd H p o) where
  k := Ex.new (by
    cases q : Hk p with
    | none => rfl
    | some u => rw [e p u q] at hp; cases hp)
  kh := fun b u hb => by
    by_cases hbp : b = p
    · subst hbp; rw [upd_same] at hb ⊢; exact hb
    · rw [upd_ne hbp] at hb ⊢; exact e b u hb
  h := fun b u hb _ => by rw [upd_ne (ne_of_none hb hp)]; exact hb
  t := fun b u hb => ⟨u, by rw [upd_ne (ne_of_none hb hp)]; exact hb⟩
  n := fun b u hb hn => by
    by_cases hbp : b = p
    · subst hbp; exact hp
    · rw [upd_ne hbp, hn] at hb; cases hb
/-- a new object, not (yet) known -/
theorem Step.hid {p : Addr} {o : HO} (e : Ex Hk H) (hp : H p = none) : Step W Hk H Hk (upd H p o) where
  k := Ex.refl _
  kh := fun b u hb => by
    have h := e b u hb
    rw [upd_ne (ne_of_none h hp)]; exact h
  h := fun b u hb _ => by rw [upd_ne (ne_of_none hb hp)]; exact hb
  t := fun b u hb => ⟨u, by rw [upd_ne (ne_of_none hb hp)]; exact hb⟩
  n := fun b u hb hn => by rw [hb] at hn; cases hn
/-- it becomes known -/
theorem Step.tell {p : Addr} {o : HO} (s : Step W Hk H Hk' H') (hp : H p = none) (h' : H' p = some o) : Step W Hk H (upd Hk' p o) H' where
  k := fun b u hb => by
    by_cases hbp : b = p
    · subst hbp
      have q := s.kh _ _ (s.k _ _ hb)
      rw [h'] at q; cases q
      exact upd_same
    · rw [upd_ne hbp]; exact s.k b u hb
  kh := fun b u hb => by
    by_cases hbp : b = p
    · subst hbp; rw [upd_same] at hb; cases hb; exact h'
    · rw [upd_ne hbp] at hb; exact s.kh b u hb
  h := s.h
  t := s.t
  n := fun b u hb hn => by
    by_cases hbp : b = p
    · subst hbp; exact hp
    · rw [upd_ne hbp] at hb; exact s.n b u hb hn
/-- an unknown object that was not there ahead is changed -/
theorem Step.mut {p : Addr} {o : HO} (s : Step W Hk H Hk' H') (hp : H p = none) (hk : Hk' p = none) : Step W Hk H Hk' (upd H' p o) where
  k := s.k
  kh := fun b u hb => by rw [upd_ne (ne_of_none hb hk)]; exact s.kh b u hb
  h := fun b u hb hx => by rw [upd_ne (ne_of_none hb hp)]; exact s.h b u hb hx
  t := fun b u hb => by rw [upd_ne (ne_of_none hb hp)]; exact s.t b u hb
  n := s.n
/-- the known part at what stays -/
theorem Step.unk {p : Addr} {o : HO} (s : Step W Hk H Hk' H') (hk : Hk p = none) (hp : H p = some o) : Hk' p = none := by
  cases q : Hk' p with
  | none => rfl
  | some u => have := s.n p u q hk; rw [hp] at this; cases this

theorem ex_upd_out {p : Addr} {g : G} (h : DrawAt W g H) (hp : H p = none) : W.out p :=
  ⟨fun e => (by rw [e, h.m] at hp; cases hp), fun e => (by rw [e, h.c] at hp; cases hp), fun e => (by rw [e, h.gr] at hp; cases hp)⟩
theorem DrawAt.upd {p : Addr} {o : HO} {g : G} (h : DrawAt W g H) (hp : W.out p) : DrawAt W g (upd H p o) :=
  ⟨by rw [upd_ne (Ne.symm hp.1)]; exact h.m, by rw [upd_ne (Ne.symm hp.2.1)]; exact h.c, by rw [upd_ne (Ne.symm hp.2.2)]; exact h.gr, h.ne, h.ok⟩

/-- the world at a call -/
structure Wk (W : Wd) (g : G) (Hk H : Hp) : Prop where
  ex : Ex Hk H
  m : Hk W.am = none
  c : Hk W.ac = none
  gr : Hk W.ag = none
  dr : DrawAt W g H
theorem Wk.step {g g' : G} (w : Wk W g Hk H) (s : Step W Hk H Hk' H') (d : DrawAt W g' H') : Wk W g' Hk' H' :=
  ⟨s.kh, s.unk w.m w.dr.m, s.unk w.c w.dr.c, s.unk w.gr w.dr.gr, d⟩

/-- what is wanted of a result -/
def ExcAt (c : Nat) (ds : List D) (cls : Value) (dx : Option Addr) (Hk H : Hp) : Prop := False
def Fin {α : Type} (W : Wd) (Ew : XK) (Hk H : Hp) (r : R α) (k : α → G → Hp → Hp → Prop) : Prop := match r with
  | .ok a g => ∀ Hk' H', Step W Hk H Hk' H' → DrawAt W g H' → k a g Hk' H'
  | .ex c ds g => ∀ Hk' H' cls dx, Step W Hk H Hk' H' → DrawAt W g H' → ExcAt c ds cls dx Hk' H' → Ew cls dx H'
  | .st => False
theorem Fin.mono {α : Type} {Ew : XK} {r : R α} {k k' : α → G → Hp → Hp → Prop} (h : Fin W Ew Hk H r k) (hk : ∀ a g Hk' H', Step W Hk H Hk' H' → DrawAt W g H' → k a g Hk' H' → k' a g Hk' H') : Fin W Ew Hk H r k' := by
  cases r with
  | ok a g => exact fun Hk' H' s d => hk a g Hk' H' s d (h Hk' H' s d)
  | ex c ds g => exact h
  | st => exact h
theorem Fin.step {α : Type} {Ew : XK} {r : R α} {k : α → G → Hp → Hp → Prop} (s : Step W Hk H Hk' H') (h : Fin W Ew Hk H r k) : Fin W Ew Hk' H' r k := by
  cases r with
  | ok a g => exact fun Hk2 H2 s2 d => h Hk2 H2 (s.trans s2) d
  | ex c ds g => exact fun Hk2 H2 cls dx s2 d x => h Hk2 H2 cls dx (s.trans s2) d x
  | st => exact h
theorem Fin.bind {α β : Type} {Ew : XK} {r : R α} {f : α → G → R β} {k : β → G → Hp → Hp → Prop} (h : Fin W Ew Hk H (r.bind f) k) :
    Fin W Ew Hk H r fun a g Hk' H' => Fin W Ew Hk' H' (f a g) k := by
  cases r with
  | ok a g => exact fun Hk' H' s d => Fin.step s h
  | ex c ds g => exact h
  | st => exact h
theorem Fin.lift {α : Type} {Ew : XK} {o : Option α} {g : G} {k : α → G → Hp → Hp → Prop} (h : Fin W Ew Hk H (lift o g) k) :
    ∃ a, o = some a ∧ ∀ Hk' H', Step W Hk H Hk' H' → DrawAt W g H' → k a g Hk' H' := by
  cases o with
  | none => exact h.elim
  | some a => exact ⟨a, rfl, h⟩

/-! ### the names' values -/
inductive GmR (K : PySem.W.Frag) (W : Wd) (Hk H : Hp) : Gm → St → List Addr → Prop where
  | nil : GmR K W Hk H [] [] []
  | no {Γ σ os} (o : Option V) : GmR K W Hk H Γ σ os → GmR K W Hk H (.no :: Γ) (o :: σ) os
  | val {Γ σ os d v} : Rp K W Hk d v → GmR K W Hk H Γ σ os → GmR K W Hk H (.val d :: Γ) (some v :: σ) os
  | own {Γ σ os d p u} : H p = some u → Ob K W Hk d p u → GmR K W Hk H Γ σ os → GmR K W Hk H (.own d :: Γ) (some (.ref p) :: σ) (p :: os)
/-- Hk0, H0: the heaps at the def's entry -/
structure Fr (K : PySem.W.Frag) (W : Wd) (Hk0 H0 : Hp) (Γ : Gm) (g : G) (σ : St) (Hk H : Hp) : Prop where
  wk : Wk W g Hk H
  en : Step W Hk0 H0 Hk H
  sl : ∃ os, GmR K W Hk H Γ σ os ∧ os.Nodup ∧ ∀ p ∈ os, Hk p = none ∧ H0 p = none ∧ W.out p
section
variable {Γ : Gm} {σ : St} {os : List Addr} {Hk0 H0 : Hp} {g g' : G}
theorem GmR.len (h : GmR K W Hk H Γ σ os) : σ.length = Γ.length := by
  induction h with
  | nil => rfl
  | no o _ ih => simp [ih]
  | val _ _ ih => simp [ih]
  | own _ _ _ ih => simp [ih]
theorem GmR.val_at (h : GmR K W Hk H Γ σ os) : ∀ {i : Nat} {d : D}, Γ[i]? = some (.val d) → ∃ v, σ[i]? = some (some v) ∧ Rp K W Hk d v := by
  induction h with
  | nil => intro i d e; simp at e
  | no o _ ih =>
    intro i d e
    cases i with
    | zero => simp at e
    | succ i => simpa using ih (i := i) (d := d) (by simpa using e)
  | val r _ ih =>
    intro i d e
    cases i with
    | zero => simp at e; subst e; exact ⟨_, rfl, r⟩
    | succ i => simpa using ih (i := i) (d := d) (by simpa using e)
  | own _ _ _ ih =>
    intro i d e
    cases i with
    | zero => simp at e
    | succ i => simpa using ih (i := i) (d := d) (by simpa using e)
theorem GmR.mono (h : GmR K W Hk H Γ σ os) (e : Ex Hk Hk') (ho : ∀ p ∈ os, ∀ u, H p = some u → H' p = some u) : GmR K W Hk' H' Γ σ os := by
  induction h with
  | nil => exact .nil
  | no o _ ih => exact .no o (ih ho)
  | val r _ ih => exact .val (r.mono e) (ih ho)
  | own h1 h2 _ ih => exact .own (ho _ List.mem_cons_self _ h1) (h2.mono e) (ih fun p hp => ho p (List.mem_cons_of_mem _ hp))
theorem GmR.owned (h : GmR K W Hk H Γ σ os) : ∀ p ∈ os, ∃ u, H p = some u := by
  induction h with
  | nil => intro p hp; cases hp
  | no o _ ih => exact ih
  | val _ _ ih => exact ih
  | own h1 _ _ ih =>
    intro p hp
    rcases List.mem_cons.mp hp with rfl | hp
    · exact ⟨_, h1⟩
    · exact ih p hp
theorem GmR.obj_at (h : GmR K W Hk H Γ σ os) : ∀ {i : Nat} {d : D}, Γ[i]? = some (.own d) → ∃ p u, σ[i]? = some (some (.ref p)) ∧ p ∈ os ∧ H p = some u ∧ Ob K W Hk d p u := by
  induction h with
  | nil => intro i d e; simp at e
  | no o _ ih =>
    intro i d e
    cases i with
    | zero => simp at e
    | succ i => simpa using ih (i := i) (d := d) (by simpa using e)
  | val r _ ih =>
    intro i d e
    cases i with
    | zero => simp at e
    | succ i => simpa using ih (i := i) (d := d) (by simpa using e)
  | own h1 h2 _ ih =>
    intro i d e
    cases i with
    | zero => simp at e; subst e; exact ⟨_, _, rfl, List.mem_cons_self, h1, h2⟩
    | succ i =>
      obtain ⟨p, u, e2, e3, e4, e5⟩ := ih (i := i) (d := d) (by simpa using e)
      exact ⟨p, u, by simpa using e2, List.mem_cons_of_mem _ e3, e4, e5⟩
theorem GmR.own_at (h : GmR K W Hk H Γ σ os) {i : Nat} {ds : List D} (e : Γ[i]? = some (.own (.lst ds))) : ∃ p xs, σ[i]? = some (some (.ref p)) ∧ p ∈ os ∧ H p = some (.lst xs) ∧ RpL K W Hk ds xs := by
  obtain ⟨p, u, e2, e3, e4, xs, rfl, e5⟩ := h.obj_at e
  exact ⟨p, xs, e2, e3, e4, e5⟩
/-- a name gets a value: what it owned is owned no more -/
theorem GmR.set (h : GmR K W Hk H Γ σ os) : ∀ (i : Nat) {d : D} {v : V}, Rp K W Hk d v → ∃ os', GmR K W Hk H (Γ.set i (.val d)) (σ.set i (some v)) os' ∧ os'.Sublist os := by
  induction h with
  | nil => intro i d v r; exact ⟨[], .nil, List.Sublist.refl _⟩
  | no o t ih =>
    intro i d v r
    cases i with
    | zero => exact ⟨_, .val r t, List.Sublist.refl _⟩
    | succ i => obtain ⟨os', t', s⟩ := ih i r; exact ⟨os', .no o t', s⟩
  | val q t ih =>
    intro i d v r
    cases i with
    | zero => exact ⟨_, .val r t, List.Sublist.refl _⟩
    | succ i => obtain ⟨os', t', s⟩ := ih i r; exact ⟨os', .val q t', s⟩
  | own h1 h2 t ih =>
    intro i d v r
    cases i with
    | zero => exact ⟨_, .val r t, List.sublist_cons_self _ _⟩
    | succ i => obtain ⟨os', t', s⟩ := ih i r; exact ⟨_, .own h1 h2 t', s.cons₂ _⟩
/-- a name gets a new list -/
theorem GmR.setOwn (h : GmR K W Hk H Γ σ os) : ∀ (i : Nat) {ds : D} {p : Addr} {xs : HO}, i < Γ.length → H p = some xs → Ob K W Hk ds p xs → p ∉ os → os.Nodup →
    ∃ os', GmR K W Hk H (Γ.set i (.own ds)) (σ.set i (some (.ref p))) os' ∧ os'.Nodup ∧ ∀ q ∈ os', q = p ∨ q ∈ os := by
  induction h with
  | nil => intro i ds p xs hi; simp at hi
  | no o t ih =>
    intro i ds p xs hi hp hr hn nd
    cases i with
    | zero => exact ⟨_, .own hp hr t, List.nodup_cons.mpr ⟨hn, nd⟩, fun q hq => by simpa using hq⟩
    | succ i => obtain ⟨os', t', s⟩ := ih i (by simpa using hi) hp hr hn nd; exact ⟨os', .no o t', s⟩
  | val q t ih =>
    intro i ds p xs hi hp hr hn nd
    cases i with
    | zero => exact ⟨_, .own hp hr t, List.nodup_cons.mpr ⟨hn, nd⟩, fun q hq => by simpa using hq⟩
    | succ i => obtain ⟨os', t', s⟩ := ih i (by simpa using hi) hp hr hn nd; exact ⟨os', .val q t', s⟩
  | own h1 h2 t ih =>
    intro i ds p xs hi hp hr hn nd
    cases i with
    | zero =>
      exact ⟨_, .own hp hr t, List.nodup_cons.mpr ⟨fun z => hn (List.mem_cons_of_mem _ z), (List.nodup_cons.mp nd).2⟩, fun q hq => by
        rcases List.mem_cons.mp hq with z | z
        · exact .inl z
        · exact .inr (List.mem_cons_of_mem _ z)⟩
    | succ i =>
      obtain ⟨os', t', nd', s⟩ := ih i (by simpa using hi) hp hr (fun z => hn (List.mem_cons_of_mem _ z)) (List.nodup_cons.mp nd).2
      refine ⟨_, .own h1 h2 t', List.nodup_cons.mpr ⟨fun z => ?_, nd'⟩, fun q hq => ?_⟩
      · rcases s _ z with z | z
        · exact hn (by rw [← z]; exact List.mem_cons_self)
        · exact (List.nodup_cons.mp nd).1 z
      · rcases List.mem_cons.mp hq with z | z
        · exact .inr (by rw [z]; exact List.mem_cons_self)
        · rcases s q z with z | z
          · exact .inl z
          · exact .inr (List.mem_cons_of_mem _ z)
/-- an owned list is changed -/
theorem GmR.chg (h : GmR K W Hk H Γ σ os) : ∀ {i : Nat} {d : D} {p : Addr} {es : D} {ys : HO}, os.Nodup → Γ[i]? = some (.own d) → σ[i]? = some (some (.ref p)) → Ob K W Hk es p ys →
    GmR K W Hk (upd H p ys) (Γ.set i (.own es)) σ os := by
  induction h with
  | nil => intro i d p es ys nd e; simp at e
  | no o t ih =>
    intro i d p es ys nd e e2 r
    cases i with
    | zero => simp at e
    | succ i => exact .no o (ih nd (by simpa using e) (by simpa using e2) r)
  | val q t ih =>
    intro i d p es ys nd e e2 r
    cases i with
    | zero => simp at e
    | succ i => exact .val q (ih nd (by simpa using e) (by simpa using e2) r)
  | @own Γ σ os ds p0 xs h1 h2 t ih =>
    intro i d p es ys nd e e2 r
    have nd' := List.nodup_cons.mp nd
    cases i with
    | zero =>
      simp at e2
      subst e2
      exact .own upd_same r (t.mono (Ex.refl _) fun q hq xs h => by rw [upd_ne (show q ≠ p0 from fun z => nd'.1 (z ▸ hq))]; exact h)
    | succ i =>
      have hp : p ∈ os := by
        obtain ⟨p', _, q1, q2, _⟩ := t.obj_at (i := i) (d := d) (by simpa using e)
        rw [show σ[i]? = some (some (.ref p)) by simpa using e2] at q1
        cases q1
        exact q2
      exact .own (by rw [upd_ne (show p0 ≠ p from fun z => nd'.1 (z ▸ hp))]; exact h1) h2 (ih nd'.2 (by simpa using e) (by simpa using e2) r)
theorem GmR.wipe (h : GmR K W Hk H Γ σ os) : ∀ (i : Nat), ∃ os', GmR K W Hk H (Γ.set i .no) (σ.set i none) os' ∧ os'.Sublist os := by
  induction h with
  | nil => intro i; exact ⟨[], .nil, List.Sublist.refl _⟩
  | no o t ih =>
    intro i
    cases i with
    | zero => exact ⟨_, .no none t, List.Sublist.refl _⟩
    | succ i => obtain ⟨os', t', s⟩ := ih i; exact ⟨os', .no o t', s⟩
  | val q t ih =>
    intro i
    cases i with
    | zero => exact ⟨_, .no none t, List.Sublist.refl _⟩
    | succ i => obtain ⟨os', t', s⟩ := ih i; exact ⟨os', .val q t', s⟩
  | own h1 h2 t ih =>
    intro i
    cases i with
    | zero => exact ⟨_, .no none t, List.sublist_cons_self _ _⟩
    | succ i => obtain ⟨os', t', s⟩ := ih i; exact ⟨_, .own h1 h2 t', s.cons₂ _⟩

theorem Fr.step (f : Fr K W Hk0 H0 Γ g σ Hk H) (s : Step W Hk H Hk' H') (d : DrawAt W g' H') : Fr K W Hk0 H0 Γ g' σ Hk' H' := by
  obtain ⟨os, h, nd, ho⟩ := f.sl
  refine ⟨f.wk.step s d, f.en.trans s, os, h.mono s.k fun p hp xs e => s.h p _ e (ho p hp).2.2, nd, fun p hp => ?_⟩
  obtain ⟨xs, e⟩ := h.owned p hp
  exact ⟨s.unk (ho p hp).1 e, (ho p hp).2⟩
theorem Fr.set (f : Fr K W Hk0 H0 Γ g σ Hk H) {i : Nat} {d : D} {v : V} (r : Rp K W Hk d v) : Fr K W Hk0 H0 (Γ.set i (.val d)) g (σ.set i (some v)) Hk H := by
  obtain ⟨os, h, nd, ho⟩ := f.sl
  obtain ⟨os', h', s⟩ := h.set i r
  exact ⟨f.wk, f.en, os', h', nd.sublist s, fun p hp => ho p (s.subset hp)⟩
theorem Fr.wipe (f : Fr K W Hk0 H0 Γ g σ Hk H) : ∀ (vs : List Nat), Fr K W Hk0 H0 (wipeG Γ vs) g (L2.wipe σ vs) Hk H
  | [] => f
  | v :: vs => by
    obtain ⟨os, h, nd, ho⟩ := (Fr.wipe f vs).sl
    obtain ⟨os', h', s⟩ := h.wipe v
    exact ⟨f.wk, f.en, os', h', nd.sublist s, fun p hp => ho p (s.subset hp)⟩
/-- a new list, owned -/
theorem Fr.setOwn (f : Fr K W Hk0 H0 Γ g σ Hk H) {i : Nat} {ds : D} {p : Addr} {xs : HO} (hi : i < Γ.length) (hp : H p = some xs) (hk : Hk p = none) (h0 : H0 p = none) (ho : W.out p)
    (r : Ob K W Hk ds p xs) (hn : ∀ (j : Nat) (q : D), Γ[j]? = some (Slot.own q) → σ[j]? ≠ some (some (V.ref p))) : Fr K W Hk0 H0 (Γ.set i (.own ds)) g (σ.set i (some (.ref p))) Hk H := by
  obtain ⟨os, h, nd, hos⟩ := f.sl
  have hpo : p ∉ os := by
    intro hm
    have : ∀ {Γ : Gm} {σ : St} {os : List Addr}, GmR K W Hk H Γ σ os → p ∈ os → ∃ (j : Nat) (q : D), Γ[j]? = some (Slot.own q) ∧ σ[j]? = some (some (V.ref p)) := by
      intro Γ σ os t
      induction t with
      | nil => intro z; cases z
      | no o _ ih => intro z; obtain ⟨j, q, a, b⟩ := ih z; exact ⟨j + 1, q, by simpa using a, by simpa using b⟩
      | val _ _ ih => intro z; obtain ⟨j, q, a, b⟩ := ih z; exact ⟨j + 1, q, by simpa using a, by simpa using b⟩
      | own _ _ _ ih =>
        intro z
        rcases List.mem_cons.mp z with rfl | z
        · exact ⟨0, _, rfl, rfl⟩
        · obtain ⟨j, q, a, b⟩ := ih z; exact ⟨j + 1, q, by simpa using a, by simpa using b⟩
    obtain ⟨j, q, a, b⟩ := this h hm
    exact hn j q a b
  obtain ⟨os', h', nd', s⟩ := h.setOwn i hi hp r hpo nd
  refine ⟨f.wk, f.en, os', h', nd', fun q hq => ?_⟩
  rcases s q hq with rfl | z
  · exact ⟨hk, h0, ho⟩
  · exact hos q z
theorem Fr.len (f : Fr K W Hk0 H0 Γ g σ Hk H) : σ.length = Γ.length := let ⟨_, h, _⟩ := f.sl; h.len
end
end
end Bk

set_option Elab.async false
set_option linter.all false
set_option maxRecDepth 100000
set_option maxHeartbeats 1000000
/-! Dicts whose keys are tuples of any depth: over the abstract heap. -/
namespace Bk
open PySem L2
open Evl (Ex ex_l ex_t)
section
variable {X : Cx} {W : Wd} {pins : List (Addr × Obj)} {σ : L2.St} {Hk H : Hp} {s : Shared}
mutual
theorem rp_key (I : L2.Inv X pins σ H s) (ex : Ex Hk H) : ∀ {d : D} {v : V} {u : Value}, Rp X.K W Hk d v → okP d = true → RelV v u → NestedIs s.heap (keyD d) u
  | .non, v, u, r, _, ru => by
    rw [show v = .non from r] at ru
    rw [show u = Value.none from ru]
    exact .none
  | .bl b, v, u, r, _, ru => by
    rw [show v = .bl b from r] at ru
    rw [show u = Value.bool b from ru]
    exact .bool rfl
  | .int i, v, u, r, _, ru => by
    rw [show v = .int i from r] at ru
    obtain ⟨t, e⟩ := (show ∃ t, u = Value.int i t from ru)
    subst e
    exact .int i t
  | .str x, v, u, r, _, ru => by
    rw [show v = .str x from r] at ru
    obtain ⟨t, e⟩ := (show ∃ t, u = Value.str x t from ru)
    subst e
    exact .text x t
  | .tup ds, v, u, r, ok, ru => by
    obtain ⟨a, xs, e1, h1, h2⟩ := r
    subst e1
    rw [show u = Value.ref a from ru]
    obtain ⟨its, rv, ⟨o, q1, q2, n, q3⟩, hz⟩ := I.tuple (ex_t ex h1)
    exact .tup q1 q2 q3 (rp_keys I ex h2 ok rv)
  | .lst _, _, _, _, ok, _ => by cases ok
  | .m, _, _, _, ok, _ => by cases ok
  | .scr _, _, _, _, ok, _ => by cases ok
  | .dct _ _, _, _, _, ok, _ => by cases ok
theorem rp_keys (I : L2.Inv X pins σ H s) (ex : Ex Hk H) : ∀ {ds : List D} {vs : List V} {us : List Value}, RpL X.K W Hk ds vs → okPs ds = true → Vals vs us → NestedAll s.heap (keysD ds) us
  | [], vs, us, r, _, ru => by
    rw [show vs = [] from r] at ru
    cases ru
    exact .nil
  | d :: ds, vs, us, r, ok, ru => by
    obtain ⟨y, ys, e, r1, r2⟩ := r
    subst e
    simp only [okPs, Bool.and_eq_true] at ok
    cases ru with
    | cons q1 q2 => exact .cons (rp_key I ex r1 ok.1 q1) (rp_keys I ex r2 ok.2 q2)
end
theorem okK_P {d : D} (h : okK d = true) : okP d = true ∧ (keyD d).depth ≤ 8 := by
  cases d <;> (try (cases h; done))
  simp only [okK, Bool.and_eq_true, decide_eq_true_eq] at h
  exact h
/-- a key, as the heap's kind has it -/
theorem rp_is (I : L2.Inv X pins σ H s) (ex : Ex Hk H) {d : D} {v : V} {u : Value} (r : Rp X.K W Hk d v) (ok : okK d = true) (ru : RelV v u) : ∃ a, v = .ref a ∧ u = .ref a ∧ (nestedKind X.prog X.w).is s.heap (keyD d) a := by
  obtain ⟨o1, o2⟩ := okK_P ok
  have k := rp_key I ex r o1 ru
  cases d <;> (try (cases ok; done))
  obtain ⟨a, xs, e1, h1, h2⟩ := id r
  subst e1
  have e : u = Value.ref a := ru
  subst e
  exact ⟨a, rfl, rfl, k, o2⟩
abbrev Trip (xs : List (NestedKey × Addr × V)) (ys : List (NestedKey × Addr × Value)) : Prop :=
  Paired (fun (p : NestedKey × Addr × V) (q : NestedKey × Addr × Value) => p.1 = q.1 ∧ p.2.1 = q.2.1 ∧ RelV p.2.2 q.2.2) xs ys
theorem keys_is (I : L2.Inv X pins σ H s) (ex : Ex Hk H) : ∀ {ks : List D} {xs : List (NestedKey × Addr × V)} {ys : List (NestedKey × Addr × Value)}, Trip xs ys → xs.map (·.1) = keysD ks → ks.all okK = true →
    RpL X.K W Hk ks (xs.map fun x => V.ref x.2.1) → ∀ y ∈ ys, (nestedKind X.prog X.w).is s.heap y.1 y.2.1
  | [], xs, ys, t, e, _, _ => by
    cases t with
    | nil => intro y hy; cases hy
    | cons q t => simp [keysD] at e
  | k :: ks, xs, ys, t, e, ok, r => by
    cases t with
    | nil => intro y hy; cases hy
    | @cons x y xs ys q t =>
      simp only [List.map_cons, keysD, List.cons.injEq] at e
      simp only [List.all_cons, Bool.and_eq_true] at ok
      obtain ⟨v0, vs0, e0, r1, r2⟩ := r
      simp only [List.map_cons, List.cons.injEq] at e0
      obtain ⟨e1, e2⟩ := e0
      intro z hz
      rcases List.mem_cons.mp hz with e3 | hz
      · subst e3
        rw [← e1] at r1
        obtain ⟨a, q1, q2, q3⟩ := rp_is (u := .ref x.2.1) I ex r1 ok.1 rfl
        cases q1
        rw [← q.1, ← q.2.1, e.1]
        exact q3
      · rw [← e2] at r2
        exact keys_is I ex t e.2 ok.2 r2 z hz
/-- the dict in the machine's heap -/
theorem dict_of (I : L2.Inv X pins σ H s) (ex : Ex Hk H) (hw : W.w = X.w) {p : Addr} {o : Obj} {xs : List (NestedKey × Addr × V)} {ks : List D} (h1 : H p = some (ObX p o)) (h3 : DcIs W.w o xs) (h4 : xs.map (·.1) = keysD ks) (h5 : ks.all okK = true)
    (h6 : RpL X.K W Hk ks (xs.map fun x => V.ref x.2.1)) : ∃ ys, Trip xs ys ∧ s.heap.DictOfH (nestedKind X.prog X.w) p ys := by
  obtain ⟨ys, t, q1, q2, es, ep, q3, q4⟩ := h3
  refine ⟨ys, t, o, es, ep, obX_at I.hok h1, q1, q3, ?_, keys_is I ex t h4 h5 h6, q2⟩
  rw [q4, hw]
  rfl
theorem atKey_cons {y : NestedKey × Addr × Value} {ys : List (NestedKey × Addr × Value)} {k : NestedKey} : atKey (y :: ys) k = if y.1 = k then some y.2 else atKey ys k := by
  by_cases e : y.1 = k
  · simp [atKey, e]
  · simp [atKey, List.find?_cons, e]
/-- what is found -/
theorem get_rel {K : PySem.W.Frag} (k : NestedKey) : ∀ {ks vs : List D} {xs : List (NestedKey × Addr × V)} {ys : List (NestedKey × Addr × Value)}, Trip xs ys → xs.map (·.1) = keysD ks → RpL K W Hk vs (xs.map fun x => x.2.2) →
    (∃ d v u a, getK k ks vs = some d ∧ atKey ys k = some (a, u) ∧ RelV v u ∧ Rp K W Hk d v) ∨ (getK k ks vs = none ∧ atKey ys k = none)
  | [], vs, xs, ys, t, e, r => by
    cases t with
    | nil => exact .inr ⟨by simp [getK], rfl⟩
    | cons q t => simp [keysD] at e
  | a :: ks, vs, xs, ys, t, e, r => by
    cases t with
    | nil => simp [keysD] at e
    | @cons x y xs ys q t =>
      simp only [List.map_cons, keysD, List.cons.injEq] at e
      cases vs with
      | nil => exact absurd (show (_ :: _ : List V) = [] from r) (by simp)
      | cons w vs =>
        obtain ⟨v0, vs0, e0, r1, r2⟩ := r
        simp only [List.map_cons, List.cons.injEq] at e0
        obtain ⟨e1, e2⟩ := e0
        rw [atKey_cons]
        simp only [getK]
        by_cases hk : keyD a = k
        · rw [if_pos hk, if_pos (by rw [← q.1, e.1]; exact hk)]
          exact .inl ⟨w, x.2.2, y.2.2, y.2.1, rfl, rfl, q.2.2, by rw [e1]; exact r1⟩
        · rw [if_neg hk, if_neg (by rw [← q.1, e.1]; exact hk)]
          rw [← e2] at r2
          exact get_rel k t e.2 r2
theorem get_isSome {K : PySem.W.Frag} (k : NestedKey) {ks vs : List D} {xs : List (NestedKey × Addr × V)} {ys : List (NestedKey × Addr × Value)} (t : Trip xs ys) (e : xs.map (·.1) = keysD ks) (r : RpL K W Hk vs (xs.map fun x => x.2.2)) : (atKey ys k).isSome = (getK k ks vs).isSome := by
  rcases get_rel k t e r with ⟨d, v, u, a, h1, h2, _, _⟩ | ⟨h1, h2⟩ <;> rw [h1, h2] <;> rfl
/-- what is stored -/
def putX (k : NestedKey) (v : V) (x : NestedKey × Addr × V) : NestedKey × Addr × V := if x.1 = k then (x.1, x.2.1, v) else x
theorem putX_rel {k : NestedKey} {v : V} {u : Value} (ru : RelV v u) : ∀ {xs : List (NestedKey × Addr × V)} {ys : List (NestedKey × Addr × Value)}, Trip xs ys → Trip (xs.map (putX k v)) (ys.map (putAt k u))
  | _, _, .nil => .nil
  | _, _, @Paired.cons _ _ _ x y xs ys q t => by
    refine .cons ?_ (putX_rel ru t)
    unfold putX putAt
    by_cases h : x.1 = k
    · rw [if_pos h, if_pos (by rw [← q.1]; exact h)]
      exact ⟨q.1, q.2.1, ru⟩
    · rw [if_neg h, if_neg (by rw [← q.1]; exact h)]
      exact q
theorem putX_keys (k : NestedKey) (v : V) (xs : List (NestedKey × Addr × V)) : (xs.map (putX k v)).map (·.1) = xs.map (·.1) := by
  rw [List.map_map]
  refine List.map_congr_left fun x _ => ?_
  simp only [Function.comp_def, putX]
  split <;> rfl
theorem putX_refs (k : NestedKey) (v : V) (xs : List (NestedKey × Addr × V)) : ((xs.map (putX k v)).map fun x => V.ref x.2.1) = xs.map fun x => V.ref x.2.1 := by
  rw [List.map_map]
  refine List.map_congr_left fun x _ => ?_
  simp only [Function.comp_def, putX]
  split <;> rfl
theorem putX_none {k : NestedKey} {v : V} : ∀ {xs : List (NestedKey × Addr × V)}, k ∉ xs.map (·.1) → xs.map (putX k v) = xs
  | [], _ => rfl
  | x :: xs, h => by
    simp only [List.map_cons, List.mem_cons, not_or] at h
    rw [List.map_cons, putX_none h.2, putX, if_neg (fun e => h.1 e.symm)]
theorem setK_rel {K : PySem.W.Frag} {k : NestedKey} {y : D} {v : V} (ry : Rp K W Hk y v) : ∀ {ks vs : List D} {xs : List (NestedKey × Addr × V)}, xs.map (·.1) = keysD ks → (xs.map (·.1)).Nodup → RpL K W Hk vs (xs.map fun x => x.2.2) →
    RpL K W Hk (setK k y ks vs) ((xs.map (putX k v)).map fun x => x.2.2)
  | [], vs, [], _, _, r => by
    cases vs with
    | nil => exact rfl
    | cons w vs => exact absurd r (by rintro ⟨_, _, e, _⟩; simp at e)
  | [], _, x :: xs, e, _, _ => by simp [keysD] at e
  | a :: ks, _, [], e, _, _ => by simp [keysD] at e
  | a :: ks, vs, x :: xs, e, nd, r => by
    simp only [List.map_cons, keysD, List.cons.injEq] at e
    cases vs with
    | nil => exact absurd (show (_ :: _ : List V) = [] from r) (by simp)
    | cons w vs =>
      obtain ⟨v0, vs0, e0, r1, r2⟩ := r
      simp only [List.map_cons, List.cons.injEq] at e0
      obtain ⟨e1, e2⟩ := e0
      simp only [List.map_cons, List.nodup_cons] at nd
      simp only [setK]
      by_cases hk : keyD a = k
      · have hx : x.1 = k := by rw [e.1]; exact hk
        rw [if_pos hk, List.map_cons, List.map_cons, putX_none (by rw [← hx]; exact nd.1)]
        refine ⟨v, _, ?_, ry, by rw [← e2] at r2; exact r2⟩
        rw [putX, if_pos hx]
      · have hx : ¬ x.1 = k := by rw [e.1]; exact hk
        rw [if_neg hk, List.map_cons, List.map_cons]
        refine ⟨x.2.2, _, ?_, by rw [e1]; exact r1, setK_rel ry e.2 nd.2 (by rw [e2]; exact r2)⟩
        rw [putX, if_neg hx]
theorem keysD_append : ∀ (as bs : List D), keysD (as ++ bs) = keysD as ++ keysD bs
  | [], _ => rfl
  | a :: as, bs => by simp only [List.cons_append, keysD, keysD_append as bs]
theorem trip_len {xs : List (NestedKey × Addr × V)} {ys : List (NestedKey × Addr × Value)} (t : Trip xs ys) : xs.length = ys.length := Paired.length t
theorem trip_keys : ∀ {xs : List (NestedKey × Addr × V)} {ys : List (NestedKey × Addr × Value)}, Trip xs ys → ys.map (·.1) = xs.map (·.1)
  | _, _, .nil => rfl
  | _, _, .cons q t => by rw [List.map_cons, List.map_cons, trip_keys t, q.1]
theorem trip_snoc {x : NestedKey × Addr × V} {y : NestedKey × Addr × Value} (q : x.1 = y.1 ∧ x.2.1 = y.2.1 ∧ RelV x.2.2 y.2.2) : ∀ {xs : List (NestedKey × Addr × V)} {ys : List (NestedKey × Addr × Value)}, Trip xs ys → Trip (xs ++ [x]) (ys ++ [y])
  | _, _, .nil => .cons q .nil
  | _, _, .cons q' t => .cons q' (trip_snoc q t)
theorem keysD_len : ∀ (ks : List D), (keysD ks).length = ks.length
  | [] => rfl
  | k :: ks => by simp only [keysD, List.length_cons, keysD_len ks]
/-- d[k] = y: what stands there behind it -/
theorem put_ob (hw : W.w = X.w) {p a : Addr} {xs : List (NestedKey × Addr × V)} {ys : List (NestedKey × Addr × Value)} {ks vs : List D} {k y : D} {v : V} {u : Value} {h' : Heap} (hp : (p == sysModules) = false) (t : Trip xs ys) (e : xs.map (·.1) = keysD ks) (ok : ks.all okK = true)
    (r1 : RpL X.K W Hk ks (xs.map fun x => V.ref x.2.1)) (r2 : RpL X.K W Hk vs (xs.map fun x => x.2.2)) (okk : okK k = true) (rk : Rp X.K W Hk k (.ref a)) (ry : Rp X.K W Hk y v) (ru : RelV v u) (nd : (ys.map (·.1)).Nodup)
    (hd : h'.DictOfH (nestedKind X.prog X.w) p (storedH ys (keyD k) a u)) : ∃ o, h'.get? p = some o ∧ Ob X.K W Hk (putD ks vs k y) p (ObX p o) := by
  obtain ⟨o, es, ep, q1, q2, q3, q4, _, q5⟩ := hd
  have nd' : (xs.map (·.1)).Nodup := by rw [← trip_keys t]; exact nd
  refine ⟨o, q1, ?_⟩
  unfold putD
  rcases get_rel (keyD k) t e r2 with ⟨d, v', u', a', g1, g2, _, _⟩ | ⟨g1, g2⟩
  · rw [g1]
    rw [storedH_old g2] at q4 q5
    refine ⟨o, xs.map (putX (keyD k) v), rfl, hp, ⟨_, putX_rel ru t, q2, q5, es, ep, q3, ?_⟩, by rw [putX_keys]; exact e, ok, by rw [putX_refs]; exact r1, setK_rel ry e nd' r2⟩
    rw [q4, hw]
    rfl
  · rw [g1]
    rw [storedH_new g2] at q4 q5
    refine ⟨o, xs ++ [(keyD k, a, v)], rfl, hp, ⟨_, trip_snoc ⟨rfl, rfl, ru⟩ t, q2, q5, es, ep, q3, ?_⟩, ?_, ?_, ?_, ?_⟩
    · rw [q4, hw]
      rfl
    · rw [List.map_append, keysD_append, e]; rfl
    · rw [List.all_append, ok]; simp [okk]
    · rw [List.map_append]; exact r1.append (.cons rk .nil)
    · rw [List.map_append]; exact r2.append (.cons ry .nil)
/-! ### the operations -/
/-- d stands at p, read -/
def DAt (K : PySem.W.Frag) (W : Wd) (Hk H : Hp) (p : Addr) (ks vs : List D) : Prop := ∃ (o : Obj) (xs : List (NestedKey × Addr × V)), H p = some (ObX p o) ∧ (p == sysModules) = false ∧ DcIs W.w o xs ∧ xs.map (·.1) = keysD ks ∧ ks.all okK = true ∧
  RpL K W Hk ks (xs.map fun x => V.ref x.2.1) ∧ RpL K W Hk vs (xs.map fun x => x.2.2)
variable {E : Value → Shared → Prop} {A : Around}
theorem DAt.typ {p : Addr} {ks vs : List D} (h : DAt X.K W Hk H p ks vs) (I : L2.Inv X pins σ H s) : s.TypeIs (.ref p) "dict" := by
  obtain ⟨o, xs, h1, h2, ⟨ys, t, q1, _⟩, _⟩ := h
  exact ⟨o, obX_at I.hok h1, q1.1⟩
theorem n_in {p : Addr} {ks vs : List D} {k : D} {v : V} {u : Value} {Q : Value → Shared → Prop} (hu : A.units + 64 < cLine) (I : L2.Inv X pins σ H s) (ex : Ex Hk H) (hw : W.w = X.w) (h : DAt X.K W Hk H p ks vs) (rk : Rp X.K W Hk k v) (ok : okK k = true) (ru : RelV v u)
    (q : ∀ s', L2.Inv X pins σ H s' → Q (.bool (getK (keyD k) ks vs).isSome) s') : wpAny (model X.prog X.w) A (compareOp .In u (.ref p)) Q E s := by
  obtain ⟨o, xs, h1, h2, h3, h4, h5, h6, h7⟩ := h
  obtain ⟨ys, t, dd⟩ := dict_of I ex hw h1 h3 h4 h5 h6
  obtain ⟨a, e1, e2, hk⟩ := rp_is I ex rk ok ru
  subst e2
  refine wpAny_in_heap (knd := nestedKind X.prog X.w) (show A.in1.units + 8 < cLine by rw [Around.in1_units]; omega) hk h2 dd ?_
  rw [get_isSome (keyD k) t h4 h7]
  exact q _ (I.tok _)
theorem n_notIn {p : Addr} {ks vs : List D} {k : D} {v : V} {u : Value} {Q : Value → Shared → Prop} (hu : A.units + 64 < cLine) (I : L2.Inv X pins σ H s) (ex : Ex Hk H) (hw : W.w = X.w) (h : DAt X.K W Hk H p ks vs) (rk : Rp X.K W Hk k v) (ok : okK k = true) (ru : RelV v u)
    (q : ∀ s', L2.Inv X pins σ H s' → Q (.bool (!(getK (keyD k) ks vs).isSome)) s') : wpAny (model X.prog X.w) A (compareOp .NotIn u (.ref p)) Q E s := by
  obtain ⟨o, xs, h1, h2, h3, h4, h5, h6, h7⟩ := h
  obtain ⟨ys, t, dd⟩ := dict_of I ex hw h1 h3 h4 h5 h6
  obtain ⟨a, e1, e2, hk⟩ := rp_is I ex rk ok ru
  subst e2
  refine notIn_keyed (knd := nestedKind X.prog X.w) (show A.in1.units + 8 < cLine by rw [Around.in1_units]; omega) hk h2 ⟨ys, dd, rfl⟩ ?_
  rw [valueAt_pairsH, Option.isSome_map, get_isSome (keyD k) t h4 h7]
  exact q _ (I.tok _)
theorem n_get {p : Addr} {ks vs : List D} {k d : D} {v : V} {u : Value} {Q : Value → Shared → Prop} (hu : A.units + 64 < cLine) (I : L2.Inv X pins σ H s) (ex : Ex Hk H) (hw : W.w = X.w) (h : DAt X.K W Hk H p ks vs) (rk : Rp X.K W Hk k v) (ok : okK k = true) (ru : RelV v u) (hg : getK (keyD k) ks vs = some d)
    (q : ∀ v' w' s', L2.Inv X pins σ H s' → Rp X.K W Hk d v' → RelV v' w' → Q w' s') : wpAny (model X.prog X.w) A (getItem (.ref p) u) Q E s := by
  obtain ⟨o, xs, h1, h2, h3, h4, h5, h6, h7⟩ := h
  obtain ⟨ys, t, dd⟩ := dict_of I ex hw h1 h3 h4 h5 h6
  obtain ⟨a, e1, e2, hk⟩ := rp_is I ex rk ok ru
  subst e2
  rcases get_rel (keyD k) t h4 h7 with ⟨d', v', u', a', g1, g2, g3, g4⟩ | ⟨g1, g2⟩
  · rw [hg] at g1
    cases g1
    exact wpAny_getItem_heap (knd := nestedKind X.prog X.w) (show A.in1.units + 8 < cLine by rw [Around.in1_units]; omega) hk dd g2 (q v' u' _ (I.tok _) g4 g3)
  · rw [hg] at g1; cases g1
theorem n_set {p : Addr} {ks vs : List D} {k y : D} {v z : V} {u r : Value} {Q : Unit → Shared → Prop} (hu : A.units + 64 < cLine) (I : L2.Inv X pins σ H s) (ex : Ex Hk H) (hw : W.w = X.w) (h : DAt X.K W Hk H p ks vs) (rk : Rp X.K W Hk k v) (ok : okK k = true) (ru : RelV v u) (ry : Rp X.K W Hk y z) (rz : RelV z r) (hl : ks.length < 1000000)
    (q : ∀ ob s', Ob X.K W Hk (putD ks vs k y) p ob → L2.Inv X pins σ (upd H p ob) s' → Q () s') : wpAny (model X.prog X.w) A (setItem (.ref p) u r) Q E s := by
  obtain ⟨o, xs, h1, h2, h3, h4, h5, h6, h7⟩ := h
  obtain ⟨ys, t, dd⟩ := dict_of I ex hw h1 h3 h4 h5 h6
  obtain ⟨a, e1, e2, hk⟩ := rp_is I ex rk ok ru
  subst e2 e1
  obtain ⟨_, _, _, _, _, _, _, _, nd⟩ := id dd
  have hl' : ys.length ≤ sizeLine := by
    rw [← trip_len t, ← List.length_map (f := fun x : NestedKey × Addr × V => x.1), h4, keysD_len, sizeLine_eq]; omega
  refine wpAny_setItem_heap (knd := nestedKind X.prog X.w) (hsz := hl') (show A.in1.units + 8 < cLine by rw [Around.in1_units]; omega) hk dd fun h' dd' hs => ?_
  obtain ⟨o', g1, g2⟩ := put_ob hw h2 t h4 h5 h6 h7 ok rk ry rz nd dd'
  exact q _ _ g2 (d_write I (by rw [h1]; exact True.intro) hs ⟨o', g1⟩ (obX_ok g1))
end
end Bk

set_option Elab.async false
set_option linter.all false
set_option maxRecDepth 100000
set_option maxHeartbeats 4000000
/-! Rules that HandS lacks: t * 1, sum of a tuple, the greatest and the least of alike data. -/
namespace L2
open PySem PySem.Spec PyProof.Rows
theorem tuple_mul1 (l : Addr) (items : Array Value) (n : Nat) (dd : Option Addr) (sl : Array (Option Value)) (u : Tok) (hne : (items.isEmpty || (1 : Int) == 1) = true) :
    Meets (Builtin.«tuple.__mul__» ⟨[.ref l, .int 1 u], []⟩) (fun _ R s => s.heap.get? l = some { cls := .type "tuple", dict := dd, data := .seq items n, slots := sl } ∧
      R (.ok (.ret (Value.ref l))) s) :=
  .of_wp fun prog w A R s h => by
    obtain ⟨hp, g, d, tk, os⟩ := s
    obtain ⟨hl, h⟩ := h
    have f1 := AutoSeq1.idx_int
    wp_walk using wpAny_loadPart' hl
    repeat (first
      | (refine wpAny_ite_false (decide_eq_false (by decide)) ?_; wp_walk using wpAny_loadPart' hl)
      | (refine wpAny_ite_true (decide_eq_true (by rw [hne])) ?_; wp_walk using wpAny_loadPart' hl))
    exact ⟨_, rfl, h⟩
def rRepT1 (K : PySem.W.Frag) : R2 := fun x y H Q => ∃ l xs, x = .ref l ∧ y = .int 1 ∧ SqT K H l xs ∧ Q (.ref l) H
section
variable {X : Cx}
theorem op_repT1 : OpR X (binaryOp .Mult) (rRepT1 X.K) := by
  intro pins s σ H x y v u Q I rx ry h
  obtain ⟨l, xs, rfl, rfl, hT, q⟩ := h
  cases rx
  obtain ⟨t, rfl⟩ := ry
  obtain ⟨its, r, ⟨⟨cls, dd, data, sl⟩, ho, hc, n, hd⟩, hs⟩ := I.tuple hT
  simp only at hc hd
  subst hc hd
  have c1 : (its.toArray.isEmpty || (1 : Int) == 1) = true := by simp
  refine wpAny_binaryOp_repeat_ref (T := "tuple") (U := "int") (by decide) ⟨_, ho, rfl⟩ (fun s' => typeIs_int s' 1 t) noFill_tuple_mul F.fills_int_mul F.slot_int_rmul repeat_tuple F.slot_int_index.lookup
    (call_meets F.slot_int_rmul (typeIs_int s 1 t) F.entry_int_rmul (F.args_int_rmul_2 _ _) (int_rmul_tuple 1 t l its.toArray n dd sl)
      ⟨ho, rfl, ⟨_, ho, rfl⟩, call_meets F.slot_tuple_mul ⟨_, ho, rfl⟩ F.entry_tuple_mul (F.args_tuple_mul_2 _ _) (tuple_mul1 l its.toArray n dd sl t c1) ⟨ho, ?_⟩⟩)
  exact ⟨.ref l, H, I, rfl, q⟩
theorem sumt_raw {prog : Program} {w : World} {A : Around} {E : Value → Shared → Prop} {s : Shared} {l : Addr} {its : List Value} {ns : List Int} {Q : Value → Shared → Prop} (hh : A.handled = none) (hl : s.heap.IsTuple l its.toArray) (hi : IntsAre its ns)
    (h : ∀ h' tk t', (∀ b o, s.heap.get? b = some o → h'.get? b = some o) → Q (.int ns.sum t') { s with heap := h', toks := tk }) : wpAny (model prog w) A (call (.builtin "sum") [.ref l]) Q E s := by
  obtain ⟨xs, e⟩ := hi.allInts.items
  have hn : numsOf (intItems xs).toList = ns := by rw [← e]; exact hi.numsOf
  rw [nums_intItems] at hn
  rw [e] at hl
  refine PySem.W.ktm_sumG hh hl fun h' tk t' hk => ?_
  have := h h' tk t' hk
  rw [preSum_eq, List.take_of_length_le (by simp), hn]; exact this
def rSumT (K : PySem.W.Frag) : List V → Hp → VK → Prop := fun vs H Q => ∃ (a : Addr) (ns : List Int), vs = [V.ref a] ∧ SqT K H a (ns.map V.int) ∧ Q (.int ns.sum) H
theorem cr_sumT (hc : X.calm = true) : CallR X (.builtin "sum") (rSumT X.K) := by
  intro pins s σ H vs us Q I r h
  obtain ⟨a, ns, rfl, hs, q⟩ := h
  obtain ⟨its, rv, hl, _⟩ := I.tuple hs
  rw [Vals.ref1 r]
  exact sumt_raw (I.ok.hd hc) hl rv.ints fun h' tk t' hk => ⟨.int _, H, I.kept hk, ⟨_, rfl⟩, q⟩
end
end L2
namespace Bk
open PySem L2
open Evl (Ex ex_l ex_t)
mutual
theorem py_inj : ∀ (a b : D), a.pl = true → b.pl = true → a.py = b.py → a = b
  | .non, b, _, q, e => by cases b <;> simp_all [D.py, D.pl]
  | .bl x, b, _, q, e => by cases b <;> simp_all [D.py, D.pl]
  | .int x, b, _, q, e => by cases b <;> simp_all [D.py, D.pl]
  | .str x, b, _, q, e => by cases b <;> simp_all [D.py, D.pl]
  | .tup xs, b, p, q, e => by
    cases b with
    | tup ys =>
      simp only [D.py, PyData.tuple.injEq] at e
      rw [pys_inj xs ys p q e]
    | _ => simp [D.py] at e
  | .lst xs, b, p, q, e => by
    cases b with
    | lst ys =>
      simp only [D.py, PyData.list.injEq] at e
      rw [pys_inj xs ys p q e]
    | _ => simp [D.py] at e
  | .m, _, p, _, _ => by simp [D.pl] at p
  | .scr _, _, p, _, _ => by simp [D.pl] at p
theorem pys_inj : ∀ (a b : List D), pls a = true → pls b = true → pys a = pys b → a = b
  | [], [], _, _, _ => rfl
  | [], _ :: _, _, _, e => by simp [pys] at e
  | _ :: _, [], _, _, e => by simp [pys] at e
  | x :: xs, y :: ys, p, q, e => by
    simp only [pls, Bool.and_eq_true] at p q
    simp only [pys, List.cons.injEq] at e
    rw [py_inj x y p.1 q.1 e.1, pys_inj xs ys p.2 q.2 e.2]
end
theorem pys_map : ∀ (l : List D), pys l = l.map D.py
  | [] => rfl
  | x :: xs => by rw [pys, pys_map xs]; rfl
theorem pls_mem : ∀ {l : List D}, pls l = true → ∀ x ∈ l, x.pl = true
  | [], _, x, h => by cases h
  | y :: ys, p, x, h => by
    simp only [pls, Bool.and_eq_true] at p
    rcases List.mem_cons.mp h with rfl | h
    · exact p.1
    · exact pls_mem p.2 x h
theorem maxDD_py : ∀ (l : List D) (a : D), (maxDD a l).py = W.maxD a.py (pys l)
  | [], a => rfl
  | b :: l, a => by
    show (maxDD (if W.dataLt a.py b.py then b else a) l).py = W.maxD (if W.dataLt a.py b.py then b.py else a.py) (pys l)
    rw [maxDD_py l]
    split <;> rfl
theorem minDD_py : ∀ (l : List D) (a : D), (minDD a l).py = W.minD a.py (pys l)
  | [], a => rfl
  | b :: l, a => by
    show (minDD (if W.dataLt b.py a.py then b else a) l).py = W.minD (if W.dataLt b.py a.py then b.py else a.py) (pys l)
    rw [minDD_py l]
    split <;> rfl
theorem maxDD_mem : ∀ (l : List D) (a : D), maxDD a l ∈ a :: l
  | [], a => List.mem_cons_self
  | b :: l, a => by
    have ih := maxDD_mem l (if W.dataLt a.py b.py then b else a)
    rw [show maxDD a (b :: l) = maxDD (if W.dataLt a.py b.py then b else a) l from rfl]
    rcases List.mem_cons.mp ih with h | h
    · rw [h]; split <;> simp
    · exact List.mem_cons_of_mem _ (List.mem_cons_of_mem _ h)
theorem minDD_mem : ∀ (l : List D) (a : D), minDD a l ∈ a :: l
  | [], a => List.mem_cons_self
  | b :: l, a => by
    have ih := minDD_mem l (if W.dataLt b.py a.py then b else a)
    rw [show minDD a (b :: l) = minDD (if W.dataLt b.py a.py then b else a) l from rfl]
    rcases List.mem_cons.mp ih with h | h
    · rw [h]; split <;> simp
    · exact List.mem_cons_of_mem _ (List.mem_cons_of_mem _ h)
mutual
theorem plain_py : ∀ (d : D), d.pl = true → d.py.plain = true
  | .non, _ => rfl
  | .bl _, _ => rfl
  | .int _, _ => rfl
  | .str _, _ => rfl
  | .tup xs, p => by simp only [D.py, PyData.plain]; exact plains_py xs p
  | .lst xs, p => by simp only [D.py, PyData.plain]; exact plains_py xs p
  | .m, p => by simp [D.pl] at p
  | .scr _, p => by simp [D.pl] at p
theorem plains_py : ∀ (d : List D), pls d = true → PyData.plainAll (pys d) = true
  | [], _ => rfl
  | x :: xs, p => by
    simp only [pls, Bool.and_eq_true] at p
    simp only [pys, PyData.plainAll, Bool.and_eq_true]
    exact ⟨plain_py x p.1, plains_py xs p.2⟩
end
theorem alkD_ok {xs : List D} (h : alkD xs = true) : pls xs = true ∧ W.AlikeAll (pys xs) ∧ PyData.depthAll (pys xs) ≤ 60 := by
  simp only [alkD, Bool.and_eq_true, decide_eq_true_eq, List.all_eq_true] at h
  obtain ⟨⟨⟨h1, h2⟩, h3⟩, h4⟩ := h
  refine ⟨h1, ⟨fun x hx y hy => ?_, fun x hx => ?_⟩, h4⟩
  · rw [pys_map] at hx hy
    obtain ⟨a, ha, rfl⟩ := List.mem_map.mp hx
    obtain ⟨b, hb, rfl⟩ := List.mem_map.mp hy
    exact h2 a ha b hb
  · rw [pys_map] at hx
    obtain ⟨a, ha, rfl⟩ := List.mem_map.mp hx
    have h5 := h3 a ha
    have h6 := pls_mem h1 a ha
    cases a <;> simp_all [D.py, D.pl]
section
variable {X : Cx} {W : Wd}
/-- an item of a list that reads as the one that is due, is it -/
theorem item_is {pins : List (Addr × Obj)} {s' : Shared} {σ : St} {Hk H : Hp} {xs : List D} {ys : List V} {its : List Value} {i : Nat} {v : Value} {m : D} {bs : List Addr} (I : L2.Inv X pins σ H s') (ex : Ex Hk H) (h : RpL X.K W Hk xs ys) (hp : pls xs = true) (rv : Vals ys its)
    (hi : its.toArray[i]? = some v) (hm : m ∈ xs) (r : Reads s'.heap v m.py bs) : ∃ y, Rp X.K W Hk m y ∧ RelV y v := by
  have hv : its[i]? = some v := by simpa using hi
  have hlt : i < ys.length := by
    rw [rv.length]
    exact (List.getElem?_eq_some_iff.mp hv).1
  obtain ⟨y, hy⟩ : ∃ y, ys[i]? = some y := ⟨ys[i], List.getElem?_eq_getElem hlt⟩
  obtain ⟨v', hv', ry⟩ := rv.get hy
  rw [hv] at hv'
  cases hv'
  obtain ⟨d, hd, rd⟩ := h.at hy
  have hd' : d ∈ xs := List.mem_of_getElem? hd
  obtain ⟨as, r'⟩ := Dp.reads I d.py y v ((rd.mono ex).dp (pls_mem hp d hd')) ry
  have e : d.py = m.py := by
    exact PySem.SeqAt.plain_unique d.py m.py v as bs (plain_py d (pls_mem hp d hd')) r' r
  rw [py_inj d m (pls_mem hp d hd') (pls_mem hp m hm) e] at rd
  exact ⟨y, rd, ry⟩
theorem call_maxd (hc : X.calm = true) (hu : X.A.units + 66 < cLine) {pins : List (Addr × Obj)} {s : Shared} {σ : St} {Hk H : Hp} {x : D} {xs : List D} {ys : List V} {a : Addr} {Q : VK} (I : L2.Inv X pins σ H s) (ex : Ex Hk H) (hs : SqL X.K H a ys) (h : RpL X.K W Hk (x :: xs) ys)
    (hk : alkD (x :: xs) = true) (q : ∀ v, Rp X.K W Hk (maxDD x xs) v → Q v H) : wpAny (model X.prog X.w) X.A (call (.builtin "max") [.ref a]) (EP X pins σ Q) X.xe s := by
  obtain ⟨hp, ha, hd⟩ := alkD_ok hk
  obtain ⟨its, rv, hl, _⟩ := I.list hs
  obtain ⟨as, ra⟩ := Dp.readsAll I _ _ _ ((h.mono ex).dps hp) rv
  refine PySem.W.max_list_data (I.ok.hd hc) hl.isList (show ReadsAll s.heap its (pys (x :: xs)) as from ra) ha (show X.A.units + 1 + PyData.depthAll (pys (x :: xs)) < cLine by omega) fun i v h' tk bs hi r hk' => ?_
  have I' := I.kept (t' := tk) hk'
  obtain ⟨y, r1, r2⟩ := item_is (s' := { s with heap := h', toks := tk }) I' ex h hp rv hi (maxDD_mem xs x) (by rw [maxDD_py]; exact r)
  exact ⟨y, H, I', r2, q y r1⟩
theorem call_mind (hc : X.calm = true) (hu : X.A.units + 66 < cLine) {pins : List (Addr × Obj)} {s : Shared} {σ : St} {Hk H : Hp} {x : D} {xs : List D} {ys : List V} {a : Addr} {Q : VK} (I : L2.Inv X pins σ H s) (ex : Ex Hk H) (hs : SqL X.K H a ys) (h : RpL X.K W Hk (x :: xs) ys)
    (hk : alkD (x :: xs) = true) (q : ∀ v, Rp X.K W Hk (minDD x xs) v → Q v H) : wpAny (model X.prog X.w) X.A (call (.builtin "min") [.ref a]) (EP X pins σ Q) X.xe s := by
  obtain ⟨hp, ha, hd⟩ := alkD_ok hk
  obtain ⟨its, rv, hl, _⟩ := I.list hs
  obtain ⟨as, ra⟩ := Dp.readsAll I _ _ _ ((h.mono ex).dps hp) rv
  refine PySem.W.min_list_data (I.ok.hd hc) hl.isList (show ReadsAll s.heap its (pys (x :: xs)) as from ra) ha (show X.A.units + 1 + PyData.depthAll (pys (x :: xs)) < cLine by omega) fun i v h' tk bs hi r hk' => ?_
  have I' := I.kept (t' := tk) hk'
  obtain ⟨y, r1, r2⟩ := item_is (s' := { s with heap := h', toks := tk }) I' ex h hp rv hi (minDD_mem xs x) (by rw [minDD_py]; exact r)
  exact ⟨y, H, I', r2, q y r1⟩
end
end Bk

set_option Elab.async false
set_option linter.all false
set_option maxRecDepth 100000
set_option maxHeartbeats 2000000
/-! Dicts walked, list(d), sorted(list of data), list(range). -/
namespace Bk
open PySem L2
open Evl (Ex ex_l ex_t)
theorem trip_get : ∀ {xs : List (NestedKey × Addr × V)} {ys : List (NestedKey × Addr × Value)} {i : Nat} {x : NestedKey × Addr × V}, Trip xs ys → xs[i]? = some x → ∃ y, ys[i]? = some y ∧ x.1 = y.1 ∧ x.2.1 = y.2.1 ∧ RelV x.2.2 y.2.2
  | _, _, _, _, .nil, e => by simp at e
  | _, _, 0, _, .cons q _, e => by
    simp at e
    subst e
    exact ⟨_, rfl, q⟩
  | _, _, i + 1, x, .cons _ t, e => by
    obtain ⟨y, h1, h2⟩ := trip_get (i := i) t (by simpa using e)
    exact ⟨y, by simpa using h1, h2⟩
/-- the entries -/
theorem dc_entries {w : World} {o : Obj} {xs : List (NestedKey × Addr × V)} (h : DcIs w o xs) : o.ExactDict ∧ ∃ es ep, o.data = .dict es ep ∧ es.size = xs.length ∧ ∀ (i : Nat) (x : NestedKey × Addr × V), xs[i]? = some x → ∃ en : DictEntry, es[i]? = some en ∧ en.key = .ref x.2.1 ∧ RelV x.2.2 en.val := by
  obtain ⟨ys, t, h1, _, es, ep, h2, h3⟩ := h
  refine ⟨h1, es, ep, h2, ?_, fun i x hx => ?_⟩
  · rw [← Array.length_toList, h3, List.length_map]
    exact (trip_len t).symm
  · obtain ⟨y, q1, q2, q3, q4⟩ := trip_get t hx
    refine ⟨⟨y.1.hash w, .ref y.2.1, y.2.2⟩, ?_, by rw [q3], q4⟩
    rw [← Array.getElem?_toList, h3, List.getElem?_map, q1]
    rfl
/-- list(d) -/
theorem call_listX {X : Cx} (hc : X.calm = true) {pins : List (Addr × Obj)} {s : Shared} {σ : L2.St} {H : Hp} {d : Addr} {o : Obj} {xs : List (NestedKey × Addr × V)} {w : World} {Q : VK} (I : L2.Inv X pins σ H s) (hs : (d == sysModules) = false) (hd : H d = some (ObX d o)) (dc : DcIs w o xs) (hz : xs.length ≤ sizeLine)
    (q : ∀ p, H p = none → Q (.ref p) (upd H p (.lst (xs.map fun x => V.ref x.2.1)))) : wpAny (model X.prog X.w) X.A (call (.type "list") [.ref d]) (EP X pins σ Q) X.xe s := by
  obtain ⟨h1, es, ep, h2, h3, h4⟩ := dc_entries dc
  refine PySem.W.kdl_call (KdlSrc.rawDict (es := es) (ep := ep) hs) (I.ok.hd hc) ⟨o, obX_at I.hok hd, h1, h2⟩ (by rw [h3]; exact hz) fun h' tk acc c hk hn hi => ?_
  refine ⟨.ref s.heap.objs.size, upd H s.heap.objs.size (.lst (xs.map fun x => V.ref x.2.1)), I.laid hk (Nat.le_refl _) (show ObjOk X.prog X.w _ _ _ (.lst (xs.map fun x => V.ref x.2.1)) from ⟨by rw [List.length_map]; exact hz, acc.toList, c, ?_, by rw [Array.toArray_toList]; exact hn⟩), rfl, q _ (I.hok.fresh (Nat.le_refl _))⟩
  refine vals_of_at (by rw [List.length_map, ← h3, ← hi.1]; exact (Array.length_toList (xs := acc)).symm) fun j x u hx hu => ?_
  rw [List.getElem?_map, Option.map_eq_some_iff] at hx
  obtain ⟨z, hz1, hz2⟩ := hx
  obtain ⟨hj, e⟩ := hi.2 j u (by rw [← hu, Array.getElem?_toList])
  obtain ⟨en, he, hk1, _⟩ := h4 j z hz1
  have : es[j]? = some es[j] := Array.getElem?_eq_getElem hj
  rw [this] at he
  cases he
  rw [e, hk1, ← hz2]
  rfl
/-! ### sorted data -/
theorem each_of {X : Cx} {W : Wd} {Hk : Hp} : ∀ {ds : List D} {vs : List V} {us : List Value}, RpL X.K W Hk ds vs → Vals vs us → PySem.W.EachIs (fun (u : Value) (d : D) => ∃ y, Rp X.K W Hk d y ∧ RelV y u) us ds
  | [], vs, us, r, ru => by
    rw [show vs = [] from r] at ru
    cases ru
    exact .nil
  | d :: ds, vs, us, r, ru => by
    obtain ⟨y, ys, e, r1, r2⟩ := r
    subst e
    cases ru with
    | cons q1 q2 => exact .cons ⟨y, r1, q1⟩ (each_of r2 q2)
theorem of_each {X : Cx} {W : Wd} {Hk : Hp} : ∀ {ds : List D} {us : List Value}, PySem.W.EachIs (fun (u : Value) (d : D) => ∃ y, Rp X.K W Hk d y ∧ RelV y u) us ds → ∃ vs, RpL X.K W Hk ds vs ∧ Vals vs us
  | [], us, h => by
    cases h
    exact ⟨[], rfl, .nil⟩
  | d :: ds, us, h => by
    cases h with
    | cons q1 q2 =>
      obtain ⟨y, r1, r2⟩ := q1
      obtain ⟨vs, r3, r4⟩ := of_each q2
      exact ⟨y :: vs, .cons r1 r3, .cons r2 r4⟩
theorem depth_le : ∀ (ds : List D) (d : D), d ∈ ds → d.py.depth ≤ PyData.depthAll (pys ds)
  | [], d, h => by cases h
  | e :: ds, d, h => by
    simp only [pys, PyData.depthAll]
    rcases List.mem_cons.mp h with z | z
    · subst z; exact Nat.le_max_left _ _
    · exact Nat.le_trans (depth_le ds d z) (Nat.le_max_right _ _)
theorem call_sortd {X : Cx} {W : Wd} (hu : X.A.units + 66 < cLine) {pins : List (Addr × Obj)} {s : Shared} {σ : L2.St} {Hk H : Hp} {xs : List D} {ys : List V} {a : Addr} {Q : VK} (I : L2.Inv X pins σ H s) (ex : Ex Hk H) (hs : SqL X.K H a ys) (h : RpL X.K W Hk xs ys)
    (hk : alkD xs = true) (ht : xs.all (fun x => match x with | .tup (_ :: _) => true | _ => false) = true) (q : ∀ p acc, H p = none → RpL X.K W Hk (sortDD xs) acc → Q (.ref p) (upd H p (.lst acc))) : wpAny (model X.prog X.w) X.A (call (.builtin "sorted") [.ref a]) (EP X pins σ Q) X.xe s := by
  obtain ⟨hp, ha, hd⟩ := alkD_ok hk
  obtain ⟨its, rv, hl, hz⟩ := I.list hs
  have el : its.length = xs.length := by rw [← rv.length, h.len]
  have hpl : ∀ d ∈ xs, d.pl = true := fun d hd => pls_mem hp d hd
  have er : PySem.W.EachIs (fun v (b : D) => ∃ as, Reads s.heap v b.py as) its xs := by
    have key : ∀ {ds : List D} {us : List Value}, (∀ d ∈ ds, d.pl = true) → PySem.W.EachIs (fun (u : Value) (d : D) => ∃ y, Rp X.K W Hk d y ∧ RelV y u) us ds → PySem.W.EachIs (fun v (b : D) => ∃ as, Reads s.heap v b.py as) us ds := by
      intro ds
      induction ds with
      | nil => intro us _ z; cases z; exact .nil
      | cons d ds ih =>
        intro us hh z
        cases z with
        | cons q1 q2 =>
          obtain ⟨y, r1, r2⟩ := q1
          exact .cons (Dp.reads I d.py y _ ((r1.mono ex).dp (hh d List.mem_cons_self)) r2) (ih (fun e he => hh e (List.mem_cons_of_mem _ he)) q2)
    exact key hpl (each_of h rv)
  have hal : PySem.W.AllAlike (xs.map D.py) := fun d hd d' hd' => by
    obtain ⟨b, hb, rfl⟩ := List.mem_map.mp hd
    obtain ⟨b', hb', rfl⟩ := List.mem_map.mp hd'
    simp only [alkD, Bool.and_eq_true, List.all_eq_true] at hk
    exact hk.1.1.2 b hb b' hb'
  have hso : PySem.W.Sortable (xs.map D.py) := .inl fun d hd => by
    obtain ⟨b, hb, rfl⟩ := List.mem_map.mp hd
    have := List.all_eq_true.mp ht b hb
    cases b <;> (try (cases this; done))
    rename_i zs
    cases zs with
    | nil => cases this
    | cons z zs => exact ⟨z.py, pys zs, rfl⟩
  rw [show [Value.ref a] = [Value.ref a] from rfl]
  refine PySem.W.sorted_data (enc := D.py) hl.isList (each_of h rv) er hal hso (by rw [← h.len]; exact hz) (fun b hb => ?_) fun out ho e => ?_
  · have := depth_le xs b hb
    simp only [alkD, Bool.and_eq_true, decide_eq_true_eq] at hk
    have := hk.2
    omega
  · obtain ⟨acc, r1, r2⟩ := of_each e
    obtain ⟨ep, he⟩ := PyProof.Rows.sortedAll_at s.heap its out.toArray
    have len : acc.length ≤ sizeLine := by rw [r2.length, ho, ← h.len]; exact hz
    exact ⟨.ref _, upd H (s.heap.objs.size + 1) (.lst acc), I.laid (t' := s.toks) (fun _ _ => PyProof.Rows.sortedAll_old) (Nat.le_succ _) ⟨len, out, ep, r2, he⟩, rfl, q _ acc (I.hok.fresh (Nat.le_succ _)) r1⟩
/-! ### list(range) -/
theorem rg_rel {K : PySem.W.Frag} {W : Wd} {H : Hp} : ∀ (n : Nat) (a : Int), RpL K W H (rngD a n) ((List.range n).map fun i => V.int (a + (i : Nat)))
  | 0, _ => rfl
  | n + 1, a => by
    rw [List.range_succ_eq_map, List.map_cons, List.map_map]
    refine ⟨V.int a, _, ?_, rfl, rg_rel n (a + 1)⟩
    congr 1
    · simp
    · refine List.map_congr_left fun i _ => ?_
      simp only [Function.comp_def, V.int.injEq]
      omega
end Bk

set_option Elab.async false
set_option linter.all false
set_option maxRecDepth 100000
set_option maxHeartbeats 4000000
/-! sorted(t), t a tuple of ints. -/
namespace L2
open PySem PySem.Spec PyProof.Rows
section
variable {prog : Program} {w : World} {A : Around} {E : Value → Shared → Prop} {s : Shared}
theorem col_tup {t : Addr} {its : List Value} {Q : List Value → Shared → Prop} (ht : s.heap.IsTuple t its.toArray) (hz : its.length ≤ sizeLine)
    (q : Q its { s with heap := (s.heap.push (seqObj "list" #[] 0)).update s.heap.objs.size (Obj.mapSeq (· ++ its.toArray)) }) : wpAny (model prog w) A (collect (.ref t)) Q E s := by
  obtain ⟨ob, h1, h2, k, h3⟩ := id ht
  have nw : (s.heap.push (seqObj "list" #[] 0)).get? s.heap.objs.size = some (seqObj "list" #[] 0) := Heap.get?_push_size _ rfl
  have old : (s.heap.push (seqObj "list" #[] 0)).get? t = some ob := Heap.get?_push_of_some _ h1
  have e0 : ((#[] : Array Value) ++ its.toArray).toList = its := by simp
  unfold collect
  refine wpAny_bind (wpAny_runValue (codeAny_builtin entry_proto_collect' ?_))
  refine wpAny_bind (m := newList []) (wpAny_newList (wpAny_pure ⟨Code.quiet_builtin _ (by decide +kernel), codeAny_builtin entry_list_iadd' ?_⟩))
  show wpAny _ _ (Builtin.List.listExtendWith (.ref s.heap.objs.size) (.ref t) (.ref s.heap.objs.size)) _ _ _
  unfold Builtin.List.listExtendWith
  refine wpAny_bind (wpAny_typeOf (T := "tuple") ⟨ob, old, h2⟩ ?_)
  have hb : (Builtin.List.listSameRef (.ref s.heap.objs.size) (.ref t) || (Value.type "tuple" == Value.type "list") || (Value.type "tuple" == Value.type "tuple")) = true := by
    have : (Value.type "tuple" == Value.type "tuple") = true := rfl
    rw [this, Bool.or_true]
  rw [if_pos hb]
  refine wpAny_bind (listItems_at old h3 (wpAny_bind (listItems_at nw rfl ?_)))
  have hne : ¬ ((!(#[] : Array Value).isEmpty && Builtin.List.listTooLong ((#[] : Array Value).size + its.toArray.size)) = true) := by simp
  rw [if_neg hne]
  have z2 : ((#[] : Array Value) ++ its.toArray).size ≤ sizeLine + 1 := by simp; omega
  refine wpAny_bind (listUpdate_at (f := (· ++ its.toArray)) nw rfl (wpAny_pure ?_) (Nat.zero_le _) z2)
  refine wpAny_bind (m := load s.heap.objs.size) (wpAny_load (get?_update_seq nw _) ?_)
  dsimp only
  rw [e0]
  exact wpAny_pure q
theorem srt_tup {t : Addr} {its : List Value} {lt : Value → Value → Bool} {Q : Value → Shared → Prop} (O : SrtO.Swo lt) (ht : s.heap.IsTuple t its.toArray) (hz : its.length ≤ sizeLine)
    (hS : 2 ≤ its.length → ∀ (h₁ : Heap) (a : Addr), h₁.get? a = some (seqObj "list" its.toArray 0) → (∀ b o, s.heap.get? b = some o → b ≠ a ∧ h₁.get? b = some o) → SrtO.SortableO prog w A.in1.in1 { s with heap := h₁ } a its lt)
    (q : ∀ out : List Value, SrtO.Srtd lt out → SrtO.Stb lt out its → Q (.ref (s.heap.objs.size + 1)) { s with heap := sortedAll s.heap its out.toArray }) : wpAny (model prog w) A (call (.builtin "sorted") [.ref t]) Q E s := by
  refine Calls.call_function_entry kind_sorted plain_sorted entry_sorted (args_sorted1 _) ?_
  unfold Builtin.«sorted»
  refine wpAny_bind (m := checkCount "sorted" 1 1 _) (wpAny_pure (wpAny_bind (col_tup ht hz (wpAny_bind (wpAny_newList ?_ hz)))))
  generalize eH : (s.heap.push (seqObj "list" #[] 0)).update s.heap.objs.size (Obj.mapSeq (· ++ its.toArray)) = H1
  have e1 : H1.objs.size = s.heap.objs.size + 1 := by rw [← eH, Heap.size_update, size_push']
  have stay : ∀ b o, s.heap.get? b = some o → H1.get? b = some o := fun b o hb => by
    rw [← eH, Heap.get?_update_ne _ _ _ _ (Nat.ne_of_lt (Heap.lt_size hb))]
    exact Heap.get?_push_of_some _ hb
  have nw : (H1.push (seqObj "list" its.toArray 0)).get? (s.heap.objs.size + 1) = some (seqObj "list" its.toArray 0) := by
    rw [← e1]; exact Heap.get?_push_size _ rfl
  have keep : ∀ b o, s.heap.get? b = some o → b ≠ s.heap.objs.size + 1 ∧ (H1.push (seqObj "list" its.toArray 0)).get? b = some o := fun b o hb =>
    ⟨Nat.ne_of_lt (Nat.lt_succ_of_lt (Heap.lt_size hb)), Heap.get?_push_of_some _ (stay b o hb)⟩
  show wpAny _ _ _ _ _ { s with heap := H1.push (seqObj "list" its.toArray 0) }
  rw [e1]
  refine wpAny_bind (wpAny_holding (wpAny_call_entry slot_list_sort ⟨_, nw, rfl⟩ entry_list_sort (SrtO.list_sort_ord O nw hz (fun h2 => hS h2 _ _ nw keep) fun out a1 a2 => ⟨_, rfl, wpAny_pure ⟨_, rfl, ?_⟩⟩) (args_list_sort _)))
  have := q out a1 a2
  unfold sortedAll at this
  rw [eH] at this
  exact this
end
def rSortT (K : PySem.W.Frag) : List V → Hp → VK → Prop := fun vs H Q => ∃ (a : Addr) (ns : List Int), vs = [V.ref a] ∧ SqT K H a (ns.map V.int) ∧
  ∀ (ns' : List Int) (p : Addr), ns'.Perm ns → ns'.Pairwise (· ≤ ·) → H p = none → Q (.ref p) (upd H p (.lst (ns'.map V.int)))
section
variable {X : Cx}
theorem cr_sortT : CallR X (.builtin "sorted") (rSortT X.K) := by
  intro pins s σ H vs us Q I r h
  obtain ⟨a, ns, rfl, ht, q⟩ := h
  obtain ⟨its, rv, hl, hz⟩ := I.tuple ht
  have hi := rv.ints
  rw [Vals.ref1 r]
  refine srt_tup SrtO.swo_int hl (rv.length ▸ hz) (fun h2 h₁ a' _ _ => SrtO.ints_sortable hi h2) fun out a1 a2 => ?_
  obtain ⟨k1, k2, k3⟩ := SrtO.ints_out hi a1 a2
  obtain ⟨ep, he⟩ := PyProof.Rows.sortedAll_at s.heap its out.toArray
  have len : ((out.map SrtO.iv).map V.int).length ≤ sizeLine := by
    have := hz
    rw [List.length_map] at this ⊢
    rwa [k2.length_eq]
  refine ⟨.ref _, upd H (s.heap.objs.size + 1) (.lst ((out.map SrtO.iv).map V.int)), ?_, rfl, q _ _ k2 k3 (I.hok.fresh (Nat.le_succ _))⟩
  exact I.laid (t' := s.toks) (fun _ _ => PyProof.Rows.sortedAll_old) (Nat.le_succ _) ⟨len, out, ep, vals_of_ints k1, he⟩
end
end L2

set_option Elab.async false
set_option linter.all false
set_option maxRecDepth 100000
set_option maxHeartbeats 1000000
/-! The operations on plain data, by the layer's rules. -/
namespace Bk
open PySem L2
open Evl (Ex ex_l ex_t)

def rD (K : PySem.W.Frag) (W : Wd) (f : D → D → Option D) : R2 := fun x y H Q => ∃ g Hk dx dy d, Wk W g Hk H ∧ Rp K W Hk dx x ∧ Rp K W Hk dy y ∧ f dx dy = some d ∧
  ∀ v Hk' H', Step W Hk H Hk' H' → DrawAt W g H' → Rp K W Hk' d v → Q v H'
def rBi (K : PySem.W.Frag) (W : Wd) (f : List D → Option D) : List V → Hp → VK → Prop := fun vs H Q => ∃ g Hk ds d, Wk W g Hk H ∧ RpL K W Hk ds vs ∧ f ds = some d ∧
  ∀ v Hk' H', Step W Hk H Hk' H' → DrawAt W g H' → Rp K W Hk' d v → Q v H'
section
variable {K : PySem.W.Frag} {W : Wd} {Hk H : Hp} {g : G}
theorem size_le {n : Nat} (h : n ≤ 1000000) : n ≤ sizeLine := Nat.le_trans h (by decide)
theorem size_lt {n : Nat} (h : n < 1000000) : n < sizeLine := Nat.lt_of_lt_of_le h (by decide)
/-- a result that is new -/
theorem new_tup {Q : VK} {ds : List D} {xs : List V} (w : Wk W g Hk H) (r : RpL K W Hk ds xs) (q : ∀ v Hk' H', Step W Hk H Hk' H' → DrawAt W g H' → Rp K W Hk' (.tup ds) v → Q v H') :
    ∀ p, H p = none → Q (.ref p) (upd H p (.tup xs)) := fun p hp => by
  have s : Step W Hk H (upd Hk p (.tup xs)) (upd H p (.tup xs)) := Step.new w.ex hp
  exact q _ _ _ s (w.dr.upd (ex_upd_out w.dr hp)) ⟨p, xs, rfl, SqT.of upd_same, r.mono s.k⟩
theorem new_lst {Q : VK} {ds : List D} {xs : List V} (w : Wk W g Hk H) (r : RpL K W Hk ds xs) (q : ∀ v Hk' H', Step W Hk H Hk' H' → DrawAt W g H' → Rp K W Hk' (.lst ds) v → Q v H') :
    ∀ p, H p = none → Q (.ref p) (upd H p (.lst xs)) := fun p hp => by
  have s : Step W Hk H (upd Hk p (.lst xs)) (upd H p (.lst xs)) := Step.new w.ex hp
  exact q _ _ _ s (w.dr.upd (ex_upd_out w.dr hp)) ⟨p, xs, rfl, upd_same, r.mono s.k⟩
theorem same {Q : VK} {d : D} {v : V} (w : Wk W g Hk H) (r : Rp K W Hk d v) (q : ∀ v Hk' H', Step W Hk H Hk' H' → DrawAt W g H' → Rp K W Hk' d v → Q v H') : Q v H := q v Hk H (Step.refl w.ex) w.dr r
theorem sameI {Q : VK} {i : Int} (w : Wk W g Hk H) (q : ∀ v Hk' H', Step W Hk H Hk' H' → DrawAt W g H' → Rp K W Hk' (.int i) v → Q v H') : Q (.int i) H := same (d := .int i) w rfl q
theorem sameB {Q : VK} {i : Bool} (w : Wk W g Hk H) (q : ∀ v Hk' H', Step W Hk H Hk' H' → DrawAt W g H' → Rp K W Hk' (.bl i) v → Q v H') : Q (.bl i) H := same (d := .bl i) w rfl q
theorem sameS {Q : VK} {i : Str} (w : Wk W g Hk H) (q : ∀ v Hk' H', Step W Hk H Hk' H' → DrawAt W g H' → Rp K W Hk' (.str i) v → Q v H') : Q (.str i) H := same (d := .str i) w rfl q

theorem ixN_at (xs : List D) (vs : List V) (hl : vs.length = xs.length) (i : Int) : ∀ d, atD xs i = some d → ∃ j, ixN vs.length i = some j ∧ xs[j]? = some d := by
  intro d h
  unfold atD at h
  unfold ixN
  rw [hl]
  by_cases h0 : 0 ≤ i
  · rw [if_pos h0] at h ⊢
    obtain ⟨h1, _⟩ := List.getElem?_eq_some_iff.mp h
    have : i < (xs.length : Int) := by omega
    rw [if_pos this]
    exact ⟨_, rfl, h⟩
  · rw [if_neg h0] at h ⊢
    by_cases h1 : 0 ≤ i + xs.length
    · rw [if_pos h1] at h
      first
        | (rw [if_pos (by omega)]; exact ⟨_, rfl, by first | exact h | (rw [← h]; congr 1; omega)⟩)
        | (simp only [h1]; exact ⟨_, rfl, h⟩)
    · rw [if_neg h1] at h; cases h
theorem at_rel {ds : List D} {vs : List V} {i : Int} {d : D} (r : RpL K W H ds vs) (h : atD ds i = some d) : ∃ v, atI vs i = some v ∧ Rp K W H d v := by
  obtain ⟨j, e, hj⟩ := ixN_at ds vs r.len i d h
  obtain ⟨v, e2, r2⟩ := r.get hj
  exact ⟨v, by unfold atI; rw [e]; exact e2, r2⟩
theorem sIx_eq (n d : Nat) (o : Option Int) : HT.sIx n d o = sIxD n d o := by cases o <;> rfl
theorem cut_rel {ds : List D} {vs : List V} {lo hi : Option Int} (r : RpL K W H ds vs) : RpL K W H (cutD ds lo hi) (cutV vs lo hi) := by
  unfold cutD cutV
  rw [r.len, sIx_eq, sIx_eq]
  exact (r.drop _).take _
theorem cutD_whole {ds : List D} {lo hi : Option Int} (h : sIxD ds.length 0 lo = 0 ∧ sIxD ds.length ds.length hi = ds.length) : cutD ds lo hi = ds := by
  unfold cutD
  rw [h.1, h.2]
  simp
end
section
variable {X : Cx} {W : Wd}
/-! ### operators -/
def opOf : Op → Operator
  | .add => .Add
  | .sub => .Sub
  | .mul => .Mult
  | .div => .FloorDiv
  | .mod => .Mod
  | .pow => .Pow
theorem int_of {K : PySem.W.Frag} {Hk : Hp} {i : Int} {v : V} (h : Rp K W Hk (.int i) v) : v = .int i := h
theorem op_D (o : Op) : OpR X (binaryOp (opOf o)) (rD X.K W (opD o)) := by
  intro pins s σ H x y v u Q I rx ry h
  obtain ⟨g, Hk, dx, dy, d, w, r1, r2, e, q⟩ := h
  cases o <;> cases dx <;> cases dy <;> (try (simp only [opD] at e; cases e; done)) <;> simp only [opD] at e
  case add.int.int i j =>
    cases e
    rw [int_of r1] at rx
    rw [int_of r2] at ry
    exact op_add pins s σ H _ _ v u Q I rx ry ⟨i, j, rfl, rfl, sameI w q⟩
  case sub.int.int i j =>
    cases e
    rw [int_of r1] at rx
    rw [int_of r2] at ry
    exact op_sub pins s σ H _ _ v u Q I rx ry ⟨i, j, rfl, rfl, sameI w q⟩
  case mul.int.int i j =>
    by_cases hm : MulOk i j = true
    · rw [if_pos hm] at e
      cases e
      rw [int_of r1] at rx
      rw [int_of r2] at ry
      exact op_mulW pins s σ H _ _ v u Q I rx ry ⟨i, j, rfl, rfl, (show i.natAbs.log2 + j.natAbs.log2 < 1000000 from of_decide_eq_true hm), sameI w q⟩
    · rw [if_neg hm] at e; cases e
  case div.int.int i j =>
    by_cases hm : DivOk j = true
    · rw [if_pos hm] at e
      cases e
      rw [int_of r1] at rx
      rw [int_of r2] at ry
      unfold DivOk at hm
      simp only [Bool.and_eq_true, decide_eq_true_eq] at hm
      exact op_fdivW pins s σ H _ _ v u Q I rx ry ⟨i, j, rfl, rfl, hm, sameI w q⟩
    · rw [if_neg hm] at e; cases e
  case mod.int.int i j =>
    by_cases hm : 0 < j
    · rw [if_pos hm] at e
      cases e
      rw [int_of r1] at rx
      rw [int_of r2] at ry
      exact op_mod pins s σ H _ _ v u Q I rx ry ⟨i, j, rfl, rfl, hm, sameI w q⟩
    · rw [if_neg hm] at e; cases e
  case pow.int.int i j =>
    split at e
    · rename_i hm
      cases e
      rw [int_of r1] at rx
      rw [int_of r2] at ry
      exact op_pow pins s σ H _ _ v u Q I rx ry ⟨i, j, rfl, rfl, ⟨hm.1, Int.le_trans hm.2.1 (by decide), hm.2.2⟩, sameI w q⟩
    · cases e
  case add.tup.tup xs ys =>
    split at e
    · rename_i hz
      cases e
      obtain ⟨a, vs, rfl, h1, h2⟩ := r1
      obtain ⟨b, us, rfl, h3, h4⟩ := r2
      refine op_catA pins s σ H _ _ v u Q I rx ry ⟨a, b, vs, us, rfl, rfl, ex_t w.ex h1, ex_t w.ex h3, size_le (by rw [h2.len, h4.len]; exact hz), fun z => ?_, fun _ z => ?_, fun _ _ => new_tup w (h2.append h4) q⟩
      · subst z
        have : xs = [] := by
          have := h2.len
          cases xs with
          | nil => rfl
          | cons _ _ => simp at this
        subst this
        exact same (d := .tup ys) w ⟨b, us, rfl, h3, h4⟩ q
      · subst z
        have : ys = [] := by
          have := h4.len
          cases ys with
          | nil => rfl
          | cons _ _ => simp at this
        subst this
        rw [List.append_nil] at q
        exact same (d := .tup xs) w ⟨a, vs, rfl, h1, h2⟩ q
    · cases e
  case add.lst.lst xs ys =>
    split at e
    · rename_i hz
      cases e
      obtain ⟨a, vs, rfl, h1, h2⟩ := r1
      obtain ⟨b, us, rfl, h3, h4⟩ := r2
      exact op_cat pins s σ H _ _ v u Q I rx ry ⟨a, b, vs, us, rfl, rfl, w.ex _ _ h1, w.ex _ _ h3, size_le (by rw [h2.len, h4.len]; exact hz), new_lst w (h2.append h4) q⟩
    · cases e
  case mul.lst.int xs k =>
    split at e
    · rename_i hz
      cases e
      obtain ⟨a, vs, rfl, h1, h2⟩ := r1
      rw [int_of r2] at ry
      refine op_rep pins s σ H _ _ v u Q I rx ry ⟨a, k, vs, rfl, rfl, w.ex _ _ h1, by have := hz.2.2; omega, by have := hz.2.1; omega, size_le (by rw [h2.len]; exact hz.1), new_lst w (h2.rep _) q⟩
    · cases e
  case mul.tup.int xs k =>
    split at e
    · rename_i hz
      cases e
      obtain ⟨a, vs, rfl, h1, h2⟩ := r1
      rw [int_of r2] at ry
      by_cases hk : k = 1
      · subst hk
        refine op_repT1 pins s σ H _ _ v u Q I rx ry ⟨a, vs, rfl, rfl, ex_t w.ex h1, ?_⟩
        have e1 : (List.replicate (1 : Int).toNat xs).flatten = xs := by simp
        rw [e1] at q
        exact same (d := .tup xs) w ⟨a, vs, rfl, h1, h2⟩ q
      refine op_repT pins s σ H _ _ v u Q I rx ry ⟨a, k, vs, rfl, rfl, ex_t w.ex h1, fun z => hz.1 ?_, by have := hz.2.1; omega, hz.2.2.1, by rw [h2.len]; exact hz.2.2.2, new_tup w (h2.rep _) q⟩
      have := h2.len
      rw [z] at this
      exact List.eq_nil_of_length_eq_zero this.symm
    · cases e
  case add.str.str a b =>
    split at e
    · rename_i hz
      cases e
      rw [show x = .str a from r1] at rx
      rw [show y = .str b from r2] at ry
      exact op_add_str pins s σ H _ _ v u Q I rx ry ⟨a, b, rfl, rfl, size_le hz, sameS w q⟩
    · cases e
def cmOf : Cm → CmpOp
  | .eq => .Eq
  | .ne => .NotEq
  | .lt => .Lt
  | .le => .LtE
  | .gt => .Gt
  | .ge => .GtE
  | .isin => .In
  | .notin => .NotIn
  | .isN => .Is
  | .notN => .IsNot
theorem eqv_ints (i j : Int) : PyData.eqv (.int i) (.int j) = decide (i = j) := by
  simp only [PyData.eqv]
  exact Bool.beq_eq_decide_eq i j
theorem in_of {x y : D} {b : Bool} (h : cmpD .isin x y = some b) : (∃ ys, (y = .tup ys ∨ y = .lst ys) ∧ (flatD x && ys.all flatD) = true ∧ b = inF x ys) ∨ ∃ ks vs, y = .dct ks vs ∧ okK x = true ∧ b = (getK (keyD x) ks vs).isSome := by
  cases y with
  | tup ys =>
    refine .inl ?_
    cases x <;> (simp only [cmpD] at h; split at h <;> first | (rename_i c; cases h; exact ⟨ys, .inl rfl, c, rfl⟩) | cases h)
  | lst ys =>
    refine .inl ?_
    cases x <;> (simp only [cmpD] at h; split at h <;> first | (rename_i c; cases h; exact ⟨ys, .inr rfl, c, rfl⟩) | cases h)
  | dct ks vs =>
    refine .inr ?_
    cases x <;> (simp only [cmpD] at h; split at h <;> first | (rename_i c; cases h; exact ⟨ks, vs, rfl, c, rfl⟩) | cases h)
  | _ => cases x <;> (simp only [cmpD] at h; cases h)
theorem notin_of {x y : D} {b : Bool} (h : cmpD .notin x y = some b) : (∃ ys, (y = .tup ys ∨ y = .lst ys) ∧ (flatD x && ys.all flatD) = true ∧ b = !inF x ys) ∨ ∃ ks vs, y = .dct ks vs ∧ okK x = true ∧ b = !(getK (keyD x) ks vs).isSome := by
  cases y with
  | tup ys =>
    refine .inl ?_
    cases x <;> (simp only [cmpD] at h; split at h <;> first | (rename_i c; cases h; exact ⟨ys, .inl rfl, c, rfl⟩) | cases h)
  | lst ys =>
    refine .inl ?_
    cases x <;> (simp only [cmpD] at h; split at h <;> first | (rename_i c; cases h; exact ⟨ys, .inr rfl, c, rfl⟩) | cases h)
  | dct ks vs =>
    refine .inr ?_
    cases x <;> (simp only [cmpD] at h; split at h <;> first | (rename_i c; cases h; exact ⟨ks, vs, rfl, c, rfl⟩) | cases h)
  | _ => cases x <;> (simp only [cmpD] at h; cases h)
theorem flat_one {K : PySem.W.Frag} {Hk : Hp} {d : D} {v : V} (h : flatD d = true) (r : Rp K W Hk d v) : flatV v = true ∧ ∀ e u, flatD e = true → Rp K W Hk e u → eqV u v = eqF e d := by
  cases d with
  | non => rw [show v = .non from r]; exact ⟨rfl, fun e u he re => by cases e <;> first | (rw [show u = _ from re]; rfl) | cases he⟩
  | bl b => rw [show v = .bl b from r]; exact ⟨rfl, fun e u he re => by cases e <;> first | (rw [show u = _ from re]; rfl) | cases he⟩
  | int b => rw [show v = .int b from r]; exact ⟨rfl, fun e u he re => by cases e <;> first | (rw [show u = _ from re]; rfl) | cases he⟩
  | str b => rw [show v = .str b from r]; exact ⟨rfl, fun e u he re => by cases e <;> first | (rw [show u = _ from re]; rfl) | cases he⟩
  | _ => cases h
theorem flat_all {K : PySem.W.Frag} {Hk : Hp} : ∀ {ds : List D} {vs : List V}, ds.all flatD = true → RpL K W Hk ds vs → vs.all flatV = true ∧ True
  | [], vs, _, r => by rw [show vs = [] from r]; exact ⟨rfl, trivial⟩
  | d :: ds, vs, h, r => by
    obtain ⟨y, ys, rfl, r1, r2⟩ := r
    simp only [List.all_cons, Bool.and_eq_true] at h ⊢
    exact ⟨⟨(flat_one h.1 r1).1, (flat_all h.2 r2).1⟩, trivial⟩
theorem inF_eq {K : PySem.W.Frag} {Hk : Hp} {d : D} {v : V} (h : flatD d = true) : ∀ {ds : List D} {vs : List V}, ds.all flatD = true → Rp K W Hk d v → RpL K W Hk ds vs → inF d ds = inV v vs
  | [], vs, _, r, rs => by rw [show vs = [] from rs]; rfl
  | e :: ds, vs, hs, r, rs => by
    obtain ⟨y, ys, rfl, r1, r2⟩ := rs
    simp only [List.all_cons, Bool.and_eq_true] at hs
    have ih := inF_eq h hs.2 r r2
    unfold inF inV at ih ⊢
    simp only [List.any_cons]
    rw [ih, (flat_one h r).2 e y hs.1 r1]
theorem cmp_D (hu : X.A.units + 64 < cLine) (hw : W.w = X.w) (o : Cm) : OpR X (compareOp (cmOf o)) (rD X.K W fun a b => (cmpD o a b).map .bl) := by
  intro pins s σ H x y v u Q I rx ry h
  obtain ⟨g, Hk, dx, dy, d, w, r1, r2, e, q⟩ := h
  have eqc : ∀ b, (if dx.pl && dy.pl && SeqAt.shaped dx.py && SeqAt.shaped dy.py then some (PyData.eqv dx.py dy.py) else none) = some b → wpAny (model X.prog X.w) X.A (compareOp .Eq v u) (EP X pins σ (fun z H' => z = .bl b ∧ H' = H)) X.xe s := by
    intro b hb
    split at hb
    · rename_i hc
      simp only [Bool.and_eq_true] at hc
      cases hb
      exact op_eqD hu pins s σ H _ _ v u _ I rx ry ⟨_, _, (r1.mono w.ex).dp hc.1.1.1, (r2.mono w.ex).dp hc.1.1.2, hc.1.2, hc.2, rfl, rfl⟩
    · cases hb
  have nec : ∀ b, (if dx.pl && dy.pl && SeqAt.shaped dx.py && SeqAt.shaped dy.py then some (!PyData.eqv dx.py dy.py) else none) = some b → wpAny (model X.prog X.w) X.A (compareOp .NotEq v u) (EP X pins σ (fun z H' => z = .bl b ∧ H' = H)) X.xe s := by
    intro b hb
    split at hb
    · rename_i hc
      simp only [Bool.and_eq_true] at hc
      cases hb
      exact op_neD hu pins s σ H _ _ v u _ I rx ry ⟨_, _, (r1.mono w.ex).dp hc.1.1.1, (r2.mono w.ex).dp hc.1.1.2, hc.1.2, hc.2, rfl, rfl⟩
    · cases hb
  obtain ⟨b, eb, rfl⟩ := Option.map_eq_some_iff.mp e
  have fin : Q (.bl b) H := sameB w q
  have go : ∀ {op : CmpOp}, wpAny (model X.prog X.w) X.A (compareOp op v u) (EP X pins σ (fun z H' => z = .bl b ∧ H' = H)) X.xe s → wpAny (model X.prog X.w) X.A (compareOp op v u) (EP X pins σ Q) X.xe s := fun h =>
    thn h fun z s' ⟨zv, H', I', r', e1, e2⟩ => ⟨zv, H', I', r', by rw [e1, e2]; exact fin⟩
  have fin' : (fun (z : V) (H' : Hp) => z = V.bl b ∧ H' = H) (.bl b) H := ⟨rfl, rfl⟩
  cases o with
  | eq =>
    refine go ?_
    cases dx with
    | int i =>
      cases dy with
      | int j =>
        simp only [cmpD, Option.some.injEq] at eb
        subst eb
        rw [int_of r1] at rx
        rw [int_of r2] at ry
        exact op_eq pins s σ H _ _ v u _ I rx ry ⟨rfl, by simp, rfl⟩
      | _ => exact eqc b eb
    | str i =>
      cases dy with
      | str j =>
        simp only [cmpD, Option.some.injEq] at eb
        subst eb
        have r1 : x = .str i := r1
        have r2 : y = .str j := r2
        rw [r1] at rx
        rw [r2] at ry
        exact op_eq pins s σ H _ _ v u _ I rx ry ⟨rfl, by simp, rfl⟩
      | _ => exact eqc b eb
    | _ => exact eqc b eb
  | ne =>
    refine go ?_
    cases dx with
    | int i =>
      cases dy with
      | int j =>
        simp only [cmpD, Option.some.injEq] at eb
        subst eb
        rw [int_of r1] at rx
        rw [int_of r2] at ry
        exact op_ne pins s σ H _ _ v u _ I rx ry ⟨rfl, by simp, rfl⟩
      | _ => exact nec b eb
    | str i =>
      cases dy with
      | str j =>
        simp only [cmpD, Option.some.injEq] at eb
        subst eb
        have r1 : x = .str i := r1
        have r2 : y = .str j := r2
        rw [r1] at rx
        rw [r2] at ry
        exact op_ne pins s σ H _ _ v u _ I rx ry ⟨rfl, by simp, rfl⟩
      | _ => exact nec b eb
    | _ => exact nec b eb
  | lt =>
    cases dx <;> cases dy <;> (try (simp only [cmpD] at eb; cases eb; done))
    rw [int_of r1] at rx
    rw [int_of r2] at ry
    simp only [cmpD, Option.some.injEq] at eb
    subst eb
    exact op_lt pins s σ H _ _ v u Q I rx ry ⟨_, _, rfl, rfl, fin⟩
  | le =>
    cases dx <;> cases dy <;> (try (simp only [cmpD] at eb; cases eb; done))
    rw [int_of r1] at rx
    rw [int_of r2] at ry
    simp only [cmpD, Option.some.injEq] at eb
    subst eb
    exact op_le pins s σ H _ _ v u Q I rx ry ⟨_, _, rfl, rfl, fin⟩
  | gt =>
    cases dx <;> cases dy <;> (try (simp only [cmpD] at eb; cases eb; done))
    rw [int_of r1] at rx
    rw [int_of r2] at ry
    simp only [cmpD, Option.some.injEq] at eb
    subst eb
    exact op_gt pins s σ H _ _ v u Q I rx ry ⟨_, _, rfl, rfl, fin⟩
  | ge =>
    cases dx <;> cases dy <;> (try (simp only [cmpD] at eb; cases eb; done))
    rw [int_of r1] at rx
    rw [int_of r2] at ry
    simp only [cmpD, Option.some.injEq] at eb
    subst eb
    exact op_ge pins s σ H _ _ v u Q I rx ry ⟨_, _, rfl, rfl, fin⟩
  | isin =>
    rcases in_of (show cmpD .isin dx dy = some b from eb) with ⟨ys, hy, hc, rfl⟩ | ⟨ks, vs, hy, hc, rfl⟩
    rotate_left
    · subst hy
      obtain ⟨a, o, xs, rfl, h1, h2⟩ := r2
      have e2 : u = Value.ref a := ry
      subst e2
      exact n_in hu I w.ex hw ⟨o, xs, w.ex _ _ h1, h2⟩ r1 hc rx fun s' I' => ⟨.bl _, _, I', rfl, fin⟩
    rcases hy with hy | hy
    · subst hy
      obtain ⟨a, us, rfl, h1, h2⟩ := r2
      simp only [Bool.and_eq_true] at hc
      obtain ⟨f1, f2⟩ := flat_all hc.2 h2
      obtain ⟨f3, f4⟩ := flat_one hc.1 r1
      refine op_in_seq pins s σ H _ _ v u Q I rx ry ⟨a, us, rfl, .inr (ex_t w.ex h1), f3, f1, ?_⟩
      simp only [Bool.false_eq_true, if_false]
      rw [← inF_eq hc.1 hc.2 r1 h2]
      exact fin
    · subst hy
      obtain ⟨a, us, rfl, h1, h2⟩ := r2
      simp only [Bool.and_eq_true] at hc
      obtain ⟨f1, f2⟩ := flat_all hc.2 h2
      obtain ⟨f3, f4⟩ := flat_one hc.1 r1
      refine op_in_seq pins s σ H _ _ v u Q I rx ry ⟨a, us, rfl, .inl (SqL.of (w.ex _ _ h1)), f3, f1, ?_⟩
      simp only [Bool.false_eq_true, if_false]
      rw [← inF_eq hc.1 hc.2 r1 h2]
      exact fin
  | notin =>
    rcases notin_of (show cmpD .notin dx dy = some b from eb) with ⟨ys, hy, hc, rfl⟩ | ⟨ks, vs, hy, hc, rfl⟩
    rotate_left
    · subst hy
      obtain ⟨a, o, xs, rfl, h1, h2⟩ := r2
      have e2 : u = Value.ref a := ry
      subst e2
      exact n_notIn hu I w.ex hw ⟨o, xs, w.ex _ _ h1, h2⟩ r1 hc rx fun s' I' => ⟨.bl _, _, I', rfl, fin⟩
    rcases hy with hy | hy
    · subst hy
      obtain ⟨a, us, rfl, h1, h2⟩ := r2
      simp only [Bool.and_eq_true] at hc
      obtain ⟨f1, f2⟩ := flat_all hc.2 h2
      obtain ⟨f3, f4⟩ := flat_one hc.1 r1
      refine op_notIn_seq pins s σ H _ _ v u Q I rx ry ⟨a, us, rfl, .inr (ex_t w.ex h1), f3, f1, ?_⟩
      simp only [if_true]
      rw [← inF_eq hc.1 hc.2 r1 h2]
      exact fin
    · subst hy
      obtain ⟨a, us, rfl, h1, h2⟩ := r2
      simp only [Bool.and_eq_true] at hc
      obtain ⟨f1, f2⟩ := flat_all hc.2 h2
      obtain ⟨f3, f4⟩ := flat_one hc.1 r1
      refine op_notIn_seq pins s σ H _ _ v u Q I rx ry ⟨a, us, rfl, .inl (SqL.of (w.ex _ _ h1)), f3, f1, ?_⟩
      simp only [if_true]
      rw [← inF_eq hc.1 hc.2 r1 h2]
      exact fin
  | isN =>
    have hy : y = .non := by
      cases dy with
      | non => exact r2
      | _ => cases dx <;> (simp only [cmpD] at eb; cases eb)
    have hb : b = decide (x = .non) := by
      cases dy with
      | non =>
        cases dx with
        | non => simp only [cmpD, Option.some.injEq] at eb; rw [← eb, show x = .non from r1]; rfl
        | bl _ => simp only [cmpD, Option.some.injEq] at eb; rw [← eb, show x = _ from r1]; rfl
        | int _ => simp only [cmpD, Option.some.injEq] at eb; rw [← eb, show x = _ from r1]; rfl
        | str _ => simp only [cmpD, Option.some.injEq] at eb; rw [← eb, show x = _ from r1]; rfl
        | tup _ => obtain ⟨a, _, rfl, _⟩ := r1; simp only [cmpD, Option.some.injEq] at eb; rw [← eb]; rfl
        | lst _ => obtain ⟨a, _, rfl, _⟩ := r1; simp only [cmpD, Option.some.injEq] at eb; rw [← eb]; rfl
        | m => simp only [cmpD] at eb; cases eb
        | scr _ => simp only [cmpD] at eb; cases eb
        | dct _ _ => simp only [cmpD] at eb; cases eb
      | _ => cases dx <;> (simp only [cmpD] at eb; cases eb)
    rw [hb] at fin
    exact op_isN pins s σ H _ _ v u Q I rx ry ⟨hy, fin⟩
  | notN =>
    have hy : y = .non := by
      cases dy with
      | non => exact r2
      | _ => cases dx <;> (simp only [cmpD] at eb; cases eb)
    have hb : b = !decide (x = .non) := by
      cases dy with
      | non =>
        cases dx with
        | non => simp only [cmpD, Option.some.injEq] at eb; rw [← eb, show x = .non from r1]; rfl
        | bl _ => simp only [cmpD, Option.some.injEq] at eb; rw [← eb, show x = _ from r1]; rfl
        | int _ => simp only [cmpD, Option.some.injEq] at eb; rw [← eb, show x = _ from r1]; rfl
        | str _ => simp only [cmpD, Option.some.injEq] at eb; rw [← eb, show x = _ from r1]; rfl
        | tup _ => obtain ⟨a, _, rfl, _⟩ := r1; simp only [cmpD, Option.some.injEq] at eb; rw [← eb]; rfl
        | lst _ => obtain ⟨a, _, rfl, _⟩ := r1; simp only [cmpD, Option.some.injEq] at eb; rw [← eb]; rfl
        | m => simp only [cmpD] at eb; cases eb
        | scr _ => simp only [cmpD] at eb; cases eb
        | dct _ _ => simp only [cmpD] at eb; cases eb
      | _ => cases dx <;> (simp only [cmpD] at eb; cases eb)
    rw [hb] at fin
    exact op_notN pins s σ H _ _ v u Q I rx ry ⟨hy, fin⟩
/-- d[k] -/
theorem ix_dct (hu : X.A.units + 64 < cLine) (hw : W.w = X.w) {value slice : Expr} {pins : List (Addr × Obj)} {s : Shared} {σ : L2.St} {Hk H : Hp} {p : Addr} {ks vs : List D} {k d : D} {y : V} {u : Value} {Q : Value → Shared → Prop} (I : L2.Inv X pins σ H s) (ex : Ex Hk H) (h : DAt X.K W Hk H p ks vs) (rk : Rp X.K W Hk k y) (ok : okK k = true) (ru : RelV y u) (hg : getK (keyD k) ks vs = some d)
    (hs : subscripted slice false (.ref p) u = operate [.ref p, u] (getItem (.ref p) u)) (q : ∀ v' w' s', L2.Inv X pins σ H s' → Rp X.K W Hk d v' → RelV v' w' → Q w' s') : wpAny (model X.prog X.w) X.A (PyProof.Rows.subscriptTail value slice (.ref p) u) Q X.xe s := by
  have hT := h.typ I
  unfold PyProof.Rows.subscriptTail
  refine wpAny_bind ?_
  rw [getitemInPython_of_ne hT.not_modules]
  refine wpAny_bind (wpAny_specialOf hT PySem.F.slot_dict_getitem.lookup ?_)
  have fin : wpAny (model X.prog X.w) X.A (subscripted slice false (.ref p) u) (fun r s₃ => wpAny (model X.prog X.w) X.A (letTemporaryGo value (.ref p) r >>= fun _ => pure r) Q X.xe s₃) X.xe s := by
    rw [hs]
    exact wpAny_operating (n_get hu I ex hw h rk ok ru hg fun v' w' s' I' r1 r2 => wpAny_bind (wpAny_letTemporaryGo (wpAny_pure (q v' w' s' I' r1 r2))))
  first
    | exact wpAny_pure (wpAny_bind fin)
    | exact wpAny_bind (wpAny_pure (wpAny_bind fin))
    | exact wpAny_bind fin
theorem idxD_dct {ks vs : List D} {k d : D} (e : idxD (.dct ks vs) k = some d) : okK k = true ∧ getK (keyD k) ks vs = some d := by
  cases k <;> (simp only [idxD] at e; split at e <;> first | exact ⟨by assumption, e⟩ | cases e)
/-- xs[i] -/
theorem ix_D (hu : X.A.units + 64 < cLine) (hw : W.w = X.w) : IxR X (rD X.K W idxD) := by
  intro value slice pins s σ H x y v u Q I rx ry h hs
  obtain ⟨g, Hk, dx, dy, d, w, r1, r2, e, q⟩ := h
  cases dx with
  | tup xs =>
    cases dy <;> (try (simp only [idxD] at e; cases e; done))
    rename_i i
    obtain ⟨a, vs, rfl, h1, h2⟩ := r1
    obtain ⟨z, e2, r3⟩ := at_rel h2 e
    exact ix_tup value slice pins s σ H _ _ v u Q I rx ry ⟨a, vs, i, z, rfl, r2, ex_t w.ex h1, e2, same w r3 q⟩ hs
  | lst xs =>
    cases dy <;> (try (simp only [idxD] at e; cases e; done))
    rename_i i
    obtain ⟨a, vs, rfl, h1, h2⟩ := r1
    obtain ⟨z, e2, r3⟩ := at_rel h2 e
    exact ix_list value slice pins s σ H _ _ v u Q I rx ry ⟨a, vs, i, z, rfl, r2, SqL.of (w.ex _ _ h1), e2, same w r3 q⟩ hs
  | dct ks vs =>
    obtain ⟨ok, hg⟩ := idxD_dct e
    obtain ⟨a, o, xs, rfl, h1, h2⟩ := r1
    have e2 : v = Value.ref a := rx
    subst e2
    exact ix_dct hu hw I w.ex ⟨o, xs, w.ex _ _ h1, h2⟩ r2 ok ry hg hs fun v' w' s' I' q1 q2 => ⟨v', H, I', q2, same w q1 q⟩
  | _ => cases dy <;> (simp only [idxD] at e; cases e)
/-- xs[lo:hi] -/
def rSlD (K : PySem.W.Frag) (W : Wd) : V → Option Int → Option Int → Hp → VK → Prop := fun x lo hi H Q => ∃ g Hk dx d, Wk W g Hk H ∧ Rp K W Hk dx x ∧ slD dx lo hi = some d ∧
  ∀ v Hk' H', Step W Hk H Hk' H' → DrawAt W g H' → Rp K W Hk' d v → Q v H'
theorem sl_D : SlR X (rSlD X.K W) := by
  intro pins s σ H x v vl vu lo hi sl Q I rx hs pl pu h
  obtain ⟨g, Hk, dx, d, w, r1, e, q⟩ := h
  cases dx <;> (try (simp only [slD] at e; cases e; done))
  · rename_i ds
    simp only [slD, Option.some.injEq] at e
    subst e
    obtain ⟨a, vs, rfl, h1, h2⟩ := r1
    refine sl_tupA pins s σ H _ v vl vu lo hi sl Q I rx hs pl pu ⟨a, vs, rfl, ex_t w.ex h1, fun z => ?_, fun _ => new_tup w (cut_rel h2) q⟩
    rw [h2.len, sIx_eq, sIx_eq] at z
    rw [cutD_whole z] at q
    exact same (d := .tup ds) w ⟨a, vs, rfl, h1, h2⟩ q
  · rename_i ds
    simp only [slD, Option.some.injEq] at e
    subst e
    obtain ⟨a, vs, rfl, h1, h2⟩ := r1
    exact sl_list pins s σ H _ v vl vu lo hi sl Q I rx hs pl pu ⟨a, vs, rfl, SqL.of (w.ex _ _ h1), new_lst w (cut_rel h2) q⟩
end
end Bk

set_option Elab.async false
set_option linter.all false
set_option maxRecDepth 100000
set_option maxHeartbeats 1000000
/-! Built-in functions on plain data. -/
namespace Bk
open PySem L2
open Evl (Ex ex_l ex_t)

theorem maxI_mem : ∀ (l : List Int) (a : Int), maxI a l ∈ a :: l ∧ ∀ y ∈ a :: l, y ≤ maxI a l
  | [], a => ⟨List.mem_cons_self, fun y hy => by simp at hy; subst hy; exact Int.le_refl _⟩
  | b :: l, a => by
    have ih := maxI_mem l (if a < b then b else a)
    have e : maxI a (b :: l) = maxI (if a < b then b else a) l := rfl
    rw [e]
    refine ⟨?_, fun y hy => ?_⟩
    · rcases List.mem_cons.mp ih.1 with h | h
      · rw [h]; split <;> simp
      · exact List.mem_cons_of_mem _ (List.mem_cons_of_mem _ h)
    · have h0 := ih.2 _ List.mem_cons_self
      rcases List.mem_cons.mp hy with rfl | hy
      · exact Int.le_trans (by split <;> omega) h0
      · rcases List.mem_cons.mp hy with rfl | hy
        · exact Int.le_trans (by split <;> omega) h0
        · exact ih.2 y (List.mem_cons_of_mem _ hy)
theorem minI_mem : ∀ (l : List Int) (a : Int), minI a l ∈ a :: l ∧ ∀ y ∈ a :: l, minI a l ≤ y
  | [], a => ⟨List.mem_cons_self, fun y hy => by simp at hy; subst hy; exact Int.le_refl _⟩
  | b :: l, a => by
    have ih := minI_mem l (if b < a then b else a)
    have e : minI a (b :: l) = minI (if b < a then b else a) l := rfl
    rw [e]
    refine ⟨?_, fun y hy => ?_⟩
    · rcases List.mem_cons.mp ih.1 with h | h
      · rw [h]; split <;> simp
      · exact List.mem_cons_of_mem _ (List.mem_cons_of_mem _ h)
    · have h0 := ih.2 _ List.mem_cons_self
      rcases List.mem_cons.mp hy with rfl | hy
      · exact Int.le_trans h0 (by split <;> omega)
      · rcases List.mem_cons.mp hy with rfl | hy
        · exact Int.le_trans h0 (by split <;> omega)
        · exact ih.2 y (List.mem_cons_of_mem _ hy)
theorem insI_perm (i : Int) : ∀ l : List Int, (insI i l).Perm (i :: l)
  | [] => List.Perm.refl _
  | j :: r => by
    unfold insI
    split
    · exact List.Perm.refl _
    · exact ((insI_perm i r).cons j).trans (List.Perm.swap i j r)
theorem insI_sorted (i : Int) : ∀ l : List Int, l.Pairwise (· ≤ ·) → (insI i l).Pairwise (· ≤ ·)
  | [], _ => by simp [insI]
  | j :: r, h => by
    unfold insI
    split
    · rename_i hij
      refine List.pairwise_cons.mpr ⟨fun y hy => ?_, h⟩
      rcases List.mem_cons.mp hy with rfl | hy
      · exact hij
      · exact Int.le_trans hij ((List.pairwise_cons.mp h).1 y hy)
    · rename_i hij
      refine List.pairwise_cons.mpr ⟨fun y hy => ?_, insI_sorted i r (List.pairwise_cons.mp h).2⟩
      rcases List.mem_cons.mp ((insI_perm i r).mem_iff.mp hy) with rfl | hy
      · omega
      · exact (List.pairwise_cons.mp h).1 y hy
theorem sortI_perm : ∀ l : List Int, (sortI l).Perm l
  | [] => List.Perm.refl _
  | i :: l => (insI_perm i _).trans ((sortI_perm l).cons i)
theorem sortI_sorted : ∀ l : List Int, (sortI l).Pairwise (· ≤ ·)
  | [] => List.Pairwise.nil
  | i :: l => insI_sorted i _ (sortI_sorted l)

def biV : Bi → Value
  | .len => .builtin "len"
  | .all => .builtin "all"
  | .any => .builtin "any"
  | .sum => .builtin "sum"
  | .min => .builtin "min"
  | .max => .builtin "max"
  | .min2 => .builtin "min"
  | .max2 => .builtin "max"
  | .sorted => .builtin "sorted"
  | .tuple => .type "tuple"
  | .list => .type "list"
  | .int => .type "int"
  | .repr => .builtin "repr"
  | .maxd => .builtin "max"
  | .mind => .builtin "min"
  | .sortd => .builtin "sorted"
section
variable {X : Cx} {W : Wd}
theorem len1 {K : PySem.W.Frag} {Hk : Hp} {d : D} {vs : List V} (h : RpL K W Hk [d] vs) : ∃ v, vs = [v] ∧ Rp K W Hk d v := by
  obtain ⟨y, ys, rfl, h1, h2⟩ := h
  rw [show ys = [] from h2]
  exact ⟨y, rfl, h1⟩
theorem len2 {K : PySem.W.Frag} {Hk : Hp} {d e : D} {vs : List V} (h : RpL K W Hk [d, e] vs) : ∃ v u, vs = [v, u] ∧ Rp K W Hk d v ∧ Rp K W Hk e u := by
  obtain ⟨y, ys, rfl, h1, h2⟩ := h
  obtain ⟨u, rfl, h3⟩ := len1 h2
  exact ⟨y, u, rfl, h1, h3⟩
theorem call_repr_D (hg : X.A.guards = some []) (hu : X.A.units + 66 < cLine) {pins : List (Addr × Obj)} {s : Shared} {σ : St} {H : Hp} {d : PyData} {x : V} {u : Value} {Q : VK} (I : L2.Inv X pins σ H s) (hd : Dp X.K H x d) (rx : RelV x u)
    (h1 : d.showable = true) (h2 : d.depth ≤ 64) (h3 : d.shown.length ≤ 1000000) (q : Q (.str d.shown) H) : wpAny (model X.prog X.w) X.A (call (.builtin "repr") [u]) (EP X pins σ Q) X.xe s := by
  cases hd with
  | non =>
    cases rx
    refine PySem.P.repr_of_none ⟨.str _, H, I.tok _, ⟨_, rfl⟩, ?_⟩
    simpa only [PyData.shown] using q
  | bl b =>
    cases rx
    refine PySem.P.repr_of_bool ⟨.str _, H, I.tok _, ⟨_, rfl⟩, ?_⟩
    simpa only [PyData.shown] using q
  | int i =>
    obtain ⟨t, rfl⟩ := rx
    refine PySem.P.repr_of_int (by simpa [PyData.showable] using h1) ⟨.str _, H, I.tok _, ⟨_, rfl⟩, ?_⟩
    simpa only [PyData.shown] using q
  | str y =>
    obtain ⟨t, rfl⟩ := rx
    refine PySem.P.repr_of_str ⟨.str _, H, I.tok _, ⟨_, rfl⟩, ?_⟩ (by simpa only [PyData.shown] using size_le h3)
    simpa only [PyData.shown] using q
  | @lst a xs ds hs ha =>
    cases rx
    obtain ⟨as, r⟩ := Dp.reads I (.list ds) (.ref a) (.ref a) (.lst hs ha) rfl
    refine repr_of_reads' r h1 (fun hx => ?_) hg (by omega) (fun _ _ e => e) (fun h' u tk hk => ⟨.str _, H, I.kept hk, ⟨_, rfl⟩, q⟩) (size_le h3)
    exact absurd hx (by rw [dp_noDict (.lst hs ha)]; decide)
  | @tup a xs ds hs ha =>
    cases rx
    obtain ⟨as, r⟩ := Dp.reads I (.tuple ds) (.ref a) (.ref a) (.tup hs ha) rfl
    refine repr_of_reads' r h1 (fun hx => ?_) hg (by omega) (fun _ _ e => e) (fun h' u tk hk => ⟨.str _, H, I.kept hk, ⟨_, rfl⟩, q⟩) (size_le h3)
    exact absurd hx (by rw [dp_noDict (.tup hs ha)]; decide)
where
  dp_noDict {K : PySem.W.Frag} {H : Hp} : ∀ {d : PyData} {v : V}, Dp K H v d → d.hasDict = false
    | _, _, .non => by simp [PyData.hasDict]
    | _, _, .bl b => by simp [PyData.hasDict]
    | _, _, .int i => by simp [PyData.hasDict]
    | _, _, .str x => by simp [PyData.hasDict]
    | _, _, .lst _ h => by simp only [PyData.hasDict]; exact dps_noDict h
    | _, _, .tup _ h => by simp only [PyData.hasDict]; exact dps_noDict h
  dps_noDict {K : PySem.W.Frag} {H : Hp} : ∀ {ds : List PyData} {vs : List V}, DpAll K H vs ds → PyData.hasDictAll ds = false
    | _, _, .nil => by simp [PyData.hasDictAll]
    | _, _, .cons h t => by simp only [PyData.hasDictAll, dp_noDict h, dps_noDict t, Bool.or_self]
theorem call_D (hc : X.calm = true) (hg : X.A.guards = some []) (hu : X.A.units + 66 < cLine) (b : Bi) : CallR X (biV b) (rBi X.K W (biD b)) := by
  intro pins s σ H vs us Q I rv h
  obtain ⟨g, Hk, ds, d, w, r, e, q⟩ := h
  cases b with
  | len =>
    match ds, e with
    | [.tup xs], e =>
      obtain ⟨x, rfl, a, ys, rfl, h1, h2⟩ := len1 r
      simp only [biD, Option.some.injEq] at e
      subst e
      refine call_len_seq pins s σ H _ us Q I rv ⟨a, ys, rfl, .inr (ex_t w.ex h1), ?_⟩
      rw [h2.len]; exact sameI w q
    | [.lst xs], e =>
      obtain ⟨x, rfl, a, ys, rfl, h1, h2⟩ := len1 r
      simp only [biD, Option.some.injEq] at e
      subst e
      refine call_len_seq pins s σ H _ us Q I rv ⟨a, ys, rfl, .inl (SqL.of (w.ex _ _ h1)), ?_⟩
      rw [h2.len]; exact sameI w q
    | [.scr ns], e =>
      obtain ⟨x, rfl, a, rfl, h1⟩ := len1 r
      simp only [biD, Option.some.injEq] at e
      subst e
      refine call_len_seq pins s σ H _ us Q I rv ⟨a, _, rfl, .inl (ex_l w.ex h1), ?_⟩
      rw [List.length_map]; exact sameI w q
    | [.str x], e =>
      obtain ⟨y, rfl, h1⟩ := len1 r
      rw [show y = .str x from h1] at rv
      simp only [biD] at e
      split at e
      · rename_i hz
        cases e
        exact call_len_str pins s σ H _ us Q I rv ⟨x, rfl, size_le hz, sameI w q⟩
      · cases e
    | [.non], e => simp [biD] at e
    | [.bl _], e => simp [biD] at e
    | [.int _], e => simp [biD] at e
    | [.m], e => simp [biD] at e
    | [], e => simp [biD] at e
    | _ :: _ :: _, e => simp [biD] at e
  | all =>
    match ds, e with
    | [.lst xs], e =>
      obtain ⟨x, rfl, a, ys, rfl, h1, h2⟩ := len1 r
      simp only [biD, Option.map_eq_some_iff] at e
      obtain ⟨bs, eb, rfl⟩ := e
      rw [h2.bls eb] at h1
      exact cr_all hc pins s σ H _ us Q I rv ⟨a, bs, rfl, SqL.of (w.ex _ _ h1), sameB w q⟩
    | [.tup _], e => simp [biD] at e
    | [.str _], e => simp [biD] at e
    | [.non], e => simp [biD] at e
    | [.bl _], e => simp [biD] at e
    | [.int _], e => simp [biD] at e
    | [.m], e => simp [biD] at e
    | [.scr _], e => simp [biD] at e
    | [], e => simp [biD] at e
    | _ :: _ :: _, e => simp [biD] at e
  | any =>
    match ds, e with
    | [.lst xs], e =>
      obtain ⟨x, rfl, a, ys, rfl, h1, h2⟩ := len1 r
      simp only [biD, Option.map_eq_some_iff] at e
      obtain ⟨bs, eb, rfl⟩ := e
      rw [h2.bls eb] at h1
      exact cr_any hc pins s σ H _ us Q I rv ⟨a, bs, rfl, SqL.of (w.ex _ _ h1), sameB w q⟩
    | [.tup _], e => simp [biD] at e
    | [.str _], e => simp [biD] at e
    | [.non], e => simp [biD] at e
    | [.bl _], e => simp [biD] at e
    | [.int _], e => simp [biD] at e
    | [.m], e => simp [biD] at e
    | [.scr _], e => simp [biD] at e
    | [], e => simp [biD] at e
    | _ :: _ :: _, e => simp [biD] at e
  | sum =>
    match ds, e with
    | [.lst xs], e =>
      obtain ⟨x, rfl, a, ys, rfl, h1, h2⟩ := len1 r
      simp only [biD, Option.map_eq_some_iff] at e
      obtain ⟨ns, en, rfl⟩ := e
      rw [h2.ints en] at h1
      exact cr_sum hc pins s σ H _ us Q I rv ⟨a, ns, rfl, SqL.of (w.ex _ _ h1), sameI w q⟩
    | [.tup xs], e =>
      obtain ⟨x, rfl, a, ys, rfl, h1, h2⟩ := len1 r
      simp only [biD, Option.map_eq_some_iff] at e
      obtain ⟨ns, en, rfl⟩ := e
      rw [h2.ints en] at h1
      exact cr_sumT hc pins s σ H _ us Q I rv ⟨a, ns, rfl, ex_t w.ex h1, sameI w q⟩
    | [.str _], e => simp [biD] at e
    | [.non], e => simp [biD] at e
    | [.bl _], e => simp [biD] at e
    | [.int _], e => simp [biD] at e
    | [.m], e => simp [biD] at e
    | [.scr _], e => simp [biD] at e
    | [], e => simp [biD] at e
    | _ :: _ :: _, e => simp [biD] at e
  | max =>
    match ds, e with
    | [.lst xs], e =>
      obtain ⟨x, rfl, a, ys, rfl, h1, h2⟩ := len1 r
      simp only [biD, Option.bind_eq_some_iff] at e
      obtain ⟨ns, en, e⟩ := e
      rw [h2.ints en] at h1
      cases ns with
      | nil => cases e
      | cons n ns =>
        cases e
        refine cr_max hc pins s σ H _ us Q I rv ⟨a, n :: ns, rfl, SqL.of (w.ex _ _ h1), by simp, fun m hm hy => ?_⟩
        have e : m = maxI n ns := Int.le_antisymm ((maxI_mem ns n).2 m hm) (hy _ (maxI_mem ns n).1)
        rw [e]; exact sameI w q
    | [.tup _], e => simp [biD] at e
    | [.str _], e => simp [biD] at e
    | [.non], e => simp [biD] at e
    | [.bl _], e => simp [biD] at e
    | [.int _], e => simp [biD] at e
    | [.m], e => simp [biD] at e
    | [.scr _], e => simp [biD] at e
    | [], e => simp [biD] at e
    | _ :: _ :: _, e => simp [biD] at e
  | min =>
    match ds, e with
    | [.lst xs], e =>
      obtain ⟨x, rfl, a, ys, rfl, h1, h2⟩ := len1 r
      simp only [biD, Option.bind_eq_some_iff] at e
      obtain ⟨ns, en, e⟩ := e
      rw [h2.ints en] at h1
      cases ns with
      | nil => cases e
      | cons n ns =>
        cases e
        refine cr_min hc pins s σ H _ us Q I rv ⟨a, n :: ns, rfl, SqL.of (w.ex _ _ h1), by simp, fun m hm hy => ?_⟩
        have e : m = minI n ns := Int.le_antisymm (hy _ (minI_mem ns n).1) ((minI_mem ns n).2 m hm)
        rw [e]; exact sameI w q
    | [.tup _], e => simp [biD] at e
    | [.str _], e => simp [biD] at e
    | [.non], e => simp [biD] at e
    | [.bl _], e => simp [biD] at e
    | [.int _], e => simp [biD] at e
    | [.m], e => simp [biD] at e
    | [.scr _], e => simp [biD] at e
    | [], e => simp [biD] at e
    | _ :: _ :: _, e => simp [biD] at e
  | max2 =>
    have hh : ∃ i j, ds = [.int i, .int j] ∧ d = .int (if i < j then j else i) := by
      match ds, e with
      | [.int i, .int j], e => simp only [biD, Option.some.injEq] at e; exact ⟨i, j, rfl, e.symm⟩
      | [], e => simp [biD] at e
      | [_], e => simp [biD] at e
      | [.int _, .non], e => simp [biD] at e
      | [.int _, .bl _], e => simp [biD] at e
      | [.int _, .str _], e => simp [biD] at e
      | [.int _, .tup _], e => simp [biD] at e
      | [.int _, .lst _], e => simp [biD] at e
      | [.int _, .m], e => simp [biD] at e
      | [.int _, .scr _], e => simp [biD] at e
      | [.non, _], e => simp [biD] at e
      | [.bl _, _], e => simp [biD] at e
      | [.str _, _], e => simp [biD] at e
      | [.tup _, _], e => simp [biD] at e
      | [.lst _, _], e => simp [biD] at e
      | [.m, _], e => simp [biD] at e
      | [.scr _, _], e => simp [biD] at e
      | _ :: _ :: _ :: _, e => simp [biD] at e
    obtain ⟨i, j, rfl, rfl⟩ := hh
    obtain ⟨x, y, rfl, h1, h2⟩ := len2 r
    rw [show x = .int i from h1, show y = .int j from h2] at rv
    exact call_max2 hc pins s σ H _ us Q I rv ⟨i, j, rfl, sameI w q⟩
  | min2 =>
    have hh : ∃ i j, ds = [.int i, .int j] ∧ d = .int (if j < i then j else i) := by
      match ds, e with
      | [.int i, .int j], e => simp only [biD, Option.some.injEq] at e; exact ⟨i, j, rfl, e.symm⟩
      | [], e => simp [biD] at e
      | [_], e => simp [biD] at e
      | [.int _, .non], e => simp [biD] at e
      | [.int _, .bl _], e => simp [biD] at e
      | [.int _, .str _], e => simp [biD] at e
      | [.int _, .tup _], e => simp [biD] at e
      | [.int _, .lst _], e => simp [biD] at e
      | [.int _, .m], e => simp [biD] at e
      | [.int _, .scr _], e => simp [biD] at e
      | [.non, _], e => simp [biD] at e
      | [.bl _, _], e => simp [biD] at e
      | [.str _, _], e => simp [biD] at e
      | [.tup _, _], e => simp [biD] at e
      | [.lst _, _], e => simp [biD] at e
      | [.m, _], e => simp [biD] at e
      | [.scr _, _], e => simp [biD] at e
      | _ :: _ :: _ :: _, e => simp [biD] at e
    obtain ⟨i, j, rfl, rfl⟩ := hh
    obtain ⟨x, y, rfl, h1, h2⟩ := len2 r
    rw [show x = .int i from h1, show y = .int j from h2] at rv
    exact call_min2 hc pins s σ H _ us Q I rv ⟨i, j, rfl, sameI w q⟩
  | maxd =>
    match ds, e with
    | [.lst xs], e =>
      obtain ⟨x, rfl, a, ys, rfl, h1, h2⟩ := len1 r
      simp only [biD] at e
      split at e
      · rename_i hk
        cases xs with
        | nil => cases e
        | cons n ns =>
          cases e
          rw [Vals.ref1 rv]
          exact call_maxd hc hu I w.ex (SqL.of (w.ex _ _ h1)) h2 hk fun v hv => same w hv q
      · cases e
    | [.tup _], e => simp [biD] at e
    | [.str _], e => simp [biD] at e
    | [.non], e => simp [biD] at e
    | [.bl _], e => simp [biD] at e
    | [.int _], e => simp [biD] at e
    | [.m], e => simp [biD] at e
    | [.scr _], e => simp [biD] at e
    | [], e => simp [biD] at e
    | _ :: _ :: _, e => simp [biD] at e
  | mind =>
    match ds, e with
    | [.lst xs], e =>
      obtain ⟨x, rfl, a, ys, rfl, h1, h2⟩ := len1 r
      simp only [biD] at e
      split at e
      · rename_i hk
        cases xs with
        | nil => cases e
        | cons n ns =>
          cases e
          rw [Vals.ref1 rv]
          exact call_mind hc hu I w.ex (SqL.of (w.ex _ _ h1)) h2 hk fun v hv => same w hv q
      · cases e
    | [.tup _], e => simp [biD] at e
    | [.str _], e => simp [biD] at e
    | [.non], e => simp [biD] at e
    | [.bl _], e => simp [biD] at e
    | [.int _], e => simp [biD] at e
    | [.m], e => simp [biD] at e
    | [.scr _], e => simp [biD] at e
    | [], e => simp [biD] at e
    | _ :: _ :: _, e => simp [biD] at e
  | sorted =>
    match ds, e with
    | [.lst xs], e =>
      obtain ⟨x, rfl, a, ys, rfl, h1, h2⟩ := len1 r
      simp only [biD, Option.map_eq_some_iff] at e
      obtain ⟨ns, en, rfl⟩ := e
      rw [h2.ints en] at h1
      refine cr_sortedI pins s σ H _ us Q I rv ⟨a, ns, rfl, SqL.of (w.ex _ _ h1), fun ns' p hp hs hn => ?_⟩
      have e : ns' = sortI ns := PySem.W.ksm_same (hp.trans (sortI_perm ns).symm) hs (sortI_sorted ns)
      rw [e]
      exact new_lst w (RpL.ofInts _) q p hn
    | [.tup xs], e =>
      obtain ⟨x, rfl, a, ys, rfl, h1, h2⟩ := len1 r
      simp only [biD, Option.map_eq_some_iff] at e
      obtain ⟨ns, en, rfl⟩ := e
      rw [h2.ints en] at h1
      refine cr_sortT pins s σ H _ us Q I rv ⟨a, ns, rfl, ex_t w.ex h1, fun ns' p hp hs hn => ?_⟩
      have e : ns' = sortI ns := PySem.W.ksm_same (hp.trans (sortI_perm ns).symm) hs (sortI_sorted ns)
      rw [e]
      exact new_lst w (RpL.ofInts _) q p hn
    | [.str _], e => simp [biD] at e
    | [.non], e => simp [biD] at e
    | [.bl _], e => simp [biD] at e
    | [.int _], e => simp [biD] at e
    | [.m], e => simp [biD] at e
    | [.scr _], e => simp [biD] at e
    | [], e => simp [biD] at e
    | _ :: _ :: _, e => simp [biD] at e
  | tuple =>
    match ds, e with
    | [.lst xs], e =>
      obtain ⟨x, rfl, a, ys, rfl, h1, h2⟩ := len1 r
      simp only [biD, Option.some.injEq] at e
      subst e
      exact call_tuple_of pins s σ H _ us Q I rv ⟨a, ys, rfl, .inl ⟨SqL.of (w.ex _ _ h1), new_tup w h2 q⟩⟩
    | [.tup xs], e =>
      obtain ⟨x, rfl, a, ys, rfl, h1, h2⟩ := len1 r
      simp only [biD, Option.some.injEq] at e
      subst e
      exact call_tuple_of pins s σ H _ us Q I rv ⟨a, ys, rfl, .inr ⟨ex_t w.ex h1, same (d := .tup xs) w ⟨a, ys, rfl, h1, h2⟩ q⟩⟩
    | [.str _], e => simp [biD] at e
    | [.non], e => simp [biD] at e
    | [.bl _], e => simp [biD] at e
    | [.int _], e => simp [biD] at e
    | [.m], e => simp [biD] at e
    | [.scr _], e => simp [biD] at e
    | [], e => simp [biD] at e
    | _ :: _ :: _, e => simp [biD] at e
  | list =>
    match ds, e with
    | [.lst xs], e =>
      obtain ⟨x, rfl, a, ys, rfl, h1, h2⟩ := len1 r
      simp only [biD, Option.some.injEq] at e
      subst e
      exact call_list_of pins s σ H _ us Q I rv ⟨a, ys, rfl, .inl (SqL.of (w.ex _ _ h1)), new_lst w h2 q⟩
    | [.tup xs], e =>
      obtain ⟨x, rfl, a, ys, rfl, h1, h2⟩ := len1 r
      simp only [biD, Option.some.injEq] at e
      subst e
      exact call_list_of pins s σ H _ us Q I rv ⟨a, ys, rfl, .inr (ex_t w.ex h1), new_lst w h2 q⟩
    | [.dct ks ws], e =>
      obtain ⟨x, rfl, a, o, xs, rfl, h1, h2, h3, h4, h5, h6, h7⟩ := len1 r
      simp only [biD] at e
      split at e
      · rename_i hz
        cases e
        rw [Vals.ref1 rv]
        have hl : xs.length = ks.length := by rw [← h6.len, List.length_map]
        exact call_listX hc I h2 (w.ex _ _ h1) h3 (size_le (by rw [hl]; exact hz)) (new_lst w h6 q)
      · cases e
    | [.str _], e => simp [biD] at e
    | [.non], e => simp [biD] at e
    | [.bl _], e => simp [biD] at e
    | [.int _], e => simp [biD] at e
    | [.m], e => simp [biD] at e
    | [.scr _], e => simp [biD] at e
    | [], e => simp [biD] at e
    | _ :: _ :: _, e => simp [biD] at e
  | sortd =>
    match ds, e with
    | [.lst xs], e =>
      obtain ⟨x, rfl, a, ys, rfl, h1, h2⟩ := len1 r
      simp only [biD] at e
      split at e
      · rename_i hk
        simp only [Bool.and_eq_true] at hk
        cases e
        rw [Vals.ref1 rv]
        exact call_sortd hu I w.ex (SqL.of (w.ex _ _ h1)) h2 hk.1 hk.2 fun p acc hp ra => new_lst w ra q p hp
      · cases e
    | [.str _], e => simp [biD] at e
    | [.non], e => simp [biD] at e
    | [.bl _], e => simp [biD] at e
    | [.int _], e => simp [biD] at e
    | [.m], e => simp [biD] at e
    | [.scr _], e => simp [biD] at e
    | [.tup _], e => simp [biD] at e
    | [.dct _ _], e => simp [biD] at e
    | [], e => simp [biD] at e
    | _ :: _ :: _, e => simp [biD] at e
  | int =>
    match ds, e with
    | [.int i], e =>
      obtain ⟨x, rfl, h1⟩ := len1 r
      rw [show x = .int i from h1] at rv
      simp only [biD, Option.some.injEq] at e
      subst e
      exact call_int1 pins s σ H _ us Q I rv (.inl ⟨i, rfl, sameI w q⟩)
    | [.bl b], e =>
      obtain ⟨x, rfl, h1⟩ := len1 r
      rw [show x = .bl b from h1] at rv
      simp only [biD, Option.some.injEq] at e
      subst e
      exact call_int1 pins s σ H _ us Q I rv (.inr ⟨b, rfl, sameI w q⟩)
    | [.tup _], e => simp [biD] at e
    | [.str _], e => simp [biD] at e
    | [.non], e => simp [biD] at e
    | [.lst _], e => simp [biD] at e
    | [.m], e => simp [biD] at e
    | [.scr _], e => simp [biD] at e
    | [], e => simp [biD] at e
    | _ :: _ :: _, e => simp [biD] at e
  | repr =>
    match ds, e with
    | [], e => simp [biD] at e
    | _ :: _ :: _, e => simp [biD] at e
    | [x], e =>
      simp only [biD] at e
      split at e
      · rename_i hh
        simp only [Bool.and_eq_true, decide_eq_true_eq] at hh
        cases e
        obtain ⟨v, rfl, h1⟩ := len1 r
        obtain ⟨u, rfl, ru⟩ := vals1 rv
        exact call_repr_D hg hu I ((h1.mono w.ex).dp hh.1.1.1) ru hh.1.1.2 hh.1.2 hh.2 (sameS w q)
      · cases e
end
end Bk

set_option Elab.async false
set_option linter.all false
set_option maxRecDepth 100000
set_option maxHeartbeats 1000000
/-! What loops walk: lists, tuples, ranges, zip and enumerate over lists and tuples in any mix. -/
namespace PySem
open Sem (wp)
set_option maxHeartbeats 1000000 in
theorem bk_enum_new1 {v : Value} {o : Obj} {H : Heap → Prop} (B : Begins v o H) :
    Meets (Builtin.«enumerate.__new__» ⟨[.type "enumerate", v], []⟩) (fun _ R s => H s.heap ∧
      R (.ok (.ret (.ref (s.heap.push o).objs.size))) { s with heap := (s.heap.push o).push { cls := .type "enumerate", data := .fields #[.none, .bool false, .ref s.heap.objs.size, rawInt 0, .none, .none] } }) :=
  .of_wp fun prog w A R s h => by
    obtain ⟨hp, g, d, tk, os⟩ := s; obtain ⟨h1, h⟩ := h
    have hsub := sub_enumerate
    have q1 : ∀ {A' : Around} {E : Value → Shared → Prop} {Q : Value → Shared → Prop}, Q (.ref hp.objs.size) ⟨hp.push o, g, d, tk, os⟩ → wpAny (model prog w) A' (pyIter v) Q E ⟨hp, g, d, tk, os⟩ :=
      fun q => B.iter prog w _ _ ⟨hp, g, d, tk, os⟩ _ h1 q
    wp_walk using q1
    refine wpAny_stack_any fun st => wpAny_pure ?_
    split
    · rename_i c _ _ _ _ _
      cases (c == Value.type "enumerate")
      · wp_walk using q1
        exact ⟨_, rfl, h⟩
      · wp_walk using q1
        exact ⟨_, rfl, h⟩
    · wp_walk using q1
      exact ⟨_, rfl, h⟩
theorem bk_enum_begins1 {prog : Program} {w : World} {A : Around} {E : Value → Shared → Prop} {s : Shared} {v : Value} {o : Obj} {H : Heap → Prop} {Q : Value → Shared → Prop} (B : Begins v o H) (h1 : H s.heap)
    (h : ∀ h', IsEnum h' (s.heap.objs.size + 1) s.heap.objs.size 0 .none → h'.get? s.heap.objs.size = some o → h'.objs.size = s.heap.objs.size + 2 →
      (∀ b o, s.heap.get? b = some o → h'.get? b = some o) → Q (.ref (s.heap.objs.size + 1)) { s with heap := h' }) :
    wpAny (model prog w) A (call (.type "enumerate") [v]) Q E s := by
  refine callType_new F.called_enumerate (by decide) (F.typeCall_enumerate_1 _) (F.newCall_enumerate_1 _) (fun obj => F.args_object_init_2 obj _) F.entry_enumerate_new
    (bk_enum_new1 B) ⟨h1, ?_⟩
  have hz : (s.heap.push o).objs.size = s.heap.objs.size + 1 := Heap.size_push ..
  show _ ∧ _
  rw [hz]
  have he : IsEnum ((s.heap.push o).push { cls := .type "enumerate", data := .fields #[.none, .bool false, .ref s.heap.objs.size, rawInt 0, .none, .none] }) (s.heap.objs.size + 1) s.heap.objs.size 0 .none := by
    have := Heap.get?_push_size (s.heap.push o) (o := { cls := .type "enumerate", data := .fields #[.none, .bool false, .ref s.heap.objs.size, rawInt 0, .none, .none] }) rfl
    rw [hz] at this; exact this
  refine ⟨⟨_, he, rfl⟩, h _ he (Heap.get?_push_of_some _ (Heap.get?_push_size _ B.free)) (by rw [Heap.size_push, hz]) fun b o x => Heap.get?_push_of_some _ (Heap.get?_push_of_some _ x)⟩
end PySem
namespace Bk
open PySem L2
open Evl (Ex ex_l ex_t)
/-! ### a list (true) or a tuple (false) -/
def qI : Bool → Heap → Addr → Addr → Nat → Prop
  | true, h, it, a, i => h.IsListIter it a i
  | false, h, it, a, i => h.IsTupleIter it a i
def qS : Bool → Heap → Addr → Array Value → Prop
  | true, h, a, its => h.IsList a its
  | false, h, a, its => h.IsTuple a its
def SqB (K : PySem.W.Frag) : Bool → Hp → Addr → List V → Prop
  | true, H, a, xs => SqL K H a xs
  | false, H, a, xs => SqT K H a xs
def itO : Bool → Addr → Obj
  | true, a => { cls := .type "list_iterator", data := .fields #[.ref a, .int 0 0] }
  | false, a => { cls := .type "tuple_iterator", data := .fields #[.ref a, .int 0 0] }
theorem qI.at : ∀ {b : Bool} {h h' : Heap} {it a : Addr} {i : Nat}, qI b h it a i → (∀ o, h.get? it = some o → h'.get? it = some o) → qI b h' it a i
  | true, _, _, _, _, _, q, k => Heap.IsListIter.at q k
  | false, _, _, _, _, _, q, k => Heap.IsTupleIter.at q k
theorem qI.obj : ∀ {b : Bool} {h : Heap} {it a : Addr} {i : Nat}, qI b h it a i → ∃ o, h.get? it = some o ∧ ∀ v, o.data ≠ .cell v
  | true, _, _, _, _, ⟨o, e, _, d⟩ => ⟨o, e, fun v z => by rw [d] at z; cases z⟩
  | false, _, _, _, _, ⟨o, e, _, d⟩ => ⟨o, e, fun v z => by rw [d] at z; cases z⟩
theorem qI_new : ∀ (b : Bool) {h : Heap} {it a : Addr}, h.get? it = some (itO b a) → qI b h it a 0
  | true, _, _, _, e => ⟨_, e, rfl, rfl⟩
  | false, _, _, _, e => ⟨_, e, rfl, rfl⟩
theorem qS_lt : ∀ {b : Bool} {h : Heap} {a : Addr} {its : Array Value}, qS b h a its → a < h.objs.size
  | true, _, _, _, q => by obtain ⟨_, e, _⟩ := q; exact Heap.lt_size e
  | false, _, _, _, q => by obtain ⟨_, e, _⟩ := q; exact Heap.lt_size e
theorem begins_B : ∀ (b : Bool) (a : Addr) (its : Array Value), Begins (.ref a) (itO b a) (fun h => qS b h a its)
  | true, a, its => begins_list a its
  | false, a, its => begins_tuple a its
theorem draws_B {prog : Program} {w : World} {A : Around} (hh : A.handled = none) : ∀ (b : Bool) (it a : Addr) (hne : a ≠ it) (its : Array Value),
    Draws prog w A it [it, a] its.size (fun i v => its[i]? = some v) (fun i h => qI b h it a i ∧ qS b h a its)
  | true, it, a, hne, its => Draws.list hh it a hne its
  | false, it, a, hne, its => Draws.tuple hh it a hne its
section
variable {X : Cx} {pins : List (Addr × Obj)} {σ : St} {H : Hp} {s : Shared}
theorem inv_seqB (I : L2.Inv X pins σ H s) : ∀ {b : Bool} {a : Addr} {xs : List V}, SqB X.K b H a xs → ∃ its : List Value, Vals xs its ∧ qS b s.heap a its.toArray ∧ xs.length ≤ sizeLine
  | true, a, xs, h => by obtain ⟨its, r, p, z⟩ := I.list h; exact ⟨its, r, p.isList, z⟩
  | false, a, xs, h => by obtain ⟨its, r, p, z⟩ := I.tuple h; exact ⟨its, r, p, z⟩
theorem inv_seqB_inj (I : L2.Inv X pins σ H s) : ∀ {b : Bool} {a : Addr} {xs ys : List V}, SqB X.K b H a xs → SqB X.K b H a ys → xs = ys
  | true, _, _, _, h, h' => I.list_inj h h'
  | false, _, _, _, h, h' => I.tuple_inj h h'
end
/-! ### zip -/
def ItzB (K : PySem.W.Frag) (b1 b2 : Bool) (a b : Addr) : It :=
  ⟨fun i H => ∃ (xs ys : List V) (x y : V), SqB K b1 H a xs ∧ SqB K b2 H b ys ∧ xs[i]? = some x ∧ ys[i]? = some y,
    fun i H v H' => ∃ T x y, v = .ref T ∧ H T = none ∧ H' = upd H T (.tup [x, y]) ∧ (∀ xs, SqB K b1 H a xs → xs[i]? = some x) ∧ ∀ ys, SqB K b2 H b ys → ys[i]? = some y,
    fun i H => ∃ xs ys : List V, SqB K b1 H a xs ∧ SqB K b2 H b ys ∧ i = min xs.length ys.length⟩
theorem turn_zipB {P : Program} {w : World} {K : PySem.W.Frag} {elts : List Expr} {kk : Nat} {tpos : Pos} {b1 b2 : Bool} {a b z TI TO i1 i2 : Addr} (S : ZipSep2 z TI TO i1 i2 [i1, a] [i2, b]) (h1 : a ≠ i1) (h2 : b ≠ i2) :
    Turn P w K (.Tuple elts kk tpos) (ItzB K b1 b2 a b) [z, TI, TO, i1, i2] z
      (fun i h => IsZip h z TI TO .none ∧ IsTupOf2 h TI (.ref i1) (.ref i2) ∧ (∃ x y, IsTupOf2 h TO x y) ∧ qI b1 h i1 a i ∧ qI b2 h i2 b i) where
  mem := by simp
  obj := fun i h st c hc => by
    obtain ⟨hz, hTI, ⟨x, y, hTO⟩, q1, q2⟩ := st
    have e' : c = z ∨ c = TI ∨ c = TO ∨ c = i1 ∨ c = i2 := by simpa using hc
    rcases e' with q | q | q | q | q
    · rw [q]; exact ⟨_, hz, fun v r => nomatch r⟩
    · rw [q]; exact ⟨_, hTI, fun v r => nomatch r⟩
    · rw [q]; exact ⟨_, hTO, fun v r => nomatch r⟩
    · rw [q]; exact q1.obj
    · rw [q]; exact q2.obj
  keep := fun i h h' st k => by
    obtain ⟨hz, hTI, ⟨x, y, hTO⟩, q1, q2⟩ := st
    exact ⟨k z (by simp) _ hz, k TI (by simp) _ hTI, ⟨x, y, k TO (by simp) _ hTO⟩, q1.at fun o e => k i1 (by simp) o e, q2.at fun o e => k i2 (by simp) o e⟩
  item := by
    intro X hP hw hK hc i pins s σ H E I hf st hg
    subst hP hw hK
    obtain ⟨hz, hTI, hTO, q1, q2⟩ := st
    obtain ⟨xs, ys, x, y, hx, hy, ex, ey⟩ := hg
    obtain ⟨its1, r1, s1, z1⟩ := inv_seqB I hx
    obtain ⟨its2, r2, s2, z2⟩ := inv_seqB I hy
    have hh := I.ok.hd hc
    have WT := WalksT.zipD2 (prog := X.prog) (w := X.w) (A := X.A) S (draws_B (A := X.A.in1) hh b1 i1 a h1 its1.toArray) (draws_B (A := X.A.in1) hh b2 i2 b h2 its2.toArray)
    have l1 : i < its1.toArray.size := by rw [List.size_toArray, ← r1.length]; exact (List.getElem?_eq_some_iff.mp ex).1
    have l2 : i < its2.toArray.size := by rw [List.size_toArray, ← r2.length]; exact (List.getElem?_eq_some_iff.mp ey).1
    refine WT.item i s _ E (by omega) ⟨hz, hTI, hTO, ⟨q1, s1⟩, ⟨q2, s2⟩⟩ fun T vals h' tk hp hsz hT hm hk => ⟨_, rfl, ?_⟩
    refine WT.go elts kk tpos i T { s with heap := h', toks := tk } _ E hm fun h'' st'' hk'' => ?_
    obtain ⟨v1, v2, e1, e2, rfl⟩ := hp
    obtain ⟨u1, f1, ru1⟩ := r1.get ex
    obtain ⟨u2, f2, ru2⟩ := r2.get ey
    have g1 : u1 = v1 := by rw [List.getElem?_toArray, f1] at e1; exact Option.some.inj e1
    have g2 : u2 = v2 := by rw [List.getElem?_toArray, f2] at e2; exact Option.some.inj e2
    subst g1 g2
    obtain ⟨oT, hoT, cT, nT, dT⟩ := hT
    have hT2 : h''.get? T = some oT := hk'' T oT (WT.apart _ _ _ hm) hoT
    have new : ObjOk X.prog X.w (upd H T (.tup [x, y])) h'' T (.tup [x, y]) := ⟨by show 2 ≤ sizeLine; decide, [u1, u2], .cons ru1 (.cons ru2 .nil), ⟨_, hT2, cT, nT, dT⟩⟩
    have sub : ∀ c, c ∉ [z, TI, TO, i1, i2] → c ∉ [z, TO, i1, i2] := fun c hc hm => hc (by
      have e' : c = z ∨ c = TO ∨ c = i1 ∨ c = i2 := by simpa using hm
      rcases e' with q | q | q | q <;> simp [q])
    have I1 : L2.Inv X pins σ (upd H T (.tup [x, y])) { s with heap := h'', toks := tk } :=
      I.turnedNew (ch := [z, TI, TO, i1, i2]) (fun c o hc e => hk'' c o (sub c hc) (hk c o (sub c hc) e)) hf hsz new
    obtain ⟨w1, w2, w3, w4, w5⟩ := st''
    refine ⟨.ref T, _, I1, rfl, ⟨T, x, y, rfl, I.hok.fresh hsz, rfl, fun zs hz => by rw [inv_seqB_inj I hz hx]; exact ex, fun zs hz => by rw [inv_seqB_inj I hz hy]; exact ey⟩, ⟨w1, w2, w3, w4.1, w5.1⟩, fun c hc => ?_⟩
    obtain ⟨o, ho, _⟩ : ∃ o, s.heap.get? c = some o ∧ True := by
      have e' : c = z ∨ c = TI ∨ c = TO ∨ c = i1 ∨ c = i2 := by simpa using hc
      obtain ⟨x0, y0, hTO⟩ := hTO
      rcases e' with q | q | q | q | q
      · rw [q]; exact ⟨_, hz, trivial⟩
      · rw [q]; exact ⟨_, hTI, trivial⟩
      · rw [q]; exact ⟨_, hTO, trivial⟩
      · rw [q]; obtain ⟨o, e, _⟩ := q1.obj; exact ⟨o, e, trivial⟩
      · rw [q]; obtain ⟨o, e, _⟩ := q2.obj; exact ⟨o, e, trivial⟩
    rw [upd_ne (Nat.ne_of_lt (Nat.lt_of_lt_of_le (Heap.lt_size ho) hsz))]
    exact (hf c hc).1
  done := by
    intro X hP hw hK hc i pins s σ H E I hf st hg
    subst hP hw hK
    obtain ⟨hz, hTI, hTO, q1, q2⟩ := st
    obtain ⟨xs, ys, hx, hy, hi⟩ := hg
    obtain ⟨its1, r1, s1, z1⟩ := inv_seqB I hx
    obtain ⟨its2, r2, s2, z2⟩ := inv_seqB I hy
    have hh := I.ok.hd hc
    have WT := WalksT.zipD2 (prog := X.prog) (w := X.w) (A := X.A) S (draws_B (A := X.A.in1) hh b1 i1 a h1 its1.toArray) (draws_B (A := X.A.in1) hh b2 i2 b h2 its2.toArray)
    have hl : i = min its1.toArray.size its2.toArray.size := by rw [List.size_toArray, List.size_toArray, ← r1.length, ← r2.length]; exact hi
    subst hl
    refine WT.done s _ E ⟨hz, hTI, hTO, ⟨q1, s1⟩, ⟨q2, s2⟩⟩ fun h' tk hk => ⟨rfl, I.turnedL (ch := [z, TI, TO, i1, i2]) (fun c o hc e => hk c o (fun hm => hc ?_) e) hf⟩
    have e' : c = z ∨ c = TO ∨ c = i1 ∨ c = i2 := by simpa using hm
    rcases e' with q | q | q | q <;> simp [q]
  self := fun A i s Q E st h => wpAny_pyIter_zip st.1 h
def iZipB (K : PySem.W.Frag) (ta : TA) : TI := fun σ H R => ta σ H fun vs H1 => ∃ b1 b2 a b xs ys, vs = [.ref a, .ref b] ∧ SqB K b1 H1 a xs ∧ SqB K b2 H1 b ys ∧ R (ItzB K b1 b2 a b) H1
theorem pi_zipB {X : Cx} {e e2 : Expr} {ta : TA} {p pos tpos : Pos} {elts : List Expr} {kk : Nat} (hg : Gl X "zip") (hm : X.mg "zip" = none) (ha : PA X [e, e2] ta)
    (hs : starEach [e, e2] X.env = (false, eval e X.env) :: starEach [e2] X.env) (hpl : (backTo pos (starEach [e2] X.env)).any (·.1) = false) :
    PI X (.Tuple elts kk tpos) (.Call (.Name "zip" p) [e, e2] [] pos) (iZipB X.K ta) := by
  refine ⟨fun pins s σ H R I h => ?_⟩
  refine PyProof.Rows.Call_ (ld_blt I hg hm PyProof.Rows.boot_zip (PyProof.Rows.callWith_type1 (thn (ha.run pos pins s σ H _ I h) fun us s1 ⟨vs, H1, I1, r1, q1⟩ => ?_) hs hpl))
  obtain ⟨b1, b2, a, b, xs, ys, ex, hqx, hqy, q⟩ := q1
  subst ex
  obtain ⟨u1, u2, rfl, ru1, ru2⟩ := vals2 r1
  cases ru1
  cases ru2
  obtain ⟨its1, rv1, p1, _⟩ := inv_seqB I1 hqx
  obtain ⟨its2, rv2, p2, _⟩ := inv_seqB I1 hqy
  have la := qS_lt p1
  have lb := qS_lt p2
  refine zip_begins2 (begins_B b1 a its1.toArray) (begins_B b2 b its2.toArray) p1 p2 fun h' hz hTI hTO h1 h2 hsz hk => wpAny_pyIter_zip hz ?_
  have I2 : L2.Inv X pins σ H1 { s1 with heap := h' } := I1.kept (t' := s1.toks) hk
  refine ⟨s1.heap.objs.size + 4, [s1.heap.objs.size + 4, s1.heap.objs.size + 2, s1.heap.objs.size + 3, s1.heap.objs.size, s1.heap.objs.size + 1], _, _, H1, rfl, I2,
    turn_zipB (zip_sep2 (fun c hc => by simp at hc; rw [hc]; exact la) (fun c hc => by simp at hc; rw [hc]; exact lb)) (Nat.ne_of_lt la) (Nat.ne_of_lt (Nat.lt_succ_of_lt lb)), ⟨hz, hTI, ⟨_, _, hTO⟩, qI_new _ h1, qI_new _ h2⟩, fun c hcm => ?_, q⟩
  have e' : c = s1.heap.objs.size + 4 ∨ c = s1.heap.objs.size + 2 ∨ c = s1.heap.objs.size + 3 ∨ c = s1.heap.objs.size ∨ c = s1.heap.objs.size + 1 := by simpa using hcm
  have hle : s1.heap.objs.size ≤ c := by
    rcases e' with z | z | z | z | z
    · rw [z]; exact Nat.le_add_right _ _
    · rw [z]; exact Nat.le_add_right _ _
    · rw [z]; exact Nat.le_add_right _ _
    · rw [z]; exact Nat.le_refl _
    · rw [z]; exact Nat.le_add_right _ _
  exact I1.fpOk hle (I1.hok.fresh hle)
/-! ### enumerate -/
def IteB (K : PySem.W.Frag) (b : Bool) (a : Addr) : It :=
  ⟨fun i H => ∃ (xs : List V) (x : V), SqB K b H a xs ∧ xs[i]? = some x, fun i H v H' => ∃ T x, v = .ref T ∧ H T = none ∧ H' = upd H T (.tup [.int (i : Nat), x]) ∧ ∀ xs, SqB K b H a xs → xs[i]? = some x, fun i H => ∃ xs : List V, SqB K b H a xs ∧ xs.length = i⟩
theorem turn_enumB {P : Program} {w : World} {K : PySem.W.Frag} {elts : List Expr} {kk : Nat} {tpos : Pos} {b : Bool} {a e it : Addr} (hae : a ≠ e) (hai : a ≠ it) (hei : e ≠ it) :
    Turn P w K (.Tuple elts kk tpos) (IteB K b a) [e, it] e (fun i h => (∃ old, IsEnum h e it (0 + ((i : Nat) : Int)) old) ∧ qI b h it a i) where
  mem := by simp
  obj := fun i h st c hc => by
    obtain ⟨⟨old, he⟩, q⟩ := st
    have e' : c = e ∨ c = it := by simpa using hc
    rcases e' with z | z
    · rw [z]; exact ⟨_, he, fun v q => nomatch q⟩
    · rw [z]; exact q.obj
  keep := fun i h h' st k => let ⟨⟨old, he⟩, q⟩ := st; ⟨⟨old, k e (by simp) _ he⟩, q.at fun o z => k it (by simp) o z⟩
  item := by
    intro X hP hw hK hc i pins s σ H E I hf st hg
    subst hP hw hK
    obtain ⟨he, q⟩ := st
    obtain ⟨xs, x, hx, ex⟩ := hg
    obtain ⟨its, r, p, hz⟩ := inv_seqB I hx
    have hh := I.ok.hd hc
    have WT := WalksT.enumFrom (prog := X.prog) (w := X.w) (A := X.A) 0 (draws_B (A := X.A.in1) hh b it a hai its.toArray) e hei (by simp [hei, Ne.symm hae]) (by simp)
    have l1 : i < its.toArray.size := by rw [List.size_toArray, ← r.length]; exact (List.getElem?_eq_some_iff.mp ex).1
    refine WT.item i s _ E l1 ⟨he, q, p⟩ fun T vals h' tk hp hsz hT hm hk => ⟨_, rfl, ?_⟩
    refine WT.go elts kk tpos i T { s with heap := h', toks := tk } _ E hm fun h'' st'' hk'' => ?_
    obtain ⟨t0, v1, e1, rfl⟩ := hp
    obtain ⟨u1, f1, ru1⟩ := r.get ex
    have g1 : u1 = v1 := by rw [List.getElem?_toArray, f1] at e1; exact Option.some.inj e1
    subst g1
    obtain ⟨oT, hoT, cT, nT, dT⟩ := hT
    have hT2 : h''.get? T = some oT := hk'' T oT (WT.apart _ _ _ hm) hoT
    have e0 : (0 : Int) + (i : Int) = ((i : Nat) : Int) := Int.zero_add _
    rw [e0] at dT
    have new : ObjOk X.prog X.w (upd H T (.tup [.int (i : Nat), x])) h'' T (.tup [.int (i : Nat), x]) := ⟨by show 2 ≤ sizeLine; decide, [.int i t0, u1], .cons ⟨_, rfl⟩ (.cons ru1 .nil), ⟨_, hT2, cT, nT, dT⟩⟩
    have I1 : L2.Inv X pins σ (upd H T (.tup [.int (i : Nat), x])) { s with heap := h'', toks := tk } :=
      I.turnedNew (ch := [e, it]) (fun c o hc z => hk'' c o hc (hk c o hc z)) hf hsz new
    refine ⟨.ref T, _, I1, rfl, ⟨T, x, rfl, I.hok.fresh hsz, rfl, fun zs hz => by rw [inv_seqB_inj I hz hx]; exact ex⟩, ⟨st''.1, st''.2.1⟩, fun c hc => ?_⟩
    obtain ⟨o, ho, _⟩ : ∃ o, s.heap.get? c = some o ∧ True := by
      have e' : c = e ∨ c = it := by simpa using hc
      obtain ⟨old, he⟩ := he
      rcases e' with z | z
      · rw [z]; exact ⟨_, he, trivial⟩
      · rw [z]; obtain ⟨o, e, _⟩ := q.obj; exact ⟨o, e, trivial⟩
    rw [upd_ne (Nat.ne_of_lt (Nat.lt_of_lt_of_le (Heap.lt_size ho) hsz))]
    exact (hf c hc).1
  done := by
    intro X hP hw hK hc i pins s σ H E I hf st hg
    subst hP hw hK
    obtain ⟨he, q⟩ := st
    obtain ⟨xs, hx, hi⟩ := hg
    obtain ⟨its, r, p, hz⟩ := inv_seqB I hx
    have hh := I.ok.hd hc
    have WT := WalksT.enumFrom (prog := X.prog) (w := X.w) (A := X.A) 0 (draws_B (A := X.A.in1) hh b it a hai its.toArray) e hei (by simp [hei, Ne.symm hae]) (by simp)
    have hl : i = its.toArray.size := by rw [List.size_toArray, ← r.length]; exact hi.symm
    subst hl
    exact WT.done s _ E ⟨he, q, p⟩ fun h' tk hk => ⟨rfl, I.turnedL (ch := [e, it]) (fun c o hc z => hk c o hc z) hf⟩
  self := fun A i s Q E st h => let ⟨⟨_, he⟩, _⟩ := st; wpAny_pyIter_enum he h
def iEnumB (K : PySem.W.Frag) (ta : TA) : TI := fun σ H R => ta σ H fun vs H1 => ∃ b a xs, vs = [.ref a] ∧ SqB K b H1 a xs ∧ R (IteB K b a) H1
theorem pi_enumB {X : Cx} {e : Expr} {ta : TA} {p pos tpos : Pos} {elts : List Expr} {kk : Nat} (hg : Gl X "enumerate") (hm : X.mg "enumerate" = none) (ha : PA X [e] ta) (hs : starEach [e] X.env = [(false, eval e X.env)]) :
    PI X (.Tuple elts kk tpos) (.Call (.Name "enumerate" p) [e] [] pos) (iEnumB X.K ta) := by
  refine ⟨fun pins s σ H R I h => ?_⟩
  refine PyProof.Rows.Call_ (ld_blt I hg hm PyProof.Rows.boot_enumerate (PyProof.Rows.callWith_type1 (thn (ha.run pos pins s σ H _ I h) fun us s1 ⟨vs, H1, I1, r1, q1⟩ => ?_) hs rfl))
  obtain ⟨b, a, xs, ex, hq, q⟩ := q1
  subst ex
  obtain ⟨u, rfl, ru⟩ := vals1 r1
  cases ru
  obtain ⟨its, rv, p', hz⟩ := inv_seqB I1 hq
  have la := qS_lt p'
  refine bk_enum_begins1 (begins_B b a its.toArray) p' fun h' he hit hsz hk => wpAny_pyIter_enum he ?_
  have I2 : L2.Inv X pins σ H1 { s1 with heap := h' } := I1.kept (t' := s1.toks) hk
  refine ⟨s1.heap.objs.size + 1, [s1.heap.objs.size + 1, s1.heap.objs.size], _, _, H1, rfl, I2, turn_enumB (Nat.ne_of_lt (Nat.lt_succ_of_lt la)) (Nat.ne_of_lt la) (Nat.succ_ne_self _), ⟨⟨.none, he⟩, qI_new _ hit⟩, fun c hc => ?_, q⟩
  have e' : c = s1.heap.objs.size + 1 ∨ c = s1.heap.objs.size := by simpa using hc
  have hle : s1.heap.objs.size ≤ c := by
    rcases e' with z | z
    · rw [z]; exact Nat.le_add_right _ _
    · rw [z]; exact Nat.le_refl _
  exact I1.fpOk hle (I1.hok.fresh hle)

/-! ### what is walked, as plain data -/
structure ItOk (K : PySem.W.Frag) (W : Wd) (J : It) (ds : List D) (Hk0 : Hp) : Prop where
  len : ds.length ≤ sizeLine
  go : ∀ i Hk H g, i < ds.length → Ex Hk0 Hk → Wk W g Hk H → J.go i H
  yld : ∀ i Hk H g x H' d, ds[i]? = some d → Ex Hk0 Hk → Wk W g Hk H → J.yld i H x H' → ∃ Hk', Step W Hk H Hk' H' ∧ DrawAt W g H' ∧ Rp K W Hk' d x
  stop : ∀ i Hk H g, i = ds.length → Ex Hk0 Hk → Wk W g Hk H → J.stop i H
section
variable {K : PySem.W.Frag} {W : Wd} {Hk0 : Hp}
theorem itOk_list {a : Addr} {xs : List V} {ds : List D} (hz : xs.length ≤ sizeLine) (h : Hk0 a = some (.lst xs)) (r : RpL K W Hk0 ds xs) : ItOk K W (Itl K a) ds Hk0 where
  len := by rw [← r.len]; exact hz
  go := fun i Hk H g hi e w => by
    have : i < xs.length := by rw [r.len]; exact hi
    exact ⟨xs, xs[i], SqL.of (w.ex _ _ (e _ _ h)), by simp [this]⟩
  yld := fun i Hk H g x H' d hd e w y => by
    obtain ⟨e1, hx⟩ := y
    subst e1
    obtain ⟨v, ev, rv⟩ := (r.mono e).get hd
    have e2 := hx xs (SqL.of (w.ex _ _ (e _ _ h)))
    rw [ev] at e2
    cases e2
    exact ⟨Hk, Step.refl w.ex, w.dr, rv⟩
  stop := fun i Hk H g hi e w => ⟨xs, SqL.of (w.ex _ _ (e _ _ h)), by rw [r.len, hi]; exact Nat.le_refl _⟩
theorem itOk_tup {a : Addr} {xs : List V} {ds : List D} (hz : xs.length ≤ sizeLine) (h : SqT K Hk0 a xs) (r : RpL K W Hk0 ds xs) : ItOk K W (Itt K a) ds Hk0 where
  len := by rw [← r.len]; exact hz
  go := fun i Hk H g hi e w => by
    have : i < xs.length := by rw [r.len]; exact hi
    exact ⟨xs, xs[i], ex_t w.ex (ex_t e h), by simp [this]⟩
  yld := fun i Hk H g x H' d hd e w y => by
    obtain ⟨e1, hx⟩ := y
    subst e1
    obtain ⟨v, ev, rv⟩ := (r.mono e).get hd
    have e2 := hx xs (ex_t w.ex (ex_t e h))
    rw [ev] at e2
    cases e2
    exact ⟨Hk, Step.refl w.ex, w.dr, rv⟩
  stop := fun i Hk H g hi e w => ⟨xs, ex_t w.ex (ex_t e h), by rw [r.len, hi]; exact Nat.le_refl _⟩
theorem rngD_len : ∀ (n : Nat) (a : Int), (rngD a n).length = n
  | 0, _ => rfl
  | n + 1, a => by rw [rngD, List.length_cons, rngD_len n]
theorem rngD_get : ∀ (n : Nat) (a : Int) (i : Nat) (d : D), (rngD a n)[i]? = some d → d = .int (a + i)
  | 0, _, _, _, h => by simp [rngD] at h
  | n + 1, a, 0, d, h => by simp [rngD] at h; rw [← h]; simp
  | n + 1, a, i + 1, d, h => by
    have := rngD_get n (a + 1) i d (by simpa [rngD] using h)
    rw [this]
    congr 1
    omega
theorem itOk_rng (lo : Int) (n : Nat) (hz : n ≤ 2000000) : ItOk K W (Itr lo n) (rngD lo n) Hk0 where
  len := by rw [rngD_len]; exact Nat.le_trans hz (by decide)
  go := fun i Hk H g hi e w => by rw [rngD_len] at hi; exact hi
  yld := fun i Hk H g x H' d hd e w y => by
    obtain ⟨e1, hx⟩ := y
    subst e1
    rw [rngD_get _ _ _ _ hd, hx]
    exact ⟨Hk, Step.refl w.ex, w.dr, rfl⟩
  stop := fun i Hk H g hi e w => by rw [rngD_len] at hi; exact Nat.le_of_eq hi.symm
theorem zipD_len : ∀ xs ys : List D, (zipD xs ys).length = min xs.length ys.length
  | [], _ => by simp [zipD]
  | _ :: _, [] => by simp [zipD]
  | x :: xs, y :: ys => by rw [zipD, List.length_cons, zipD_len, List.length_cons, List.length_cons]; omega
theorem zipD_get : ∀ (xs ys : List D) (i : Nat) (d : D), (zipD xs ys)[i]? = some d → ∃ x y, xs[i]? = some x ∧ ys[i]? = some y ∧ d = .tup [x, y]
  | [], _, _, _, h => by simp [zipD] at h
  | _ :: _, [], _, _, h => by simp [zipD] at h
  | x :: xs, y :: ys, 0, d, h => by simp [zipD] at h; exact ⟨x, y, rfl, rfl, h.symm⟩
  | x :: xs, y :: ys, i + 1, d, h => by simpa using zipD_get xs ys i d (by simpa [zipD] using h)
theorem enumD_len : ∀ (xs : List D) (n : Int), (enumD n xs).length = xs.length
  | [], _ => rfl
  | x :: xs, n => by rw [enumD, List.length_cons, enumD_len xs, List.length_cons]
theorem enumD_get : ∀ (xs : List D) (n : Int) (i : Nat) (d : D), (enumD n xs)[i]? = some d → ∃ x, xs[i]? = some x ∧ d = .tup [.int (n + i), x]
  | [], _, _, _, h => by simp [enumD] at h
  | x :: xs, n, 0, d, h => by simp [enumD] at h; exact ⟨x, rfl, by rw [← h]; simp⟩
  | x :: xs, n, i + 1, d, h => by
    obtain ⟨y, h1, h2⟩ := enumD_get xs (n + 1) i d (by simpa [enumD] using h)
    refine ⟨y, by simpa using h1, ?_⟩
    rw [h2]
    congr 3
    omega
theorem sqB_mono {b : Bool} {H H' : Hp} {a : Addr} {xs : List V} (e : Ex H H') (h : SqB K b H a xs) : SqB K b H' a xs := by
  cases b
  · exact ex_t e h
  · exact ex_l e h
theorem itOk_zip {b1 b2 : Bool} {a b : Addr} {xs ys : List V} {ds es : List D} (h1 : SqB K b1 Hk0 a xs) (h2 : SqB K b2 Hk0 b ys) (r1 : RpL K W Hk0 ds xs) (r2 : RpL K W Hk0 es ys) (hz : xs.length ≤ sizeLine) : ItOk K W (ItzB K b1 b2 a b) (zipD ds es) Hk0 where
  len := by rw [zipD_len, ← r1.len]; exact Nat.le_trans (Nat.min_le_left _ _) hz
  go := fun i Hk H g hi e w => by
    rw [zipD_len] at hi
    have l1 : i < xs.length := by rw [r1.len]; omega
    have l2 : i < ys.length := by rw [r2.len]; omega
    exact ⟨xs, ys, xs[i], ys[i], sqB_mono w.ex (sqB_mono e h1), sqB_mono w.ex (sqB_mono e h2), by simp [l1], by simp [l2]⟩
  yld := fun i Hk H g v H' d hd e w y => by
    obtain ⟨T, x, y, rfl, hT, rfl, hx, hy⟩ := y
    obtain ⟨dx, dy, e1, e2, rfl⟩ := zipD_get _ _ _ _ hd
    obtain ⟨v1, f1, g1⟩ := (r1.mono e).get e1
    obtain ⟨v2, f2, g2⟩ := (r2.mono e).get e2
    have k1 := hx xs (sqB_mono w.ex (sqB_mono e h1))
    have k2 := hy ys (sqB_mono w.ex (sqB_mono e h2))
    rw [f1] at k1
    rw [f2] at k2
    cases k1
    cases k2
    have s : Step W Hk H (upd Hk T (.tup [x, y])) (upd H T (.tup [x, y])) := Step.new w.ex hT
    exact ⟨_, s, w.dr.upd (ex_upd_out w.dr hT), T, [x, y], rfl, SqT.of upd_same, .cons (g1.mono s.k) (.cons (g2.mono s.k) .nil)⟩
  stop := fun i Hk H g hi e w => ⟨xs, ys, sqB_mono w.ex (sqB_mono e h1), sqB_mono w.ex (sqB_mono e h2), by rw [hi, zipD_len, r1.len, r2.len]⟩
theorem itOk_enum {b : Bool} {a : Addr} {xs : List V} {ds : List D} (h1 : SqB K b Hk0 a xs) (r1 : RpL K W Hk0 ds xs) (hz : xs.length ≤ sizeLine) : ItOk K W (IteB K b a) (enumD 0 ds) Hk0 where
  len := by rw [enumD_len, ← r1.len]; exact hz
  go := fun i Hk H g hi e w => by
    rw [enumD_len] at hi
    have l1 : i < xs.length := by rw [r1.len]; omega
    exact ⟨xs, xs[i], sqB_mono w.ex (sqB_mono e h1), by simp [l1]⟩
  yld := fun i Hk H g v H' d hd e w y => by
    obtain ⟨T, x, rfl, hT, rfl, hx⟩ := y
    obtain ⟨dx, e1, rfl⟩ := enumD_get _ _ _ _ hd
    obtain ⟨v1, f1, g1⟩ := (r1.mono e).get e1
    have k1 := hx xs (sqB_mono w.ex (sqB_mono e h1))
    rw [f1] at k1
    cases k1
    have s : Step W Hk H (upd Hk T (.tup [.int (i : Nat), x])) (upd H T (.tup [.int (i : Nat), x])) := Step.new w.ex hT
    exact ⟨_, s, w.dr.upd (ex_upd_out w.dr hT), T, [.int (i : Nat), x], rfl, SqT.of upd_same, .cons (by show _ = _; rw [Int.zero_add]) (.cons (g1.mono s.k) .nil)⟩
  stop := fun i Hk H g hi e w => ⟨xs, sqB_mono w.ex (sqB_mono e h1), by rw [hi, enumD_len, r1.len]⟩
/-- what is walked, from its value -/
theorem items_sq {d : D} {v : V} {ds : List D} (r : Rp K W Hk0 d v) (e : itemsD d = some ds) : ∃ b a xs, v = .ref a ∧ SqB K b Hk0 a xs ∧ RpL K W Hk0 ds xs := by
  cases d <;> (try (simp only [itemsD] at e; cases e; done))
  · simp only [itemsD, Option.some.injEq] at e
    subst e
    obtain ⟨a, xs, rfl, h1, h2⟩ := r
    exact ⟨false, a, xs, rfl, h1, h2⟩
  · simp only [itemsD, Option.some.injEq] at e
    subst e
    obtain ⟨a, xs, rfl, h1, h2⟩ := r
    exact ⟨true, a, xs, rfl, SqL.of h1, h2⟩
end
end Bk

set_option Elab.async false
set_option linter.all false
set_option maxRecDepth 100000
set_option maxHeartbeats 2000000
/-! Dicts walked by their keys. -/
namespace Bk
open PySem L2
open Evl (Ex ex_l ex_t)
/-- the keys of the dict at d, in their order -/
def Itkx (d : Addr) (o : Obj) (xs : List (NestedKey × Addr × V)) : It :=
  ⟨fun i H => H d = some (ObX d o) ∧ i < xs.length, fun i H x H' => H' = H ∧ ∃ y, xs[i]? = some y ∧ x = V.ref y.2.1, fun i H => H d = some (ObX d o) ∧ xs.length ≤ i⟩
section
variable {P : Program} {w w' : World} {K : PySem.W.Frag} {tg : Expr} {d : Addr} {o : Obj} {es : Array DictEntry} {ep : Nat}
theorem turn_keysX {xs : List (NestedKey × Addr × V)} (it : Addr) (hod : o.data = .dict es ep) (hsz : es.size = xs.length) (ent : ∀ (i : Nat) (x : NestedKey × Addr × V), xs[i]? = some x → ∃ en : DictEntry, es[i]? = some en ∧ en.key = .ref x.2.1 ∧ RelV x.2.2 en.val) :
    Turn P w K tg (Itkx d o xs) [it] it (fun i h => h.IsKeyIter it d i xs.length ep) where
  mem := by simp
  obj := fun i h st b hb => by
    have e : b = it := by simpa using hb
    subst e
    obtain ⟨oi, e, c, dd⟩ := st
    exact ⟨oi, e, fun v z => by rw [dd] at z; cases z⟩
  keep := fun i h h' st k => st.at fun oi e => k it (by simp) oi e
  item := by
    intro X hP hw hK hc i pins s σ H E I hf st hg
    subst hP hw hK
    obtain ⟨hd, hi⟩ := hg
    obtain ⟨f0, f1, f2, f3, f4, f5⟩ := hf it (by simp)
    have hgd := obX_at I.hok hd
    obtain ⟨x, hx⟩ : ∃ p, xs[i]? = some p := ⟨xs[i], List.getElem?_eq_getElem hi⟩
    obtain ⟨en, hen, hkey, _⟩ := ent i x hx
    refine next_key_item st hgd hod hsz hen fun h' st' sb => ?_
    have I1 : L2.Inv X pins σ H { s with heap := h' } := I.turned (t' := s.toks) (fun b ob hb e => (sb.2 b hb).trans e) f0 f1 f3 f4 f5
    obtain ⟨oi, e, c, dd⟩ := id st'
    exact ⟨en.key, rfl, go_of (s := { s with heap := h' }) e c dd (by decide) ⟨.ref x.2.1, H, I1, hkey, ⟨rfl, x, hx, rfl⟩, st', fun b hb => (hf b hb).1⟩⟩
  done := by
    intro X hP hw hK hc i pins s σ H E I hf st hg
    subst hP hw hK
    obtain ⟨hd, hi⟩ := hg
    obtain ⟨f0, f1, f2, f3, f4, f5⟩ := hf it (by simp)
    exact next_key_end (I.ok.hd hc) st (obX_at I.hok hd) hod hsz hi fun h' eb => ⟨rfl, I.turned (t' := s.toks) (fun b ob hb e => eb b ob hb e) f0 f1 f3 f4 f5⟩
  self := fun A i s Q E st h => by
    refine wpAny_pyIter_slot st.typeIs F.slot_dict_keyiterator_iter (wpAny_call_entry F.slot_dict_keyiterator_iter st.typeIs F.entry_dict_keyiterator_iter ?_ (F.args_dict_keyiterator_iter_1 _))
    show wpAny _ _ (ret (.ref it)) _ _ s
    exact wpAny_pure ⟨_, rfl, "dict_keyiterator", _, st.typeIs, F.slot_dict_keyiterator_next.lookup, h⟩
end
def iKeysX (td : TE) : TI := fun σ H R => td σ H fun x H1 => ∃ d o xs w, x = .ref d ∧ (d == sysModules) = false ∧ H1 d = some (ObX d o) ∧ DcIs w o xs ∧ R (Itkx d o xs) H1
theorem pi_keysX {X : Cx} {tg e : Expr} {td : TE} (he : PE X e td) : PI X tg e (iKeysX td) := by
  refine ⟨fun pins s σ H R I h => ?_⟩
  refine thn (he.run pins s σ H _ I h) fun u s1 ⟨x, H1, I1, rx, d, o, xs, w, ex, hs, hd, dc, q⟩ => ?_
  subst ex
  obtain rfl : u = Value.ref d := rx
  obtain ⟨h1, es, ep, h2, h3, h4⟩ := dc_entries dc
  refine iter_keys hs (obX_at I1.hok hd) h1 h2 (pi_one (tk := s1.toks) I1 _ (turn_keysX _ h2 h3 h4) ⟨_, Heap.get?_push_size _ rfl, rfl, ?_⟩ q)
  rw [h3] <;> rfl
theorem itOk_keys {K : PySem.W.Frag} {W : Wd} {Hk0 : Hp} {d : Addr} {o : Obj} {xs : List (NestedKey × Addr × V)} {ks : List D} (hz : ks.length ≤ sizeLine) (h : Hk0 d = some (ObX d o)) (r : RpL K W Hk0 ks (xs.map fun x => V.ref x.2.1)) : ItOk K W (Itkx d o xs) ks Hk0 := by
  have hl : xs.length = ks.length := by rw [← r.len, List.length_map]
  exact {
    len := hz
    go := fun i Hk H g hi e w => ⟨w.ex _ _ (e _ _ h), by rw [hl]; exact hi⟩
    yld := fun i Hk H g x H' d' hd e w y => by
      obtain ⟨e1, z, hz', hx⟩ := y
      subst e1
      obtain ⟨v, ev, rv⟩ := (r.mono e).get hd
      rw [List.getElem?_map, hz'] at ev
      cases ev
      subst hx
      exact ⟨Hk, Step.refl w.ex, w.dr, rv⟩
    stop := fun i Hk H g hi e w => ⟨w.ex _ _ (e _ _ h), by rw [hl, hi]; exact Nat.le_refl _⟩ }
end Bk

set_option Elab.async false
set_option linter.all false
set_option maxRecDepth 100000
set_option maxHeartbeats 1000000
/-! Calls of defs, with the guards known to be none. -/
namespace Bk
open PySem PySem.Spec PyProof.Rows L2
open Evl (Ex ex_l ex_t)
structure FnOkG (P : Program) (w : World) (K : PySem.W.Frag) (mg : Str → Option Value) (base : Heap) (CX : CXT) (k : Nat) (f : Addr) (fd : FuncData) (ps : List Str) (sp : Sp) : Prop where
  len : ∀ vs H Q E, sp vs H Q E → vs.length = ps.length
  run : ∀ (A : Around) (outer : List Env) (s : Shared) (H : Hp) (args : Args) (us : List Value) (vs : List V) (Q : VK) (E : XK), Room k A → A.guards = some [] → Env0 P w K mg base A outer s H → BindsTo s fd args (ps.zip us) → Vals vs us → sp vs H Q E →
    codeAny (model P w) A (.call (.ref f) args) (CR CX outer P w H s Q E) s
section
variable {X : Cx} {CX : CXT} {k : Nat} {f C : Addr} {fd : FuncData} {ps : List Str} {sp : Sp} {dvs : List V} {ds : List Value} {E : XK} {x m : Str} {p pos apos : Pos} {e o : Expr} {es : List Expr} {ta : TE} {t : TA}
theorem run_fnG {pins : List (Addr × Obj)} {σ : L2.St} {H : Hp} {s : Shared} {Q : VK} {us : List Value} {vs : List V} (F : FnOkG X.prog X.w X.K X.mg X.base CX k f fd ps sp) (hr : Room k X.A) (hg : X.A.guards = some []) (hb : Binds X.K fd ps ds) (hd : Vals dvs ds) (hx : Passes CX X E)
    (I : L2.Inv X pins σ H s) (r : Vals vs us) (h : sp (vs ++ dvs) H Q E) : wpAny (model X.prog X.w) X.A (call (.ref f) us) (EP X pins σ Q) X.xe s := by
  have r2 : Vals (vs ++ dvs) (us ++ ds) := r.append hd
  have hl : (us ++ ds).length = ps.length := by rw [← r2.length]; exact F.len _ _ _ _ h
  refine wpAny_call (codeAny_mono (F.run X.A X.stack s H ⟨us, []⟩ (us ++ ds) (vs ++ dvs) Q E hr hg I.env0 (hb s us I.kIn hl) r2 h) fun r s' hq => ?_)
  cases r with
  | error e => exact hx pins σ H s e s' I hq
  | ok fl =>
    cases fl with
    | ret u => exact I.after hq
    | next => exact False.elim hq
    | brk => exact False.elim hq
    | cont => exact False.elim hq
theorem pe_callG (F : FnOkG X.prog X.w X.K X.mg X.base CX k f fd ps sp) (hr : Room k X.A) (hgd : X.A.guards = some []) (hg : Gl X x) (hm : X.mg x = some (.ref f)) (hk : PySem.W.keepIn X.K (.ref f) = true) (hb : Binds X.K fd ps ds) (hd : Vals dvs ds) (hx : Passes CX X E)
    (ha : PA X (e :: es) t) (hdb : (x == ("__debug__" : Str)) = false) (he : starEach (e :: es) X.env = (false, eval e X.env) :: starEach es X.env) (hpl : (backTo pos (starEach es X.env)).any (·.1) = false) :
    PE X (.Call (.Name x p) (e :: es) [] pos) (tCall sp dvs E t) := by
  refine ⟨fun pins s σ H Q I h => ?_⟩
  refine wpAny_Call_Name_kw (ld_glob I hg hm ?_ hdb)
  refine PySem.W.callWith_K (h₀ := X.base) I.ok.mod.kin hk (thn (ha.run pos pins s σ H _ I h) fun us s1 ⟨vs, H1, I1, r, q⟩ => ⟨I1.kIn, ?_⟩) he hpl
  exact run_fnG F hr hgd hb hd hx I1 r q
theorem pe_callG0 (F : FnOkG X.prog X.w X.K X.mg X.base CX k f fd ps sp) (hr : Room k X.A) (hgd : X.A.guards = some []) (hg : Gl X x) (hm : X.mg x = some (.ref f)) (hk : PySem.W.keepIn X.K (.ref f) = true) (hb : Binds X.K fd ps ds) (hd : Vals dvs ds) (hx : Passes CX X E)
    (hdb : (x == ("__debug__" : Str)) = false) : PE X (.Call (.Name x p) [] [] pos) (tCall sp dvs E tNil) := by
  refine ⟨fun pins s σ H Q I h => ?_⟩
  refine wpAny_Call_Name_kw (ld_glob I hg hm ?_ hdb)
  exact PySem.W.callWith_K0 I.kIn hk (run_fnG (us := []) F hr hgd hb hd hx I .nil h)
end
theorem guards_deeper (A : Around) (env : Env) : (A.deeper env).guards = A.guards := by first | rfl | (unfold Around.deeper; rfl) | simp [Around.deeper]
theorem fn_ofG {CX : CXT} {P : Program} {w : World} {K : PySem.W.Frag} {mg : Str → Option Value} {base : Heap} {k : Nat} {f : Addr} {name qual : Str} {params : Arguments} {body : List Stmt} {scope : Scope} {dV kV doc pm cdv ct oc : Value} {an od : Option Addr}
    {osl : Array (Option Value)} {N ps : List Str} {sp : Sp} (lk : K.lookup f = some ⟨oc, od, .func (PySem.W.fnOf name qual params body scope dV kV doc pm an cdv ct), osl⟩) (hcd : PySem.W.codeIn K cdv qual = true) (S : FnScope N ps scope)
    (len : ∀ vs H Q E, sp vs H Q E → vs.length = ps.length)
    (hbody : ∀ (A : Around) (outer : List Env) (s : Shared) (H : Hp) (vs : List V) (Q : VK) (E : XK), Room k (A.deeper (envOfC qual scope s.heap.objs.size f cdv)) → (A.deeper (envOfC qual scope s.heap.objs.size f cdv)).guards = some [] → sp vs H Q E →
      ∃ t, PSs (cxOf CX P w K mg base N qual scope f cdv A outer s H E) body t ∧ t { nx := fun _ H' => Q .non H', rt := Q } (start N vs) H) :
    FnOkG P w K mg base CX (k + 1) f (PySem.W.fnOf name qual params body scope dV kV doc pm an cdv ct) ps sp := by
  refine ⟨len, fun A outer s H args us vs Q E hr hgd e0 hb r hsp => ?_⟩
  have hl := len _ _ _ _ hsp
  have KX : K.In s.heap := e0.mod.kin.keeps fun b o e => (e0.bs b o e).1
  have lim : s.heap.NoLimit := e0.mod.nolimit.keeps fun b o e => (e0.bs b o e).1
  have hkind : ∀ y ∈ ps.zip us, scope.names.lookup y.1 = some .local ∨ (scope.names.lookup y.1 = some .cell ∧ ((cellsFrom (s.heap.objs.size + 1) scope.names []).lookup y.1).isSome = true) := fun ⟨n, v⟩ hy => by
    rcases S.par n (List.of_mem_zip hy).1 with q | q
    · exact .inl q
    · exact .inr ⟨q, PySem.W.cellsFrom_some _ _ _ (.inl q)⟩
  refine codeAny_call_function hr.depth (KX _ _ lk) rfl S.co S.gen rfl (PySem.W.codeRec_of KX hcd) (hb _ _ _ _ ?_)
  refine wpAny_newFunctionEnv_cells S.kind hkind fun env he s1 x => ?_
  subst he
  refine ⟨lim.keeps x.toInCall.keep, codeAny_func ?_⟩
  obtain ⟨t, ht, hq⟩ := hbody A outer s H vs Q E (hr.deeper _) (by rw [guards_deeper]; exact hgd) hsp
  have I : L2.Inv (cxOf CX P w K mg base N qual scope f cdv A outer s H E) [] (start N vs) H s1 := inv_start S hr.hd e0 hl r x
  refine wpAny_mono (ht.run [] s1 (start N vs) H _ I hq) (fun fl s' hs => ?_) fun e s' hs => hs
  have fin : ∀ {σ' : L2.St} {H' : Hp} {v : V} {u : Value}, L2.Inv (cxOf CX P w K mg base N qual scope f cdv A outer s H E) [] σ' H' s' → RelV v u → Q v H' → CE outer P w H s Q u s' :=
    fun {σ' H' v u} J rv q => ⟨v, H', J.os, J.bare, J.base, J.hok, rv, q⟩
  cases fl with
  | ret u =>
    obtain ⟨v, σ', H', J, rv, q⟩ := hs
    exact fin J rv q
  | next =>
    obtain ⟨σ', H', J, q⟩ := hs
    exact fin (v := V.non) (u := Value.none) J rfl q
  | brk =>
    obtain ⟨_, _, _, q⟩ := hs
    exact False.elim q
  | cont =>
    obtain ⟨_, _, _, q⟩ := hs
    exact False.elim q
end Bk

set_option Elab.async false
set_option linter.all false
set_option maxRecDepth 100000
set_option maxHeartbeats 1000000
/-! Expressions: a rule for each form, the reading given by a function on plain data. -/
namespace Bk
open PySem L2
open Evl (Ex ex_l ex_t)
section
variable (K : PySem.W.Frag) (W : Wd) (Ew : XK)
def tE (ev : Gm → G → R D) : TE := fun σ H Q => ∃ Hk0 H0 Γ g Hk, Fr K W Hk0 H0 Γ g σ Hk H ∧ Fin W Ew Hk H (ev Γ g) fun d _ Hk' H' => ∀ v, Rp K W Hk' d v → Q v H'
def tTt (ev : Gm → G → R Bool) : TT := fun σ H Q => ∃ Hk0 H0 Γ g Hk, Fr K W Hk0 H0 Γ g σ Hk H ∧ Fin W Ew Hk H (ev Γ g) fun b _ _ H' => Q b H'
def tAa (ev : Gm → G → R (List D)) : TA := fun σ H Q => ∃ Hk0 H0 Γ g Hk, Fr K W Hk0 H0 Γ g σ Hk H ∧ Fin W Ew Hk H (ev Γ g) fun ds _ Hk' H' => ∀ vs, RpL K W Hk' ds vs → Q vs H'
def tIi (ev : Gm → G → R (List D)) : TI := fun σ H Q => ∃ Hk0 H0 Γ g Hk, Fr K W Hk0 H0 Γ g σ Hk H ∧ Fin W Ew Hk H (ev Γ g) fun ds _ Hk' H' => ∀ J, ItOk K W J ds Hk' → Q J H'
def tOo (ev : Gm → G → R (Option Int)) : TO := fun σ H Q => ∃ Hk0 H0 Γ g Hk, Fr K W Hk0 H0 Γ g σ Hk H ∧ Fin W Ew Hk H (ev Γ g) fun o _ _ H' => Q o H'
/-- a new list -/
def tFf (ev : Gm → G → R D) : TE := fun σ H Q => ∃ Hk0 H0 Γ g Hk, Fr K W Hk0 H0 Γ g σ Hk H ∧ Fin W Ew Hk H (ev Γ g) fun d _ Hk' H' =>
  ∀ p u, H p = none → Hk' p = none → H' p = some u → Ob K W Hk' d p u → Q (.ref p) H'
def tGg (t : T) : TG := fun v σ H Q => ∃ Hk0 H0 Γ g Hk d Γ', Fr K W Hk0 H0 Γ g σ Hk H ∧ Rp K W Hk d v ∧ setT t d Γ = some Γ' ∧ ∀ σ', Fr K W Hk0 H0 Γ' g σ' Hk H → wipe σ' t.vars = wipe σ t.vars → Q σ' H
def tGgs (ts : List T) : TGs := fun vs σ H Q => ∃ Hk0 H0 Γ g Hk ds Γ', Fr K W Hk0 H0 Γ g σ Hk H ∧ RpL K W Hk ds vs ∧ setTs ts ds Γ = some Γ' ∧ ∀ σ', Fr K W Hk0 H0 Γ' g σ' Hk H → wipe σ' (varsT ts) = wipe σ (varsT ts) → Q σ' H
end
section
variable {X : Cx} {W : Wd} {Ew : XK}
theorem PE.imp {e : Expr} {t t' : TE} (h : PE X e t') (i : ∀ σ H Q, t σ H Q → t' σ H Q) : PE X e t := ⟨fun pins s σ H Q I q => h.run pins s σ H Q I (i σ H Q q)⟩
theorem PT.imp {e : Expr} {t t' : TT} (h : PT X e t') (i : ∀ σ H Q, t σ H Q → t' σ H Q) : PT X e t := ⟨fun pins s σ H Q I q => h.run pins s σ H Q I (i σ H Q q)⟩
theorem PW.imp {e : Expr} {t t' : TT} (h : PW X e t') (i : ∀ σ H Q, t σ H Q → t' σ H Q) : PW X e t := ⟨fun wh pins s σ H Q I q => h.run wh pins s σ H Q I (i σ H Q q)⟩
theorem PA.imp {e : List Expr} {t t' : TA} (h : PA X e t') (i : ∀ σ H Q, t σ H Q → t' σ H Q) : PA X e t := ⟨fun pos pins s σ H Q I q => h.run pos pins s σ H Q I (i σ H Q q)⟩
theorem PO.imp {e : Option Expr} {t t' : TO} (h : PO X e t') (i : ∀ σ H Q, t σ H Q → t' σ H Q) : PO X e t := ⟨fun pins s σ H Q I q => h.run pins s σ H Q I (i σ H Q q)⟩
theorem PI.imp {tg e : Expr} {t t' : TI} (h : PI X tg e t') (i : ∀ σ H Q, t σ H Q → t' σ H Q) : PI X tg e t := ⟨fun pins s σ H Q I q => h.run pins s σ H Q I (i σ H Q q)⟩
theorem PG.imp {tg : Expr} {t t' : TG} (h : PG X tg t') (i : ∀ v σ H Q, t v σ H Q → t' v σ H Q) : PG X tg t := ⟨fun pins s σ H v u Q I r q => h.run pins s σ H v u Q I r (i v σ H Q q)⟩
theorem PGs.imp {tg : List Expr} {t t' : TGs} (h : PGs X tg t') (i : ∀ v σ H Q, t v σ H Q → t' v σ H Q) : PGs X tg t := ⟨fun pins s σ H v u Q I r q => h.run pins s σ H v u Q I r (i v σ H Q q)⟩

variable {Hk0 H0 Hk H : Hp} {Γ : Gm} {g : G} {σ : L2.St} {K : PySem.W.Frag}
/-- an expression, then the rest -/
theorem seqE {β : Type} {f : Gm → G → R D} {k : D → G → R β} {kk : β → G → Hp → Hp → Prop} {Q : VK} (fr : Fr K W Hk0 H0 Γ g σ Hk H) (h : Fin W Ew Hk H ((f Γ g).bind k) kk)
    (hq : ∀ v d g' Hk' H', Fr K W Hk0 H0 Γ g' σ Hk' H' → Step W Hk H Hk' H' → Rp K W Hk' d v → Fin W Ew Hk' H' (k d g') kk → Q v H') : tE K W Ew f σ H Q :=
  ⟨Hk0, H0, Γ, g, Hk, fr, h.bind.mono fun d g' Hk' H' s dr kq v r => hq v d g' Hk' H' (fr.step s dr) s r kq⟩
theorem seqT {β : Type} {f : Gm → G → R Bool} {k : Bool → G → R β} {kk : β → G → Hp → Hp → Prop} {Q : Bool → Hp → Prop} (fr : Fr K W Hk0 H0 Γ g σ Hk H) (h : Fin W Ew Hk H ((f Γ g).bind k) kk)
    (hq : ∀ b g' Hk' H', Fr K W Hk0 H0 Γ g' σ Hk' H' → Step W Hk H Hk' H' → Fin W Ew Hk' H' (k b g') kk → Q b H') : tTt K W Ew f σ H Q :=
  ⟨Hk0, H0, Γ, g, Hk, fr, h.bind.mono fun d g' Hk' H' s dr kq => hq d g' Hk' H' (fr.step s dr) s kq⟩
theorem seqA {β : Type} {f : Gm → G → R (List D)} {k : List D → G → R β} {kk : β → G → Hp → Hp → Prop} {Q : List V → Hp → Prop} (fr : Fr K W Hk0 H0 Γ g σ Hk H) (h : Fin W Ew Hk H ((f Γ g).bind k) kk)
    (hq : ∀ vs ds g' Hk' H', Fr K W Hk0 H0 Γ g' σ Hk' H' → Step W Hk H Hk' H' → RpL K W Hk' ds vs → Fin W Ew Hk' H' (k ds g') kk → Q vs H') : tAa K W Ew f σ H Q :=
  ⟨Hk0, H0, Γ, g, Hk, fr, h.bind.mono fun d g' Hk' H' s dr kq v r => hq v d g' Hk' H' (fr.step s dr) s r kq⟩
theorem seqO {β : Type} {f : Gm → G → R (Option Int)} {k : Option Int → G → R β} {kk : β → G → Hp → Hp → Prop} {Q : Option Int → Hp → Prop} (fr : Fr K W Hk0 H0 Γ g σ Hk H) (h : Fin W Ew Hk H ((f Γ g).bind k) kk)
    (hq : ∀ o g' Hk' H', Fr K W Hk0 H0 Γ g' σ Hk' H' → Step W Hk H Hk' H' → Fin W Ew Hk' H' (k o g') kk → Q o H') : tOo K W Ew f σ H Q :=
  ⟨Hk0, H0, Γ, g, Hk, fr, h.bind.mono fun d g' Hk' H' s dr kq => hq d g' Hk' H' (fr.step s dr) s kq⟩
theorem seqI {β : Type} {f : Gm → G → R (List D)} {k : List D → G → R β} {kk : β → G → Hp → Hp → Prop} {Q : It → Hp → Prop} (fr : Fr K W Hk0 H0 Γ g σ Hk H) (h : Fin W Ew Hk H ((f Γ g).bind k) kk)
    (hq : ∀ J ds g' Hk' H', Fr K W Hk0 H0 Γ g' σ Hk' H' → Step W Hk H Hk' H' → ItOk K W J ds Hk' → Fin W Ew Hk' H' (k ds g') kk → Q J H') : tIi K W Ew f σ H Q :=
  ⟨Hk0, H0, Γ, g, Hk, fr, h.bind.mono fun d g' Hk' H' s dr kq v r => hq v d g' Hk' H' (fr.step s dr) s r kq⟩
theorem Fin.now {α : Type} {a : α} {kk : α → G → Hp → Hp → Prop} (fr : Fr K W Hk0 H0 Γ g σ Hk H) (h : Fin W Ew Hk H (.ok a g) kk) : kk a g Hk H := h Hk H (Step.refl fr.wk.ex) fr.wk.dr

/-! ### the forms -/
variable {a b c : Expr} {pos : Pos} {fa fb fc : Gm → G → R D}
theorem e_cst {d : D} {v : V} {e : Expr} (h : PE X e (tC v)) (r : ∀ H, Rp X.K W H d v) : PE X e (tE X.K W Ew fun _ g => .ok d g) := PE.imp h fun σ H Q ⟨Hk0, H0, Γ, g, Hk, fr, h⟩ => Fin.now fr h v (r _)
theorem e_var {i : Nat} {e : Expr} (h : PE X e (tVar i)) : PE X e (tE X.K W Ew fun Γ g => match Γ[i]? with | some (.val d) => .ok d g | _ => .st) := PE.imp h fun σ H Q ⟨Hk0, H0, Γ, g, Hk, fr, h⟩ => by
  obtain ⟨os, sl, _⟩ := fr.sl
  cases e1 : Γ[i]? with
  | none => simp only [e1] at h; exact h.elim
  | some s =>
    cases s with
    | no => simp only [e1] at h; exact h.elim
    | own d => simp only [e1] at h; exact h.elim
    | val d =>
      simp only [e1] at h
      obtain ⟨v, ev, rv⟩ := sl.val_at e1
      exact ⟨v, ev, Fin.now fr h v rv⟩
theorem e_bin (o : Op) (ha : PE X a (tE X.K W Ew fa)) (hb : PE X b (tE X.K W Ew fb)) : PE X (.BinOp a (opOf o) b pos) (tE X.K W Ew fun Γ g => (fa Γ g).bind fun x g => (fb Γ g).bind fun y g => lift (opD o x y) g) :=
  PE.imp (pe_op (op_D o) ha hb) fun σ H Q ⟨Hk0, H0, Γ, g, Hk, fr, h⟩ => seqE fr h fun v d g1 Hk1 H1 fr1 s1 r1 h1 => seqE fr1 h1 fun v2 d2 g2 Hk2 H2 fr2 s2 r2 h2 => by
    obtain ⟨z, ez, hz⟩ := h2.lift
    exact ⟨g2, Hk2, d, d2, z, fr2.wk, r1.mono s2.k, r2, ez, fun v3 Hk3 H3 s3 dr3 r3 => hz Hk3 H3 s3 dr3 v3 r3⟩
theorem e_cmp (hu : X.A.units + 64 < cLine) (hw : W.w = X.w) (o : Cm) (ha : PE X a (tE X.K W Ew fa)) (hb : PE X b (tE X.K W Ew fb)) (hm : behindInMarks (cmOf o) b = false) :
    PE X (.Compare a [cmOf o] [b] pos) (tE X.K W Ew fun Γ g => (fa Γ g).bind fun x g => (fb Γ g).bind fun y g => lift ((cmpD o x y).map .bl) g) :=
  PE.imp (pe_cmpR (cmp_D hu hw o) ha hb hm) fun σ H Q ⟨Hk0, H0, Γ, g, Hk, fr, h⟩ => seqE fr h fun v d g1 Hk1 H1 fr1 s1 r1 h1 => seqE fr1 h1 fun v2 d2 g2 Hk2 H2 fr2 s2 r2 h2 => by
    obtain ⟨z, ez, hz⟩ := h2.lift
    exact ⟨g2, Hk2, d, d2, z, fr2.wk, r1.mono s2.k, r2, ez, fun v3 Hk3 H3 s3 dr3 r3 => hz Hk3 H3 s3 dr3 v3 r3⟩
theorem bl_of {Q : VK} {r : R D} {kk : Bool → G → Hp → Hp → Prop} (h : Fin W Ew Hk H (blR r) kk) : Fin W Ew Hk H r fun d g' Hk' H' => ∃ b, d = .bl b ∧ kk b g' Hk' H' := by
  have h' := Fin.bind (r := r) h
  refine h'.mono fun d g' Hk' H' s dr hd => ?_
  cases d with
  | bl b => exact ⟨b, rfl, hd Hk' H' (Step.refl s.kh) dr⟩
  | _ => exact hd.elim
/-- an expression as a test, by its value -/
theorem t_val {e : Expr} (h : PE X e (tE X.K W Ew fa)) (he : ∀ whole, isTrue e X.env whole = (do let v ← whole; standAt e.pos; holding [v] (truthy v))) : PT X e (tTt X.K W Ew fun Γ g => blR (fa Γ g)) :=
  PT.imp (pt_val h he) fun σ H Q ⟨Hk0, H0, Γ, g, Hk, fr, h⟩ => ⟨Hk0, H0, Γ, g, Hk, fr, (bl_of (Q := fun _ _ => True) h).mono fun d g' Hk' H' s dr ⟨b, e, hb⟩ v rv => by
    subst e
    exact ⟨b, rv, hb⟩⟩
theorem t_cmp (hu : X.A.units + 64 < cLine) (hw : W.w = X.w) (o : Cm) (ha : PE X a (tE X.K W Ew fa)) (hb : PE X b (tE X.K W Ew fb)) (hm : behindInMarks (cmOf o) b = false) :
    PT X (.Compare a [cmOf o] [b] pos) (tTt X.K W Ew fun Γ g => blR ((fa Γ g).bind fun x g => (fb Γ g).bind fun y g => lift ((cmpD o x y).map .bl) g)) :=
  PT.imp (pt_cmpR (cmp_D hu hw o) ha hb hm) fun σ H Q ⟨Hk0, H0, Γ, g, Hk, fr, h⟩ => by
    have h := bl_of (Q := fun _ _ => True) h
    show (tOp (rD X.K W fun a b => (cmpD o a b).map .bl) (tE X.K W Ew fa) (tE X.K W Ew fb)) σ H fun x H1 => ∃ c, x = .bl c ∧ Q c H1
    refine seqE fr h fun v d g1 Hk1 H1 fr1 s1 r1 h1 => seqE fr1 h1 fun v2 d2 g2 Hk2 H2 fr2 s2 r2 h2 => ?_
    obtain ⟨z, ez, hz⟩ := h2.lift
    refine ⟨g2, Hk2, d, d2, z, fr2.wk, r1.mono s2.k, r2, ez, fun v3 Hk3 H3 s3 dr3 r3 => ?_⟩
    obtain ⟨b, e, hb⟩ := hz Hk3 H3 s3 dr3
    subst e
    exact ⟨b, r3, hb⟩
theorem e_neg (ha : PE X a (tE X.K W Ew fa)) : PE X (.UnaryOp .USub a pos) (tE X.K W Ew fun Γ g => (fa Γ g).bind fun x g => match x with | .int i => .ok (.int (-i)) g | _ => .st) :=
  PE.imp (pe_un un_neg ha) fun σ H Q ⟨Hk0, H0, Γ, g, Hk, fr, h⟩ => seqE fr h fun v d g1 Hk1 H1 fr1 s1 r1 h1 => by
    cases d with
    | int i => exact ⟨i, r1, Fin.now fr1 h1 _ rfl⟩
    | _ => exact h1.elim
def chnR (o p : Cm) (fa fb fc : Gm → G → R D) : Gm → G → R D := fun Γ g => (fa Γ g).bind fun x g => (fb Γ g).bind fun y g => (lift (cmpD o x y) g).bind fun k g =>
      if k then (fc Γ g).bind fun z g => lift ((cmpD p y z).map .bl) g else .ok (.bl false) g
theorem e_chn (hu : X.A.units + 64 < cLine) (hw : W.w = X.w) (o p : Cm) (ha : PE X a (tE X.K W Ew fa)) (hb : PE X b (tE X.K W Ew fb)) (hc : PE X c (tE X.K W Ew fc)) (hm : lastMarks [cmOf o, cmOf p] [b, c] = false) :
    PE X (.Compare a [cmOf o, cmOf p] [b, c] pos) (tE X.K W Ew (chnR o p fa fb fc)) :=
  PE.imp (pe_chain (cmp_D hu hw o) (cmp_D hu hw p) ha hb hc hm) fun σ H Q ⟨Hk0, H0, Γ, g, Hk, fr, h⟩ => seqE fr h fun v d g1 Hk1 H1 fr1 s1 r1 h1 => seqE fr1 h1 fun v2 d2 g2 Hk2 H2 fr2 s2 r2 h2 => by
    obtain ⟨k, ek, hk⟩ := h2.bind.lift
    refine ⟨g2, Hk2, d, d2, .bl k, fr2.wk, r1.mono s2.k, r2, (by show Option.map D.bl (cmpD o d d2) = _; rw [ek]; rfl), fun v3 Hk3 H3 s3 dr3 r3 => ⟨k, r3, ?_⟩⟩
    have h3 := hk Hk3 H3 s3 dr3
    have fr3 := fr2.step s3 dr3
    cases k with
    | false => exact iteF (Fin.now fr3 h3 _ rfl)
    | true =>
      refine iteT (seqE fr3 h3 fun v4 d4 g4 Hk4 H4 fr4 s4 r4 h4 => ?_)
      obtain ⟨z, ez, hz⟩ := h4.lift
      exact ⟨g4, Hk4, d2, d4, z, fr4.wk, (r2.mono s3.k).mono s4.k, r4, ez, fun v5 Hk5 H5 s5 dr5 r5 => hz Hk5 H5 s5 dr5 v5 r5⟩
theorem t_chn (hu : X.A.units + 64 < cLine) (hw : W.w = X.w) (o p : Cm) (ha : PE X a (tE X.K W Ew fa)) (hb : PE X b (tE X.K W Ew fb)) (hc : PE X c (tE X.K W Ew fc)) (hm : lastMarks [cmOf o, cmOf p] [b, c] = false) :
    PT X (.Compare a [cmOf o, cmOf p] [b, c] pos) (tTt X.K W Ew fun Γ g => blR (chnR o p fa fb fc Γ g)) :=
  PT.imp (pt_chain (cmp_D hu hw o) (cmp_D hu hw p) ha hb hc hm) fun σ H Q ⟨Hk0, H0, Γ, g, Hk, fr, h⟩ => by
    have h := bl_of (Q := fun _ _ => True) h
    show (tChain (rD X.K W fun a b => (cmpD o a b).map .bl) (rD X.K W fun a b => (cmpD p a b).map .bl) (tE X.K W Ew fa) (tE X.K W Ew fb) (tE X.K W Ew fc)) σ H fun x H1 => ∃ c, x = .bl c ∧ Q c H1
    unfold chnR at h
    refine seqE fr h fun v d g1 Hk1 H1 fr1 s1 r1 h1 => seqE fr1 h1 fun v2 d2 g2 Hk2 H2 fr2 s2 r2 h2 => ?_
    obtain ⟨k, ek, hk⟩ := h2.bind.lift
    refine ⟨g2, Hk2, d, d2, .bl k, fr2.wk, r1.mono s2.k, r2, (by show Option.map D.bl (cmpD o d d2) = _; rw [ek]; rfl), fun v3 Hk3 H3 s3 dr3 r3 => ⟨k, r3, ?_⟩⟩
    have h3 := hk Hk3 H3 s3 dr3
    have fr3 := fr2.step s3 dr3
    cases k with
    | false =>
      obtain ⟨b, e, hb⟩ := Fin.now fr3 h3
      cases e
      exact iteF ⟨false, rfl, hb⟩
    | true =>
      refine iteT (seqE fr3 h3 fun v4 d4 g4 Hk4 H4 fr4 s4 r4 h4 => ?_)
      obtain ⟨z, ez, hz⟩ := h4.lift
      refine ⟨g4, Hk4, d2, d4, z, fr4.wk, (r2.mono s3.k).mono s4.k, r4, ez, fun v5 Hk5 H5 s5 dr5 r5 => ?_⟩
      obtain ⟨b, e, hb⟩ := hz Hk5 H5 s5 dr5
      subst e
      exact ⟨b, r5, hb⟩
def andR (fa fb : Gm → G → R D) : Gm → G → R D := fun Γ g => (blR (fa Γ g)).bind fun k g => if k then (blR (fb Γ g)).bind fun j g => .ok (.bl j) g else .ok (.bl false) g
def orR (fa fb : Gm → G → R D) : Gm → G → R D := fun Γ g => (blR (fa Γ g)).bind fun k g => if k then .ok (.bl true) g else (blR (fb Γ g)).bind fun j g => .ok (.bl j) g
/-- a bool's expression, then the rest -/
theorem seqB {β : Type} {f : Gm → G → R D} {k : Bool → G → R β} {kk : β → G → Hp → Hp → Prop} {Q : VK} (fr : Fr K W Hk0 H0 Γ g σ Hk H) (h : Fin W Ew Hk H ((blR (f Γ g)).bind k) kk)
    (hq : ∀ b g' Hk' H', Fr K W Hk0 H0 Γ g' σ Hk' H' → Step W Hk H Hk' H' → Fin W Ew Hk' H' (k b g') kk → Q (.bl b) H') : tE K W Ew f σ H Q :=
  ⟨Hk0, H0, Γ, g, Hk, fr, (bl_of (Q := Q) h.bind).mono fun d g' Hk' H' s dr ⟨b, e, hb⟩ v rv => by
    subst e
    rw [show v = .bl b from rv]
    exact hq b g' Hk' H' (fr.step s dr) s hb⟩
theorem e_and {rest : List Expr} (ha : PE X a (tE X.K W Ew fa)) (hb : PE X (.BoolOp .And (b :: rest) pos) (tE X.K W Ew fb)) : PE X (.BoolOp .And (a :: b :: rest) pos) (tE X.K W Ew (andR fa fb)) :=
  PE.imp (pe_and ha hb) fun σ H Q ⟨Hk0, H0, Γ, g, Hk, fr, h⟩ => seqB fr h fun k g1 Hk1 H1 fr1 s1 h1 => ⟨k, rfl, by
    cases k with
    | false => exact iteF (Fin.now fr1 h1 _ rfl)
    | true => exact iteT (seqB fr1 h1 fun j g2 Hk2 H2 fr2 s2 h2 => Fin.now fr2 h2 _ rfl)⟩
theorem e_or {rest : List Expr} (ha : PE X a (tE X.K W Ew fa)) (hb : PE X (.BoolOp .Or (b :: rest) pos) (tE X.K W Ew fb)) : PE X (.BoolOp .Or (a :: b :: rest) pos) (tE X.K W Ew (orR fa fb)) :=
  PE.imp (pe_or ha hb) fun σ H Q ⟨Hk0, H0, Γ, g, Hk, fr, h⟩ => seqB fr h fun k g1 Hk1 H1 fr1 s1 h1 => ⟨k, rfl, by
    cases k with
    | true => exact iteT (Fin.now fr1 h1 _ rfl)
    | false => exact iteF (seqB fr1 h1 fun j g2 Hk2 H2 fr2 s2 h2 => Fin.now fr2 h2 _ rfl)⟩
theorem e_not (ha : PE X a (tE X.K W Ew fa)) : PE X (.UnaryOp .Not a pos) (tE X.K W Ew fun Γ g => (blR (fa Γ g)).bind fun k g => .ok (.bl (!k)) g) :=
  PE.imp (pe_not ha) fun σ H Q ⟨Hk0, H0, Γ, g, Hk, fr, h⟩ => seqB fr h fun k g1 Hk1 H1 fr1 s1 h1 => ⟨k, rfl, Fin.now fr1 h1 _ rfl⟩
/-- tests -/
theorem w_and {rest : List Expr} (ha : PT X a (tTt X.K W Ew fun Γ g => blR (fa Γ g))) (hb : PW X (.BoolOp .And (b :: rest) pos) (tTt X.K W Ew fun Γ g => blR (fb Γ g))) : PW X (.BoolOp .And (a :: b :: rest) pos) (tTt X.K W Ew fun Γ g => blR (andR fa fb Γ g)) :=
  PW.imp (pw_and ha hb) fun σ H Q ⟨Hk0, H0, Γ, g, Hk, fr, h⟩ => by
    have h := bl_of (Q := fun _ _ => True) h
    unfold andR at h
    refine seqT (f := fun Γ g => blR (fa Γ g)) fr h fun k g1 Hk1 H1 fr1 s1 h1 => ?_
    cases k with
    | false =>
      obtain ⟨b, e, hb⟩ := Fin.now fr1 h1
      cases e
      exact iteF hb
    | true =>
      refine iteT (seqT (f := fun Γ g => blR (fb Γ g)) fr1 h1 fun j g2 Hk2 H2 fr2 s2 h2 => ?_)
      obtain ⟨b, e, hb⟩ := Fin.now fr2 h2
      cases e
      exact hb
theorem w_or {rest : List Expr} (ha : PT X a (tTt X.K W Ew fun Γ g => blR (fa Γ g))) (hb : PW X (.BoolOp .Or (b :: rest) pos) (tTt X.K W Ew fun Γ g => blR (fb Γ g))) : PW X (.BoolOp .Or (a :: b :: rest) pos) (tTt X.K W Ew fun Γ g => blR (orR fa fb Γ g)) :=
  PW.imp (pw_or ha hb) fun σ H Q ⟨Hk0, H0, Γ, g, Hk, fr, h⟩ => by
    have h := bl_of (Q := fun _ _ => True) h
    unfold orR at h
    refine seqT (f := fun Γ g => blR (fa Γ g)) fr h fun k g1 Hk1 H1 fr1 s1 h1 => ?_
    cases k with
    | true =>
      obtain ⟨b, e, hb⟩ := Fin.now fr1 h1
      cases e
      exact iteT hb
    | false =>
      refine iteF (seqT (f := fun Γ g => blR (fb Γ g)) fr1 h1 fun j g2 Hk2 H2 fr2 s2 h2 => ?_)
      obtain ⟨b, e, hb⟩ := Fin.now fr2 h2
      cases e
      exact hb
theorem t_not (ha : PT X a (tTt X.K W Ew fun Γ g => blR (fa Γ g))) : PT X (.UnaryOp .Not a pos) (tTt X.K W Ew fun Γ g => blR ((blR (fa Γ g)).bind fun k g => .ok (.bl (!k)) g)) :=
  PT.imp (pt_not ha) fun σ H Q ⟨Hk0, H0, Γ, g, Hk, fr, h⟩ => by
    have h := bl_of (Q := fun _ _ => True) h
    refine seqT (f := fun Γ g => blR (fa Γ g)) fr h fun k g1 Hk1 H1 fr1 s1 h1 => ?_
    obtain ⟨b, e, hb⟩ := Fin.now fr1 h1
    cases e
    exact hb
def ifeR (fc fa fb : Gm → G → R D) : Gm → G → R D := fun Γ g => (blR (fc Γ g)).bind fun k g => if k then fa Γ g else fb Γ g
theorem e_ife (hc : PT X c (tTt X.K W Ew fun Γ g => blR (fc Γ g))) (ha : PE X a (tE X.K W Ew fa)) (hb : PE X b (tE X.K W Ew fb)) : PE X (.IfExp c a b pos) (tE X.K W Ew (ifeR fc fa fb)) :=
  PE.imp (pe_ifExp hc ha hb) fun σ H Q ⟨Hk0, H0, Γ, g, Hk, fr, h⟩ => seqT (f := fun Γ g => blR (fc Γ g)) fr h fun k g1 Hk1 H1 fr1 s1 h1 => by
    cases k with
    | true => exact iteT ⟨Hk0, H0, Γ, g1, Hk1, fr1, h1⟩
    | false => exact iteF ⟨Hk0, H0, Γ, g1, Hk1, fr1, h1⟩
theorem DrawAt.unk_of {p : Addr} (_ : DrawAt W g H) (w : Wk W g Hk H) (hp : H p = none) : Hk p = none := by
  cases q : Hk p with
  | none => rfl
  | some o => rw [w.ex p o q] at hp; cases hp
/-- what is new may be told at once -/
theorem f_tell {e : Expr} (h : PE X e (tFf X.K W Ew fa)) (hl : ∀ Γ g d g', fa Γ g = .ok d g' → isOb d = true) : PE X e (tE X.K W Ew fa) := PE.imp h fun σ H Q ⟨Hk0, H0, Γ, g, Hk, fr, h⟩ => ⟨Hk0, H0, Γ, g, Hk, fr, by
  cases r : fa Γ g with
  | ok d g' =>
    rw [r] at h
    intro Hk' H' s dr p u hp hk hp' rl
    exact h _ H' (s.tell hp hp') dr (.ref p) ((rl.mono (Evl.Ex.new hk)).rp upd_same)
  | ex c ds g' => rw [r] at h; exact h
  | st => rw [r] at h; exact h⟩
/-! ### lists of arguments, displays -/
variable {es : List Expr} {fs : Gm → G → R (List D)}
theorem a_nil : PA X [] (tAa X.K W Ew fun _ g => .ok [] g) := PA.imp pa_nil fun σ H Q ⟨Hk0, H0, Γ, g, Hk, fr, h⟩ => Fin.now fr h [] rfl
theorem a_cons (ha : PE X a (tE X.K W Ew fa)) (hs : PA X es (tAa X.K W Ew fs)) (hn : starEach (a :: es) X.env = (false, eval a X.env) :: starEach es X.env) :
    PA X (a :: es) (tAa X.K W Ew fun Γ g => (fa Γ g).bind fun x g => (fs Γ g).bind fun xs g => .ok (x :: xs) g) :=
  PA.imp (pa_cons ha hs hn) fun σ H Q ⟨Hk0, H0, Γ, g, Hk, fr, h⟩ => seqE fr h fun v d g1 Hk1 H1 fr1 s1 r1 h1 => seqA fr1 h1 fun vs ds g2 Hk2 H2 fr2 s2 r2 h2 => Fin.now fr2 h2 _ (.cons (r1.mono s2.k) r2)
theorem Fin.monoE {α : Type} {r : R α} {k k' : α → G → Hp → Hp → Prop} (h : Fin W Ew Hk H r k) (hk : ∀ a g Hk' H', r = .ok a g → Step W Hk H Hk' H' → DrawAt W g H' → k a g Hk' H' → k' a g Hk' H') : Fin W Ew Hk H r k' := by
  cases r with
  | ok a g => exact fun Hk' H' s d => hk a g Hk' H' rfl s d (h Hk' H' s d)
  | ex c ds g => exact h
  | st => exact h
theorem seqAE {β : Type} {f : Gm → G → R (List D)} {k : List D → G → R β} {kk : β → G → Hp → Hp → Prop} {Q : List V → Hp → Prop} (fr : Fr K W Hk0 H0 Γ g σ Hk H) (h : Fin W Ew Hk H ((f Γ g).bind k) kk)
    (hq : ∀ vs ds g' Hk' H', f Γ g = .ok ds g' → Fr K W Hk0 H0 Γ g' σ Hk' H' → Step W Hk H Hk' H' → RpL K W Hk' ds vs → Fin W Ew Hk' H' (k ds g') kk → Q vs H') : tAa K W Ew f σ H Q :=
  ⟨Hk0, H0, Γ, g, Hk, fr, h.bind.monoE fun d g' Hk' H' e s dr kq v r => hq v d g' Hk' H' e (fr.step s dr) s r kq⟩
theorem e_tup {x1 : Nat} (hlen : ∀ Γ g ds g', fs Γ g = .ok ds g' → ds.length ≤ 1000000) (hs : PA X es (tAa X.K W Ew fs)) : PE X (.Tuple es x1 pos) (tE X.K W Ew fun Γ g => (fs Γ g).bind fun xs g => .ok (.tup xs) g) :=
  PE.imp (pe_tup hs) fun σ H Q ⟨Hk0, H0, Γ, g, Hk, fr, h⟩ => seqAE fr h fun vs ds g1 Hk1 H1 e fr1 s1 r1 h1 => ⟨size_le (by rw [r1.len]; exact hlen _ _ _ _ e), new_tup fr1.wk r1 fun v Hk' H' s dr r => h1 Hk' H' s dr v r⟩
/-- a display of a list, new -/
theorem f_lst (hlen : ∀ Γ g ds g', fs Γ g = .ok ds g' → ds.length ≤ 1000000) (hs : PA X es (tAa X.K W Ew fs)) : PE X (.List es pos) (tFf X.K W Ew fun Γ g => (fs Γ g).bind fun xs g => .ok (.lst xs) g) :=
  PE.imp (pe_lst hs) fun σ H Q ⟨Hk0, H0, Γ, g, Hk, fr, h⟩ => seqAE fr h fun vs ds g1 Hk1 H1 e fr1 s1 r1 h1 => ⟨size_le (by rw [r1.len]; exact hlen _ _ _ _ e), fun p hp => by
    have s2 : Step W Hk1 H1 Hk1 (upd H1 p (.lst vs)) := Step.hid fr1.wk.ex hp
    have hp0 : H p = none := by
      cases q : H p with
      | none => rfl
      | some o => obtain ⟨o', h'⟩ := s1.t p o q; rw [hp] at h'; cases h'
    exact h1 Hk1 _ s2 (fr1.wk.dr.upd (ex_upd_out fr1.wk.dr hp)) p _ hp0 (fr1.wk.dr.unk_of fr1.wk hp) upd_same ⟨vs, rfl, r1⟩⟩
end
end Bk

set_option Elab.async false
set_option linter.all false
set_option maxRecDepth 100000
set_option maxHeartbeats 1000000
/-! Expressions: subscripts, calls, walks, targets, comprehensions. -/
namespace Bk
open PySem L2
open Evl (Ex ex_l ex_t)
section
variable {X : Cx} {W : Wd} {Ew : XK} {Hk0 H0 Hk H : Hp} {Γ : Gm} {g : G} {σ : L2.St} {K : PySem.W.Frag}
variable {a b c : Expr} {pos : Pos} {fa fb fc : Gm → G → R D} {es : List Expr} {fs : Gm → G → R (List D)}
theorem e_idx (hu : X.A.units + 64 < cLine) (hw : W.w = X.w) (ha : PE X a (tE X.K W Ew fa)) (hb : PE X b (tE X.K W Ew fb)) (hs : PlainIx b) : PE X (.Subscript a b pos) (tE X.K W Ew fun Γ g => (fa Γ g).bind fun x g => (fb Γ g).bind fun y g => lift (idxD x y) g) :=
  PE.imp (pe_ix (ix_D hu hw) ha hb hs) fun σ H Q ⟨Hk0, H0, Γ, g, Hk, fr, h⟩ => seqE fr h fun v d g1 Hk1 H1 fr1 s1 r1 h1 => seqE fr1 h1 fun v2 d2 g2 Hk2 H2 fr2 s2 r2 h2 => by
    obtain ⟨z, ez, hz⟩ := h2.lift
    exact ⟨g2, Hk2, d, d2, z, fr2.wk, r1.mono s2.k, r2, ez, fun v3 Hk3 H3 s3 dr3 r3 => hz Hk3 H3 s3 dr3 v3 r3⟩
theorem o_none : PO X none (tOo X.K W Ew fun _ g => .ok none g) := PO.imp po_none fun σ H Q ⟨Hk0, H0, Γ, g, Hk, fr, h⟩ => Fin.now fr h
theorem o_some (ha : PE X a (tE X.K W Ew fa)) : PO X (some a) (tOo X.K W Ew fun Γ g => (fa Γ g).bind fun x g => match x with | .int i => .ok (some i) g | _ => .st) :=
  PO.imp (po_some ha) fun σ H Q ⟨Hk0, H0, Γ, g, Hk, fr, h⟩ => seqE fr h fun v d g1 Hk1 H1 fr1 s1 r1 h1 => by
    cases d with
    | int i => exact ⟨i, r1, Fin.now fr1 h1⟩
    | _ => exact h1.elim
theorem e_sl {lo hi : Option Expr} {fl fh : Gm → G → R (Option Int)} {p2 : Pos} (ha : PE X a (tE X.K W Ew fa)) (hl : PO X lo (tOo X.K W Ew fl)) (hh : PO X hi (tOo X.K W Ew fh)) :
    PE X (.Subscript a (.Slice lo hi none p2) pos) (tE X.K W Ew fun Γ g => (fa Γ g).bind fun x g => (fl Γ g).bind fun l g => (fh Γ g).bind fun h g => lift (slD x l h) g) :=
  PE.imp (pe_slice sl_D ha hl hh) fun σ H Q ⟨Hk0, H0, Γ, g, Hk, fr, h⟩ => seqE fr h fun v d g1 Hk1 H1 fr1 s1 r1 h1 => seqO fr1 h1 fun l g2 Hk2 H2 fr2 s2 h2 => seqO fr2 h2 fun u g3 Hk3 H3 fr3 s3 h3 => by
    obtain ⟨z, ez, hz⟩ := h3.lift
    exact ⟨g3, Hk3, d, z, fr3.wk, (r1.mono s2.k).mono s3.k, ez, fun v4 Hk4 H4 s4 dr4 r4 => hz Hk4 H4 s4 dr4 v4 r4⟩
/-- a def's promise -/
def spD (K : PySem.W.Frag) (W : Wd) (ps : List Str) (dn : List D → G → R D) : Sp := fun vs H Q E => vs.length = ps.length ∧ ∃ ds g Hk, Wk W g Hk H ∧ RpL K W Hk ds vs ∧ Fin W E Hk H (dn ds g) fun d _ Hk' H' => ∀ v, Rp K W Hk' d v → Q v H'
theorem nst {α : Type} {r : R α} {k : α → G → Hp → Hp → Prop} (h : Fin W Ew Hk H r k) : r ≠ .st := fun e => by subst e; exact h
theorem e_call {CX : CXT} {k : Nat} {f : Addr} {fd : FuncData} {ps : List Str} {x : Str} {p : Pos} {dn : List D → G → R D} (F : FnOkG X.prog X.w X.K X.mg X.base CX k f fd ps (spD X.K W ps dn)) (hr : Room k X.A) (hgd : X.A.guards = some [])
    (hg : Gl X x) (hm : X.mg x = some (.ref f)) (hk : PySem.W.keepIn X.K (.ref f) = true) (hb : Binds X.K fd ps []) (hx : Passes CX X Ew) (hln : ∀ ds g, dn ds g ≠ .st → ds.length = ps.length)
    (ha : PA X (a :: es) (tAa X.K W Ew fs)) (hdb : (x == ("__debug__" : Str)) = false) (he : starEach (a :: es) X.env = (false, eval a X.env) :: starEach es X.env) (hpl : (backTo pos (starEach es X.env)).any (·.1) = false) :
    PE X (.Call (.Name x p) (a :: es) [] pos) (tE X.K W Ew fun Γ g => (fs Γ g).bind fun xs g => dn xs g) :=
  PE.imp (pe_callG F hr hgd hg hm hk hb .nil hx ha hdb he hpl) fun σ H Q ⟨Hk0, H0, Γ, g, Hk, fr, h⟩ => seqA fr h fun vs ds g1 Hk1 H1 fr1 s1 r1 h1 => by
    rw [List.append_nil]
    exact ⟨by rw [r1.len]; exact hln _ _ (nst h1), ds, g1, Hk1, fr1.wk, r1, h1⟩
theorem e_call0 {CX : CXT} {k : Nat} {f : Addr} {fd : FuncData} {ps : List Str} {x : Str} {p : Pos} {dn : List D → G → R D} (F : FnOkG X.prog X.w X.K X.mg X.base CX k f fd ps (spD X.K W ps dn)) (hr : Room k X.A) (hgd : X.A.guards = some [])
    (hg : Gl X x) (hm : X.mg x = some (.ref f)) (hk : PySem.W.keepIn X.K (.ref f) = true) (hb : Binds X.K fd ps []) (hx : Passes CX X Ew) (hln : ∀ ds g, dn ds g ≠ .st → ds.length = ps.length) (hdb : (x == ("__debug__" : Str)) = false) :
    PE X (.Call (.Name x p) [] [] pos) (tE X.K W Ew fun Γ g => R.bind (R.ok [] g) fun xs g => dn xs g) :=
  PE.imp (pe_callG0 F hr hgd hg hm hk hb .nil hx hdb) fun σ H Q ⟨Hk0, H0, Γ, g, Hk, fr, h⟩ => by
    have h' : Fin W Ew Hk H (dn [] g) _ := h
    exact ⟨by rw [← hln _ _ (nst h')]; rfl, [], g, Hk, fr.wk, rfl, h'⟩
theorem e_biB {x : Str} {id : String} {p : Pos} {f : List D → Option D} (hc : CallR X (.builtin id) (rBi X.K W f)) (hg : Gl X x) (hm : X.mg x = none) (hv : bootBuiltins x = some (.builtin id)) (ha : PA X (a :: es) (tAa X.K W Ew fs))
    (hn : x ≠ "__name__") (hdb : (x == ("__debug__" : Str)) = false) (he : starEach (a :: es) X.env = (false, eval a X.env) :: starEach es X.env) (hpl : (backTo pos (starEach es X.env)).any (·.1) = false) :
    PE X (.Call (.Name x p) (a :: es) [] pos) (tE X.K W Ew fun Γ g => (fs Γ g).bind fun xs g => lift (f xs) g) :=
  PE.imp (pe_callB hc hg hm hv ha hn hdb he hpl) fun σ H Q ⟨Hk0, H0, Γ, g, Hk, fr, h⟩ => seqA fr h fun vs ds g1 Hk1 H1 fr1 s1 r1 h1 => by
    obtain ⟨z, ez, hz⟩ := h1.lift
    exact ⟨g1, Hk1, ds, z, fr1.wk, r1, ez, fun v3 Hk3 H3 s3 dr3 r3 => hz Hk3 H3 s3 dr3 v3 r3⟩
theorem e_biT {x : Str} {id : String} {p : Pos} {f : List D → Option D} (hc : CallR X (.type id) (rBi X.K W f)) (hg : Gl X x) (hm : X.mg x = none) (hv : bootBuiltins x = some (.type id)) (ha : PA X (a :: es) (tAa X.K W Ew fs))
    (hn : x ≠ "__name__") (hdb : (x == ("__debug__" : Str)) = false) (he : starEach (a :: es) X.env = (false, eval a X.env) :: starEach es X.env) (hpl : (backTo pos (starEach es X.env)).any (·.1) = false) :
    PE X (.Call (.Name x p) (a :: es) [] pos) (tE X.K W Ew fun Γ g => (fs Γ g).bind fun xs g => lift (f xs) g) :=
  PE.imp (pe_callTy hc hg hm hv ha hn hdb he hpl) fun σ H Q ⟨Hk0, H0, Γ, g, Hk, fr, h⟩ => seqA fr h fun vs ds g1 Hk1 H1 fr1 s1 r1 h1 => by
    obtain ⟨z, ez, hz⟩ := h1.lift
    exact ⟨g1, Hk1, ds, z, fr1.wk, r1, ez, fun v3 Hk3 H3 s3 dr3 r3 => hz Hk3 H3 s3 dr3 v3 r3⟩
/-! ### isinstance -/
def tyN : Ty → String
  | .int => "int"
  | .bool => "bool"
  | .str => "str"
  | .tuple => "tuple"
  | .list => "list"
def tyS : D → String
  | .non => "NoneType"
  | .bl _ => "bool"
  | .int _ => "int"
  | .str _ => "str"
  | .tup _ => "tuple"
  | .lst _ => "list"
  | .m => "dict"
  | .scr _ => "list"
  | .dct _ _ => "dict"
theorem sqL_ty {a : Addr} {xs : List V} (h : SqL K H a xs) : TyX K H (.ref a) (.type "list") := by
  rcases h with (h | ⟨o, h⟩) | ⟨o, its, n, h, hc, _⟩
  · exact .base (.lst h)
  · exact .base (.frz h)
  · exact .kList h hc
theorem sqT_ty {a : Addr} {xs : List V} (h : SqT K H a xs) : TyX K H (.ref a) (.type "tuple") := by
  rcases h with (h | ⟨o, h⟩) | ⟨o, its, n, h, hc, _⟩
  · exact .base (.tup h)
  · exact .fTuple h
  · exact .kTuple h hc
theorem rp_ty {d : D} {v : V} (r : Rp K W H d v) (hm : ∀ ts, isiD ts d ≠ none) : TyX K H v (.type (tyS d)) := by
  cases d with
  | non => rw [show v = _ from r]; exact .base .non
  | bl b => rw [show v = _ from r]; exact .base (.bl b)
  | int i => rw [show v = _ from r]; exact .base (.int i)
  | str x => rw [show v = _ from r]; exact .base (.str x)
  | tup ds => obtain ⟨a, xs, rfl, h1, _⟩ := r; exact sqT_ty h1
  | lst ds => obtain ⟨a, xs, rfl, h1, _⟩ := r; exact .base (.lst h1)
  | m => exact absurd rfl (hm [])
  | dct _ _ => exact absurd rfl (hm [])
  | scr ns => obtain ⟨a, rfl, h1⟩ := r; exact sqL_ty h1
theorem kit_one (t : Ty) (d : D) (hm : ∀ ts, isiD ts d ≠ none) : PySem.W.kitOne K (.type (tyS d)) (.type (tyN t)) = some (isI t d) := by
  cases d <;> (try exact absurd rfl (hm [])) <;> cases t <;> exact kit_ty (by simp only [tyS, tyN, isI]; decide +kernel)
theorem isiD_any (ts : List Ty) (d : D) (b : Bool) (h : isiD ts d = some b) : b = ts.any (isI · d) := by
  cases d <;> simp only [isiD, Option.some.injEq] at h <;> first | exact h.symm | cases h
theorem isi_some {ts : List Ty} {d : D} {b : Bool} (h : isiD ts d = some b) : ∀ ts', isiD ts' d ≠ none := by
  intro ts' e
  cases d with
  | m => simp only [isiD] at h; cases h
  | dct _ _ => simp only [isiD] at h; cases h
  | _ => simp only [isiD] at e; cases e
theorem kit_any (d : D) (hm : ∀ ts, isiD ts d ≠ none) : ∀ ts : List Ty, PySem.W.kitAny K (.type (tyS d)) (ts.map fun t => .type (tyN t)) = some (ts.any (isI · d))
  | [] => rfl
  | t :: ts => by
    rw [List.map_cons, List.any_cons]
    refine kitAny_cons (kit_one t d hm) (fun e => ?_) (fun e => ?_)
    · rw [e, Bool.false_or]; exact kit_any d hm ts
    · rw [e, Bool.true_or]
/-- isinstance(a, T) -/
theorem e_isi1 {p p2 : Pos} {t : Ty} {tx : Str} (ha : PE X a (tE X.K W Ew fa)) (ht : PE X b (tC (.ty (tyN t)))) (hg : Gl X "isinstance") (hm : X.mg "isinstance" = none)
    (he : starEach [a, b] X.env = (false, eval a X.env) :: starEach [b] X.env) (he2 : starEach [b] X.env = (false, eval b X.env) :: starEach [] X.env) (hpl : (backTo pos (starEach [b] X.env)).any (·.1) = false) :
    PE X (.Call (.Name "isinstance" p) [a, b] [] pos) (tE X.K W Ew fun Γ g => (fa Γ g).bind fun x g => lift ((isiD [t] x).map .bl) g) :=
  PE.imp (pe_callB call_isi hg hm (by decide +kernel) (pa_cons ha (pa_cons ht pa_nil he2) he) (by decide) (by decide) he hpl) fun σ H Q ⟨Hk0, H0, Γ, g, Hk, fr, h⟩ => seqE fr h fun v d g1 Hk1 H1 fr1 s1 r1 h1 => by
    obtain ⟨z, ez, hz⟩ := h1.lift
    obtain ⟨k, ek, rfl⟩ := Option.map_eq_some_iff.mp ez
    refine ⟨v, .ty (tyN t), _, _, k, rfl, .ty _, rp_ty (r1.mono fr1.wk.ex) (isi_some ek), ?_, hz Hk1 H1 (Step.refl fr1.wk.ex) fr1.wk.dr _ rfl⟩
    rw [kit_one t d (isi_some ek), isiD_any _ _ _ ek]
    simp
/-- isinstance(a, (T, U)) -/
theorem e_isi2 {p : Pos} {t u : Ty} {tc : TA} (ha : PE X a (tE X.K W Ew fa)) (ht : PE X b (tTup fun _ H Q => Q [.ty (tyN t), .ty (tyN u)] H)) (hg : Gl X "isinstance") (hm : X.mg "isinstance" = none)
    (he : starEach [a, b] X.env = (false, eval a X.env) :: starEach [b] X.env) (he2 : starEach [b] X.env = (false, eval b X.env) :: starEach [] X.env) (hpl : (backTo pos (starEach [b] X.env)).any (·.1) = false) :
    PE X (.Call (.Name "isinstance" p) [a, b] [] pos) (tE X.K W Ew fun Γ g => (fa Γ g).bind fun x g => lift ((isiD [t, u] x).map .bl) g) :=
  PE.imp (pe_callB call_isiT hg hm (by decide +kernel) (pa_cons ha (pa_cons ht pa_nil he2) he) (by decide) (by decide) he hpl) fun σ H Q ⟨Hk0, H0, Γ, g, Hk, fr, h⟩ => seqE fr h fun v d g1 Hk1 H1 fr1 s1 r1 h1 => by
    obtain ⟨z, ez, hz⟩ := h1.lift
    obtain ⟨k, ek, rfl⟩ := Option.map_eq_some_iff.mp ez
    refine ⟨by show 2 ≤ sizeLine; decide, fun q hq => ?_⟩
    have s2 : Step W Hk1 H1 (upd Hk1 q (.tup [.ty (tyN t), .ty (tyN u)])) (upd H1 q (.tup [.ty (tyN t), .ty (tyN u)])) := Step.new fr1.wk.ex hq
    have dr2 := fr1.wk.dr.upd (o := .tup [.ty (tyN t), .ty (tyN u)]) (ex_upd_out fr1.wk.dr hq)
    refine ⟨v, q, _, _, [t, u].map fun t => .type (tyN t), k, rfl, upd_same, .cons (.ty _) (.cons (.ty _) .nil), rp_ty ((r1.mono s2.k).mono s2.kh) (isi_some ek), ?_, hz _ _ s2 dr2 _ rfl⟩
    rw [kit_any d (isi_some ek), isiD_any _ _ _ ek]
/-! ### the drawing -/
def drawR (x y : D) (g : G) : R D := match x, y with
      | .m, .int lim => if 0 < lim ∧ lim < 2 ^ 4000 ∧ g.spot < 2 ^ 60 then .ok (.int (g.draw lim).1) (g.draw lim).2 else .st
      | _, _ => .st
/-- what `_law_draw` promises -/
def spDraw (W : Wd) : Sp := fun vs H Q _ => ∃ (lim : Int) (g : G) (Hk : Hp), vs = [.ref W.am, .int lim] ∧ Wk W g Hk H ∧ 0 < lim ∧ lim < 2 ^ 4000 ∧ g.spot < 2 ^ 60 ∧
  ∀ H', Step W Hk H Hk H' → DrawAt W (g.draw lim).2 H' → Q (.int (g.draw lim).1) H'
theorem e_draw {CX : CXT} {k : Nat} {f : Addr} {fd : FuncData} {ps : List Str} {x : Str} {p : Pos} (F : FnOkG X.prog X.w X.K X.mg X.base CX k f fd ps (spDraw W)) (hr : Room k X.A) (hgd : X.A.guards = some [])
    (hg : Gl X x) (hm : X.mg x = some (.ref f)) (hk : PySem.W.keepIn X.K (.ref f) = true) (hb : Binds X.K fd ps []) (hx : Passes CX X Ew)
    (ha : PE X a (tE X.K W Ew fa)) (hbb : PE X b (tE X.K W Ew fb)) (hdb : (x == ("__debug__" : Str)) = false) (he : starEach [a, b] X.env = (false, eval a X.env) :: starEach [b] X.env) (he2 : starEach [b] X.env = (false, eval b X.env) :: starEach [] X.env) (hpl : (backTo pos (starEach [b] X.env)).any (·.1) = false) :
    PE X (.Call (.Name x p) [a, b] [] pos) (tE X.K W Ew fun Γ g => (fa Γ g).bind fun x g => (fb Γ g).bind fun y g => drawR x y g) :=
  PE.imp (pe_callG F hr hgd hg hm hk hb .nil hx (pa_cons ha (pa_cons hbb pa_nil he2) he) hdb he hpl) fun σ H Q ⟨Hk0, H0, Γ, g, Hk, fr, h⟩ => seqE fr h fun v d g1 Hk1 H1 fr1 s1 r1 h1 => seqE fr1 h1 fun v2 d2 g2 Hk2 H2 fr2 s2 r2 h2 => by
    show spDraw W ([v, v2] ++ []) H2 Q Ew
    rw [List.append_nil]
    cases d <;> (try exact h2.elim)
    cases d2 <;> (try exact h2.elim)
    rename_i lim
    have h2' : Fin W Ew Hk2 H2 (if 0 < lim ∧ lim < 2 ^ 4000 ∧ g2.spot < 2 ^ 60 then R.ok (D.int (g2.draw lim).1) (g2.draw lim).2 else R.st) _ := h2
    by_cases hc : 0 < lim ∧ lim < 2 ^ 4000 ∧ g2.spot < 2 ^ 60
    · rw [if_pos hc] at h2'
      rw [show v = _ from r1, show v2 = _ from r2]
      exact ⟨lim, g2, Hk2, rfl, fr2.wk, hc.1, hc.2.1, hc.2.2, fun H' s dr => h2' Hk2 H' s dr _ rfl⟩
    · rw [if_neg hc] at h2'
      exact h2'.elim
/-! ### what is walked -/
variable {tg : Expr}
/-- lengths are within the line -/
theorem PI.inv {e : Expr} {wi : TI} (h : PI X tg e wi) : PI X tg e (fun σ H R => wi σ H fun J H' => (∀ b a xs, SqB X.K b H' a xs → xs.length ≤ sizeLine) → R J H') :=
  ⟨fun pins s σ H R I q => thn (h.run pins s σ H _ I q) fun v s1 h1 => thn h1 fun itv s2 ⟨it, fp, tn, J, H', e, I2, T, t0, f, r⟩ => ⟨it, fp, tn, J, H', e, I2, T, t0, f, r fun b a xs hq => (inv_seqB I2 hq).choose_spec.2.2⟩⟩
theorem i_seq (ha : PE X a (tE X.K W Ew fa)) : PI X tg a (tIi X.K W Ew fun Γ g => (fa Γ g).bind fun x g => lift (seqD x) g) := by
  refine ⟨fun pins s σ H R I h => ?_⟩
  obtain ⟨Hk0, H0, Γ, g, Hk, fr, h⟩ := h
  dsimp only at h
  cases e : fa Γ g with
  | st => rw [e] at h; exact h.elim
  | ex c ds g' =>
    refine (PI.inv (pi_tup (tg := tg) ha)).run pins s σ H R I ⟨Hk0, H0, Γ, g, Hk, fr, ?_⟩
    rw [e] at h ⊢
    exact h
  | ok d g' =>
    cases d <;> (try (rw [e] at h; exact h.elim))
    · refine (PI.inv (pi_tup (tg := tg) ha)).run pins s σ H R I ⟨Hk0, H0, Γ, g, Hk, fr, ?_⟩
      rw [e] at h ⊢
      intro Hk' H' s' dr v rv
      obtain ⟨a, xs, rfl, h1, h2⟩ := rv
      exact ⟨a, rfl, ⟨xs, ex_t s'.kh h1⟩, fun hz => h Hk' H' s' dr _ (itOk_tup (hz false a xs (ex_t s'.kh h1)) h1 h2)⟩
    · refine (PI.inv (pi_list (tg := tg) ha)).run pins s σ H R I ⟨Hk0, H0, Γ, g, Hk, fr, ?_⟩
      rw [e] at h ⊢
      intro Hk' H' s' dr v rv
      obtain ⟨a, xs, rfl, h1, h2⟩ := rv
      exact ⟨a, rfl, ⟨xs, SqL.of (s'.kh _ _ h1)⟩, fun hz => h Hk' H' s' dr _ (itOk_list (hz true a xs (SqL.of (s'.kh _ _ h1))) h1 h2)⟩
    · rename_i ks vs
      refine (pi_keysX (tg := tg) ha).run pins s σ H R I ⟨Hk0, H0, Γ, g, Hk, fr, ?_⟩
      rw [e] at h ⊢
      have h' : Fin W Ew Hk H (lift (if ks.length ≤ 1000000 then some ks else none) g') fun ds _ Hk' H' => ∀ J, ItOk X.K W J ds Hk' → R J H' := h
      by_cases hz : ks.length ≤ 1000000
      · rw [if_pos hz] at h'
        intro Hk' H' s' dr v rv
        obtain ⟨a, o, xs, rfl, h1, h2, h3, h4, h5, h6, h7⟩ := rv
        exact ⟨a, o, xs, W.w, rfl, h2, s'.kh _ _ h1, h3, h' Hk' H' s' dr _ (itOk_keys (size_le hz) h1 h6)⟩
      · rw [if_neg hz] at h'
        exact h'.elim
theorem i_rng1 {p : Pos} (hg : Gl X "range") (hm : X.mg "range" = none) (ha : PE X a (tE X.K W Ew fa)) (hs : starEach [a] X.env = (false, eval a X.env) :: starEach [] X.env) :
    PI X tg (.Call (.Name "range" p) [a] [] pos) (tIi X.K W Ew fun Γ g => (fa Γ g).bind fun x g => match x with | .int i => if -1000000 ≤ i ∧ i ≤ 1000000 then .ok (rngD 0 i.toNat) g else .st | _ => .st) :=
  PI.imp (pi_range1 hg hm (pa_cons ha pa_nil hs) hs) fun σ H Q ⟨Hk0, H0, Γ, g, Hk, fr, h⟩ => seqE fr h fun v d g1 Hk1 H1 fr1 s1 r1 h1 => by
    cases d <;> (try exact h1.elim)
    rename_i i
    have h1' : Fin W Ew Hk1 H1 (if -1000000 ≤ i ∧ i ≤ 1000000 then R.ok (rngD 0 i.toNat) g1 else R.st) _ := h1
    by_cases hc : -1000000 ≤ i ∧ i ≤ 1000000
    · rw [if_pos hc] at h1'
      rw [show v = .int i from r1]
      exact ⟨i, rfl, by omega, by omega, Fin.now fr1 h1' _ (itOk_rng 0 i.toNat (by omega))⟩
    · rw [if_neg hc] at h1'
      exact h1'.elim
theorem i_rng2 {p : Pos} (hg : Gl X "range") (hm : X.mg "range" = none) (ha : PE X a (tE X.K W Ew fa)) (hb : PE X b (tE X.K W Ew fb)) (hs : starEach [a, b] X.env = (false, eval a X.env) :: starEach [b] X.env) (hs2 : starEach [b] X.env = (false, eval b X.env) :: starEach [] X.env) :
    PI X tg (.Call (.Name "range" p) [a, b] [] pos) (tIi X.K W Ew fun Γ g => (fa Γ g).bind fun x g => (fb Γ g).bind fun y g => match x, y with
      | .int i, .int j => if (-1000000 ≤ i ∧ i ≤ 1000000) ∧ -1000000 ≤ j ∧ j ≤ 1000000 then .ok (rngD i (j - i).toNat) g else .st
      | _, _ => .st) :=
  PI.imp (pi_range2 hg hm (pa_cons ha (pa_cons hb pa_nil hs2) hs) (by rw [hs, hs2]; rfl) hs2) fun σ H Q ⟨Hk0, H0, Γ, g, Hk, fr, h⟩ => seqE fr h fun v d g1 Hk1 H1 fr1 s1 r1 h1 => seqE fr1 h1 fun v2 d2 g2 Hk2 H2 fr2 s2 r2 h2 => by
    cases d <;> (try exact h2.elim)
    cases d2 <;> (try exact h2.elim)
    rename_i i j
    have h1' : Fin W Ew Hk2 H2 (if (-1000000 ≤ i ∧ i ≤ 1000000) ∧ -1000000 ≤ j ∧ j ≤ 1000000 then R.ok (rngD i (j - i).toNat) g2 else R.st) _ := h2
    by_cases hc : (-1000000 ≤ i ∧ i ≤ 1000000) ∧ -1000000 ≤ j ∧ j ≤ 1000000
    · rw [if_pos hc] at h1'
      rw [show v = .int i from r1, show v2 = .int j from r2]
      exact ⟨i, j, rfl, by omega, Fin.now fr2 h1' _ (itOk_rng i (j - i).toNat (by omega))⟩
    · rw [if_neg hc] at h1'
      exact h1'.elim
theorem i_zip {p tpos : Pos} {elts : List Expr} {kk : Nat} (hg : Gl X "zip") (hm : X.mg "zip" = none) (ha : PE X a (tE X.K W Ew fa)) (hb : PE X b (tE X.K W Ew fb)) (hs : starEach [a, b] X.env = (false, eval a X.env) :: starEach [b] X.env) (hs2 : starEach [b] X.env = (false, eval b X.env) :: starEach [] X.env)
    (hpl : (backTo pos (starEach [b] X.env)).any (·.1) = false) :
    PI X (.Tuple elts kk tpos) (.Call (.Name "zip" p) [a, b] [] pos) (tIi X.K W Ew fun Γ g => (fa Γ g).bind fun x g => (fb Γ g).bind fun y g => match itemsD x, itemsD y with
      | some xs, some ys => .ok (zipD xs ys) g
      | _, _ => .st) :=
  PI.imp (PI.inv (pi_zipB hg hm (pa_cons ha (pa_cons hb pa_nil hs2) hs) hs hpl)) fun σ H Q ⟨Hk0, H0, Γ, g, Hk, fr, h⟩ => seqE fr h fun v d g1 Hk1 H1 fr1 s1 r1 h1 => seqE fr1 h1 fun v2 d2 g2 Hk2 H2 fr2 s2 r2 h2 => by
    cases e1 : itemsD d with
    | none => rw [e1] at h2; exact h2.elim
    | some xs =>
      cases e2 : itemsD d2 with
      | none => rw [e1, e2] at h2; exact h2.elim
      | some ys =>
        rw [e1, e2] at h2
        obtain ⟨b1, a1, vs1, rfl, q1, l1⟩ := items_sq (r1.mono s2.k) e1
        obtain ⟨b2, a2, vs2, rfl, q2, l2⟩ := items_sq r2 e2
        exact ⟨b1, b2, a1, a2, vs1, vs2, rfl, sqB_mono fr2.wk.ex q1, sqB_mono fr2.wk.ex q2, fun hz => Fin.now fr2 h2 _ (itOk_zip q1 q2 l1 l2 (hz _ _ _ (sqB_mono fr2.wk.ex q1)))⟩
theorem i_enum {p tpos : Pos} {elts : List Expr} {kk : Nat} (hg : Gl X "enumerate") (hm : X.mg "enumerate" = none) (ha : PE X a (tE X.K W Ew fa)) (hs : starEach [a] X.env = (false, eval a X.env) :: starEach [] X.env) :
    PI X (.Tuple elts kk tpos) (.Call (.Name "enumerate" p) [a] [] pos) (tIi X.K W Ew fun Γ g => (fa Γ g).bind fun x g => match itemsD x with
      | some xs => .ok (enumD 0 xs) g
      | _ => .st) :=
  PI.imp (PI.inv (pi_enumB hg hm (pa_cons ha pa_nil hs) hs)) fun σ H Q ⟨Hk0, H0, Γ, g, Hk, fr, h⟩ => seqE fr h fun v d g1 Hk1 H1 fr1 s1 r1 h1 => by
    cases e1 : itemsD d with
    | none => rw [e1] at h1; exact h1.elim
    | some xs =>
      rw [e1] at h1
      obtain ⟨b1, a1, vs1, rfl, q1, l1⟩ := items_sq r1 e1
      exact ⟨b1, a1, vs1, rfl, sqB_mono fr1.wk.ex q1, fun hz => Fin.now fr1 h1 _ (itOk_enum q1 l1 (hz _ _ _ (sqB_mono fr1.wk.ex q1)))⟩
/-! ### targets -/
theorem wipe_append (σ : L2.St) : ∀ (u v : List Nat), wipe σ (u ++ v) = wipe (wipe σ v) u
  | [], v => rfl
  | i :: u, v => by rw [List.cons_append, wipe, wipe, wipe_append σ u v]
theorem set_none_comm (σ : L2.St) (i j : Nat) : (σ.set i none).set j none = (σ.set j none).set i none := by
  by_cases h : i = j
  · subst h; rfl
  · exact List.set_comm _ _ h
theorem wipe_set (σ : L2.St) (i : Nat) : ∀ (v : List Nat), wipe (σ.set i none) v = (wipe σ v).set i none
  | [] => rfl
  | j :: v => by rw [wipe, wipe, wipe_set σ i v, set_none_comm]
theorem wipe_comm (σ : L2.St) : ∀ (u v : List Nat), wipe (wipe σ v) u = wipe (wipe σ u) v
  | [], v => rfl
  | i :: u, v => by rw [wipe, wipe, wipe_set, wipe_comm σ u v]
theorem g_var {i : Nat} {x : Str} {p : Pos} (h : PG X (.Name x p) (gName i)) : PG X (.Name x p) (tGg X.K W (.var i)) := PG.imp h fun v σ H Q ⟨Hk0, H0, Γ, g, Hk, d, Γ', fr, r, e, q⟩ => by
  simp only [setT] at e
  split at e
  · cases e
    refine q _ (fr.set r) ?_
    show (σ.set i (some v)).set i none = σ.set i none
    rw [List.set_set]
  · cases e
theorem g_tup {ts : List T} {k n : Nat} (hc : X.calm = true) (h : PGs X es (tGgs X.K W ts)) (hn : (assignEach es X.env).length = n) (hst : (assignEach es X.env).findIdx? (·.1) = none) (hl : ts.length = n) : PG X (.Tuple es k pos) (tGg X.K W (.tup ts)) :=
  PG.imp (pg_tup hc h hn hst) fun v σ H Q ⟨Hk0, H0, Γ, g, Hk, d, Γ', fr, r, e, q⟩ => by
    cases d <;> (try (simp only [setT] at e; cases e; done))
    rename_i ds
    obtain ⟨a, xs, rfl, h1, h2⟩ := r
    simp only [setT] at e
    refine ⟨a, xs, rfl, ex_t fr.wk.ex h1, ?_, Hk0, H0, Γ, g, Hk, ds, Γ', fr, h2, e, fun σ' fr' hw => q σ' fr' hw⟩
    rw [h2.len, ← hl]
    have : ∀ (ts : List T) (ds : List D) (Γ Γ' : Gm), setTs ts ds Γ = some Γ' → ds.length = ts.length := by
      intro ts
      induction ts with
      | nil => intro ds Γ Γ' e; cases ds with | nil => rfl | cons _ _ => simp only [setTs] at e; cases e
      | cons t ts ih =>
        intro ds Γ Γ' e
        cases ds with
        | nil => simp only [setTs] at e; cases e
        | cons d ds =>
          simp only [setTs, Option.bind_eq_some_iff] at e
          obtain ⟨Γ1, _, e2⟩ := e
          rw [List.length_cons, List.length_cons, ih ds Γ1 Γ' e2]
    exact this ts ds Γ Γ' e
theorem gs_nil : PGs X [] (tGgs X.K W []) := PGs.imp pgs_nil fun vs σ H Q ⟨Hk0, H0, Γ, g, Hk, ds, Γ', fr, r, e, q⟩ => by
  cases ds with
  | nil => simp only [setTs, Option.some.injEq] at e; subst e; exact ⟨r, q σ fr rfl⟩
  | cons _ _ => simp only [setTs] at e; cases e
theorem gs_cons {t : T} {ts : List T} (h1 : PG X a (tGg X.K W t)) (h2 : PGs X es (tGgs X.K W ts)) (hs : (assignEach (a :: es) X.env).map (·.2) = assign a X.env :: (assignEach es X.env).map (·.2)) : PGs X (a :: es) (tGgs X.K W (t :: ts)) :=
  PGs.imp (pgs_cons h1 h2 hs) fun vs σ H Q ⟨Hk0, H0, Γ, g, Hk, ds, Γ', fr, r, e, q⟩ => by
    cases ds with
    | nil => simp only [setTs] at e; cases e
    | cons d ds =>
      simp only [setTs, Option.bind_eq_some_iff] at e
      obtain ⟨Γ1, e1, e2⟩ := e
      obtain ⟨v, vr, rfl, r1, r2⟩ := r
      refine ⟨v, vr, rfl, Hk0, H0, Γ, g, Hk, d, Γ1, fr, r1, e1, fun σ1 fr1 w1 => ⟨Hk0, H0, Γ1, g, Hk, ds, Γ', fr1, r2, e2, fun σ2 fr2 w2 => q σ2 fr2 ?_⟩⟩
      show wipe σ2 (t.vars ++ varsT ts) = wipe σ (t.vars ++ varsT ts)
      rw [wipe_append, wipe_append, w2, wipe_comm, w1, wipe_comm]
end
end Bk

set_option Elab.async false
set_option linter.all false
set_option maxRecDepth 100000
set_option maxHeartbeats 1000000
/-! List comprehensions. -/
namespace Bk
open PySem L2
open Evl (Ex ex_l ex_t)
theorem wipe_idem (σ : L2.St) : ∀ (v : List Nat), wipe (wipe σ v) v = wipe σ v
  | [] => rfl
  | i :: v => by
    show (wipe ((wipe σ v).set i none) v).set i none = (wipe σ v).set i none
    rw [wipe_set, wipe_idem σ v, List.set_set]
def lcF (t : T) (fe : Gm → G → R D) (cf : Gm → G → R Bool) (Γ : Gm) : D → G → R (Option D) := fun x g => (lift (setT t x (wipeG Γ t.vars)) g).bind fun Γ' g =>
  (cf Γ' g).bind fun k g => if k then (fe Γ' g).bind fun y g => .ok (some y) g else .ok none g
theorem nox_ok {α : Type} {r : R α} {β : Type} {k : α → G → R β} {b : β} {g : G} (h : r.nox.bind k = .ok b g) : ∃ a g1, r = .ok a g1 ∧ k a g1 = .ok b g := by
  cases r with
  | ok a g1 => exact ⟨a, g1, rfl, h⟩
  | ex _ _ _ => cases h
  | st => cases h
theorem bind_ok {α : Type} {r : R α} {β : Type} {k : α → G → R β} {b : β} {g : G} (h : r.bind k = .ok b g) : ∃ a g1, r = .ok a g1 ∧ k a g1 = .ok b g := by
  cases r with
  | ok a g1 => exact ⟨a, g1, rfl, h⟩
  | ex _ _ _ => cases h
  | st => cases h
theorem lift_ok {α : Type} {o : Option α} {g g' : G} {a : α} (h : lift o g = .ok a g') : o = some a ∧ g = g' := by
  cases o with
  | none => cases h
  | some x => cases h; exact ⟨rfl, rfl⟩
theorem lcR_noex {f : D → G → R (Option D)} : ∀ {xs : List D} {g : G} {c : Nat} {ds : List D} {g' : G}, lcR f xs g ≠ .ex c ds g'
  | [], _, _, _, _, h => by cases h
  | x :: xs, g, c, ds, g', h => by
    unfold lcR at h
    cases e : f x g with
    | ok o g1 =>
      rw [e] at h
      have h' : (lcR f xs g1).bind _ = .ex c ds g' := h
      cases e2 : lcR f xs g1 with
      | ok ys g2 => rw [e2] at h'; cases h'
      | ex c' ds' g2 => exact lcR_noex e2
      | st => rw [e2] at h'; cases h'
    | ex _ _ _ => rw [e] at h; cases h
    | st => rw [e] at h; cases h
theorem lcR_cons {f : D → G → R (Option D)} {x : D} {xs : List D} {g g' : G} {zs : List D} (h : lcR f (x :: xs) g = .ok zs g') : ∃ o g1 ys, f x g = .ok o g1 ∧ lcR f xs g1 = .ok ys g' ∧ zs = (match o with | some y => y :: ys | none => ys) := by
  unfold lcR at h
  obtain ⟨o, g1, e1, h⟩ := nox_ok h
  obtain ⟨ys, g2, e2, h⟩ := bind_ok h
  cases h
  exact ⟨o, g1, ys, e1, e2, rfl⟩
section
variable {X : Cx} {W : Wd} {Ew : XK} {Hk0 H0 Hk H : Hp} {Γ : Gm} {g : G} {σ : L2.St} {K : PySem.W.Frag}
theorem Fin.of_ok {α : Type} {r : R α} {a : α} {k : α → G → Hp → Hp → Prop} (e : r = .ok a g) (h : ∀ Hk' H', Step W Hk H Hk' H' → DrawAt W g H' → k a g Hk' H') : Fin W Ew Hk H r k := by
  rw [e]; exact h
theorem none_back {Hk' H' : Hp} {p : Addr} (s : Step W Hk H Hk' H') (h : H' p = none) : H p = none := by
  cases q : H p with
  | none => rfl
  | some o => obtain ⟨o', h'⟩ := s.t p o q; rw [h] at h'; cases h'
theorem ts_nil : PTs X [] (tTt X.K W Ew fun _ g => .ok true g) := ⟨fun pins s σ H Q I ⟨Hk0, H0, Γ, g, Hk, fr, h⟩ => pts_nil.run pins s σ H Q I (Fin.now fr h)⟩
theorem f_lc {elt tg iter : Expr} {ifs : List Expr} {scope : Scope} {own : List (Str × Nat)} {t : T} {fi : Gm → G → R (List D)} {fe : Gm → G → R D} {cf : Gm → G → R Bool}
    (hc : X.calm = true) (hN : X.N.Nodup) (hi : PI X tg iter (tIi X.K W Ew fi)) (ok : BlkOk X.N X.env.scope scope own) (hown : own.map (·.2) = t.vars)
    (hg : ∀ (s : Shared) (H : Hp) (C : Addr) (cl : List (Str × Addr)) (fp : List Addr), PG (X.blk s H scope (compEnvC scope cl C X.env) fp) tg (tGg X.K W t))
    (ht : ∀ (s : Shared) (H : Hp) (C : Addr) (cl : List (Str × Addr)) (fp : List Addr), PTs (X.blk s H scope (compEnvC scope cl C X.env) fp) ifs (tTt X.K W E0 cf))
    (he : ∀ (s : Shared) (H : Hp) (C : Addr) (cl : List (Str × Addr)) (fp : List Addr), PE (X.blk s H scope (compEnvC scope cl C X.env) fp) elt (tE X.K W E0 fe))
    (hs : ∀ x, foldedSetIterable iter X.env x = pure x) :
    (∀ σ H Q, (tFf X.K W Ew fun Γ g => (fi Γ g).bind fun xs g => (lcR (lcF t fe cf Γ) xs g).bind fun ys g => .ok (.lst ys) g) σ H Q → tLc (tIi X.K W Ew fi) (tGg X.K W t) (tTt X.K W E0 cf) (tE X.K W E0 fe) (own.map (·.2)) σ H Q) := by
  intro σ H Q ⟨Hk0, H0, Γ, g, Hk, fr, h⟩
  rw [hown]
  refine seqI fr h fun J ds g1 Hk1 H1 fr1 s1 io h1 => fun Dl hD => ?_
  generalize hF : lcF t fe cf Γ = F at h1
  cases e : lcR F ds g1 with
  | st => rw [e] at h1; exact h1.elim
  | ex c ds' g' => exact absurd e lcR_noex
  | ok zs gE =>
    rw [e] at h1
    have hout : W.out Dl := ex_upd_out fr1.wk.dr hD
    have hk1 : Hk1 Dl = none := DrawAt.unk_of fr1.wk.dr fr1.wk hD
    have hD0 : H Dl = none := none_back s1 hD
    let Inv0 : Nat → Hp → Prop := fun i H' => i ≤ ds.length ∧ ∃ g Hk acc ys zs', Step W Hk1 H1 Hk H' ∧ DrawAt W g H' ∧ H' Dl = some (.lst acc) ∧ Hk Dl = none ∧ RpL X.K W Hk ys acc ∧ acc.length ≤ i ∧ lcR F (ds.drop i) g = .ok zs' gE ∧ ys ++ zs' = zs
    refine ⟨fun i m H' => m = ds.length - i ∧ Inv0 i H', ⟨ds.length, by simp, Nat.zero_le _, g1, Hk1, [], [], zs, Step.hid fr1.wk.ex hD, fr1.wk.dr.upd hout, upd_same, hk1, rfl, Nat.le_refl _, e, rfl⟩, ?_⟩
    rintro i m H' ⟨rfl, hi, g2, Hk2, acc, ys, zs', st, dr, hDl, hkD, ry, hl, el, ez⟩
    have wk2 : Wk W g2 Hk2 H' := fr1.wk.step st dr
    by_cases hlt : i < ds.length
    · refine .inr ⟨io.go i Hk2 H' g2 hlt st.k wk2, Inv0 (i + 1), fun H3 q => ⟨ds.length - (i + 1), by omega, rfl, q⟩, fun x H3 y => ?_⟩
      have hd : ds[i]? = some ds[i] := by simp [hlt]
      obtain ⟨Hk3, s3, dr3, rx⟩ := io.yld i Hk2 H' g2 x H3 ds[i] hd st.k wk2 y
      rw [List.drop_eq_getElem_cons hlt] at el
      obtain ⟨o, g4, ys', ef, er, ezs⟩ := lcR_cons el
      subst hF
      unfold lcF at ef
      obtain ⟨Γ', g5, e5, ef⟩ := bind_ok ef
      obtain ⟨e5', e5''⟩ := lift_ok e5
      subst e5''
      obtain ⟨k, g6, e6, ef⟩ := bind_ok ef
      have st3 := st.trans s3
      refine ⟨Hk0, H0, wipeG Γ t.vars, g2, Hk3, ds[i], Γ', (fr1.wipe t.vars).step st3 dr3, rx, e5', fun σ' fr' hw => ⟨by rw [hw, wipe_idem], Hk0, H0, Γ', g2, Hk3, fr', Fin.of_ok e6 fun Hk4 H4 s4 dr4 => ?_⟩⟩
      have h3D : H3 Dl = some (.lst acc) := s3.h _ _ hDl hout
      have h4D : H4 Dl = some (.lst acc) := s4.h _ _ h3D hout
      have k3D : Hk3 Dl = none := s3.unk hkD hDl
      have k4D : Hk4 Dl = none := s4.unk k3D h3D
      cases k with
      | false =>
        cases ef
        refine iteF ⟨hlt, _, Hk4, acc, ys, ys', st3.trans s4, dr4, h4D, k4D, (ry.mono s3.k).mono s4.k, by omega, er, ?_⟩
        rw [← ez, ezs]
      | true =>
        simp only [if_true] at ef
        obtain ⟨yv, g7, e7, ef⟩ := bind_ok ef
        cases ef
        refine iteT ⟨Hk0, H0, Γ', g6, Hk4, fr'.step s4 dr4, Fin.of_ok e7 fun Hk5 H5 s5 dr5 v rv => ⟨acc, s5.h _ _ h4D hout, ?_, hlt, g4, Hk5, acc ++ [v], ys ++ [yv], ys', ?_, dr5.upd hout, upd_same, s5.unk k4D h4D, ?_, ?_, er, ?_⟩⟩
        · have := io.len; omega
        · exact ((st3.trans s4).trans s5).mut hD (s5.unk k4D h4D)
        · exact (((ry.mono s3.k).mono s4.k).mono s5.k).append (.cons rv .nil)
        · simp; omega
        · rw [← ez, ezs, List.append_assoc]; rfl
    · have hi' : i = ds.length := by omega
      subst hi'
      rw [List.drop_length] at el
      cases el
      refine .inl ⟨io.stop _ Hk2 H' _ rfl st.k wk2, ?_⟩
      rw [List.append_nil] at ez
      subst ez
      exact h1 Hk2 H' st dr Dl _ hD0 hkD hDl ⟨acc, rfl, ry⟩
end
end Bk

set_option Elab.async false
set_option linter.all false
set_option maxRecDepth 100000
set_option maxHeartbeats 2000000
/-! Owned lists: what is read of them, what is changed in them; new lists by other roads; starred items. -/
namespace Bk
open PySem L2
open Evl (Ex ex_l ex_t)
section
variable {X : Cx} {W : Wd} {Ew : XK} {Hk0 H0 Hk H : Hp} {Γ : Gm} {g : G} {σ : L2.St} {K : PySem.W.Frag}
theorem RpL.set : ∀ {ds : List D} {vs : List V} (j : Nat) {d : D} {v : V}, RpL K W H ds vs → Rp K W H d v → RpL K W H (ds.set j d) (vs.set j v)
  | [], vs, j, d, v, h, r => by rw [show vs = [] from h]; exact rfl
  | e :: ds, vs, 0, d, v, h, r => by
    obtain ⟨y, ys, rfl, h1, h2⟩ := h
    exact ⟨v, ys, rfl, r, h2⟩
  | e :: ds, vs, j + 1, d, v, h, r => by
    obtain ⟨y, ys, rfl, h1, h2⟩ := h
    exact ⟨y, ys.set j v, rfl, h1, RpL.set j h2 r⟩
theorem RpL.rev {ds : List D} {vs : List V} (h : RpL K W H ds vs) : RpL K W H ds.reverse vs.reverse := by
  induction ds generalizing vs with
  | nil => rw [show vs = [] from h]; exact rfl
  | cons d ds ih =>
    obtain ⟨y, ys, rfl, h1, h2⟩ := h
    rw [List.reverse_cons, List.reverse_cons]
    exact (ih h2).append (.cons h1 .nil)
theorem RpL.dropLast {ds : List D} {vs : List V} (h : RpL K W H ds vs) : RpL K W H ds.dropLast vs.dropLast := by
  rw [List.dropLast_eq_take, List.dropLast_eq_take, h.len]
  exact h.take _
/-- a new list, at an end -/
theorem fin_own {Hs Hk2 H2 : Hp} {Q : VK} {zs : List D} {acc : List V} {p : Addr} (fr : Fr K W Hk0 H0 Γ g σ Hk2 H2) (h : Fin W Ew Hk2 H2 (R.ok (D.lst zs) g) fun d _ Hk' H' => ∀ p u, Hs p = none → Hk' p = none → H' p = some u → Ob K W Hk' d p u → Q (.ref p) H')
    (hp : H2 p = none) (r : RpL K W Hk2 zs acc) (hs : Hs p = none) : Q (.ref p) (upd H2 p (.lst acc)) :=
  h Hk2 _ (Step.hid fr.wk.ex hp) (fr.wk.dr.upd (ex_upd_out fr.wk.dr hp)) p _ hs (fr.wk.dr.unk_of fr.wk hp) upd_same ⟨acc, rfl, r⟩
variable {a b : Expr} {es : List Expr} {pos : Pos} {fa fb : Gm → G → R D} {fs : Gm → G → R (List D)}
def catR (fa fb : Gm → G → R D) : Gm → G → R D := fun Γ g => (fa Γ g).bind fun x g => (fb Γ g).bind fun y g => match x, y with
      | .lst xs, .lst ys => if xs.length + ys.length ≤ 1000000 then .ok (.lst (xs ++ ys)) g else .st
      | _, _ => .st
theorem f_cat (ha : PE X a (tE X.K W Ew fa)) (hb : PE X b (tE X.K W Ew fb)) : PE X (.BinOp a .Add b pos) (tFf X.K W Ew (catR fa fb)) :=
  PE.imp (pe_op op_cat ha hb) fun σ H Q ⟨Hk0, H0, Γ, g, Hk, fr, h⟩ => seqE fr h fun v d g1 Hk1 H1 fr1 s1 r1 h1 => seqE fr1 h1 fun v2 d2 g2 Hk2 H2 fr2 s2 r2 h2 => by
    cases d <;> (try exact h2.elim)
    cases d2 <;> (try exact h2.elim)
    rename_i xs ys
    obtain ⟨a, vs, rfl, q1, q2⟩ := r1
    obtain ⟨b, us, rfl, q3, q4⟩ := r2
    have h2' : Fin W Ew Hk2 H2 (if xs.length + ys.length ≤ 1000000 then R.ok (D.lst (xs ++ ys)) g2 else R.st) _ := h2
    by_cases hz : xs.length + ys.length ≤ 1000000
    · rw [if_pos hz] at h2'
      exact ⟨a, b, vs, us, rfl, rfl, fr2.wk.ex _ _ (s2.k _ _ q1), fr2.wk.ex _ _ q3, size_le (by rw [q2.len, q4.len]; exact hz), fun p hp => fin_own fr2 h2' hp ((q2.mono s2.k).append q4) (none_back s1 (none_back s2 hp))⟩
    · rw [if_neg hz] at h2'; exact h2'.elim
theorem cat_shape {Γ : Gm} {g g' : G} {d : D} (h : catR fa fb Γ g = .ok d g') : isOb d = true := by
  unfold catR at h
  obtain ⟨x, g1, _, h⟩ := bind_ok h
  obtain ⟨y, g2, _, h⟩ := bind_ok h
  cases x <;> (try (cases h; done))
  cases y <;> (try (cases h; done))
  dsimp only at h
  split at h
  · cases h; rfl
  · cases h
def revR (fa : Gm → G → R D) : Gm → G → R D := fun Γ g => (fa Γ g).bind fun x g => match x with
      | .lst xs => .ok (.lst xs.reverse) g
      | _ => .st
theorem f_rev {k : Nat} {p1 p2 p3 : Pos} (ha : PE X a (tE X.K W Ew fa)) : PE X (.Subscript a (.Slice none none (some (.UnaryOp .USub (.Constant (.int 1) k p1) p2)) p3) pos) (tFf X.K W Ew (revR fa)) :=
  PE.imp (pe_revL ha) fun σ H Q ⟨Hk0, H0, Γ, g, Hk, fr, h⟩ => seqE fr h fun v d g1 Hk1 H1 fr1 s1 r1 h1 => by
    cases d <;> (try exact h1.elim)
    rename_i xs
    obtain ⟨a, vs, rfl, q1, q2⟩ := r1
    exact ⟨a, vs, rfl, SqL.of (fr1.wk.ex _ _ q1), fun p hp => fin_own fr1 h1 hp q2.rev (none_back s1 hp)⟩
theorem rev_shape {Γ : Gm} {g g' : G} {d : D} (h : revR fa Γ g = .ok d g') : isOb d = true := by
  unfold revR at h
  obtain ⟨x, g1, _, h⟩ := bind_ok h
  cases x <;> (try (cases h; done))
  cases h; rfl
/-! ### list(..), sorted(..) -/
def rBiF (K : PySem.W.Frag) (W : Wd) (f : List D → Option D) : List V → Hp → VK → Prop := fun vs H Q => ∃ g Hk ds zs, Wk W g Hk H ∧ RpL K W Hk ds vs ∧ f ds = some (.lst zs) ∧ ∀ p acc, H p = none → RpL K W Hk zs acc → Q (.ref p) (upd H p (.lst acc))
theorem list_shape : ∀ (ds : List D) (d : D), biD .list ds = some d → ∃ zs, d = .lst zs
  | [.lst xs], d, e => by simp only [biD, Option.some.injEq] at e; exact ⟨_, e.symm⟩
  | [.tup xs], d, e => by simp only [biD, Option.some.injEq] at e; exact ⟨_, e.symm⟩
  | [.str _], _, e => by simp [biD] at e
  | [.non], _, e => by simp [biD] at e
  | [.bl _], _, e => by simp [biD] at e
  | [.int _], _, e => by simp [biD] at e
  | [.m], _, e => by simp [biD] at e
  | [.scr _], _, e => by simp [biD] at e
  | [.dct ks _], d, e => by
    simp only [biD] at e
    split at e
    · cases e; exact ⟨_, rfl⟩
    · cases e
  | [], _, e => by simp [biD] at e
  | _ :: _ :: _, _, e => by simp [biD] at e
theorem sortd_shape : ∀ (ds : List D) (d : D), biD .sortd ds = some d → ∃ zs, d = .lst zs
  | [.lst xs], d, e => by
    simp only [biD] at e
    split at e
    · cases e; exact ⟨_, rfl⟩
    · cases e
  | [.tup _], _, e => by simp [biD] at e
  | [.str _], _, e => by simp [biD] at e
  | [.non], _, e => by simp [biD] at e
  | [.bl _], _, e => by simp [biD] at e
  | [.int _], _, e => by simp [biD] at e
  | [.m], _, e => by simp [biD] at e
  | [.scr _], _, e => by simp [biD] at e
  | [.dct _ _], _, e => by simp [biD] at e
  | [], _, e => by simp [biD] at e
  | _ :: _ :: _, _, e => by simp [biD] at e
theorem sort_shape : ∀ (ds : List D) (d : D), biD .sorted ds = some d → ∃ zs, d = .lst zs
  | [.lst xs], d, e => by
    simp only [biD, Option.map_eq_some_iff] at e
    obtain ⟨_, _, e⟩ := e
    exact ⟨_, e.symm⟩
  | [.tup xs], d, e => by
    simp only [biD, Option.map_eq_some_iff] at e
    obtain ⟨_, _, e⟩ := e
    exact ⟨_, e.symm⟩
  | [.str _], _, e => by simp [biD] at e
  | [.non], _, e => by simp [biD] at e
  | [.bl _], _, e => by simp [biD] at e
  | [.int _], _, e => by simp [biD] at e
  | [.m], _, e => by simp [biD] at e
  | [.scr _], _, e => by simp [biD] at e
  | [.dct _ _], _, e => by simp [biD] at e
  | [], _, e => by simp [biD] at e
  | _ :: _ :: _, _, e => by simp [biD] at e
theorem call_listF (hc : X.calm = true) : CallR X (.type "list") (rBiF X.K W (biD .list)) := by
  intro pins s σ H vs us Q I rv h
  obtain ⟨g, Hk, ds, zs, w, r, e, q⟩ := h
  match ds, e with
  | [.lst xs], e =>
    obtain ⟨x, rfl, a, ys, rfl, h1, h2⟩ := len1 r
    simp only [biD, Option.some.injEq, D.lst.injEq] at e
    subst e
    exact call_list_of pins s σ H _ us Q I rv ⟨a, ys, rfl, .inl (SqL.of (w.ex _ _ h1)), fun p hp => q p ys hp h2⟩
  | [.tup xs], e =>
    obtain ⟨x, rfl, a, ys, rfl, h1, h2⟩ := len1 r
    simp only [biD, Option.some.injEq, D.lst.injEq] at e
    subst e
    exact call_list_of pins s σ H _ us Q I rv ⟨a, ys, rfl, .inr (ex_t w.ex h1), fun p hp => q p ys hp h2⟩
  | [.str _], e => simp [biD] at e
  | [.non], e => simp [biD] at e
  | [.bl _], e => simp [biD] at e
  | [.int _], e => simp [biD] at e
  | [.m], e => simp [biD] at e
  | [.scr _], e => simp [biD] at e
  | [.dct ks ws], e =>
    obtain ⟨x, rfl, a, o, xs, rfl, h1, h2, h3, h4, h5, h6, h7⟩ := len1 r
    simp only [biD] at e
    split at e
    · rename_i hz
      simp only [Option.some.injEq, D.lst.injEq] at e
      subst e
      rw [Vals.ref1 rv]
      have hl := h6.len
      rw [List.length_map] at hl
      exact call_listX hc I h2 (w.ex _ _ h1) h3 (size_le (by rw [hl]; exact hz)) fun p hp => q p _ hp h6
    · cases e
  | [], e => simp [biD] at e
  | _ :: _ :: _, e => simp [biD] at e
theorem call_sortdF (hu : X.A.units + 66 < cLine) : CallR X (.builtin "sorted") (rBiF X.K W (biD .sortd)) := by
  intro pins s σ H vs us Q I rv h
  obtain ⟨g, Hk, ds, zs, w, r, e, q⟩ := h
  match ds, e with
  | [.lst xs], e =>
    obtain ⟨x, rfl, a, ys, rfl, h1, h2⟩ := len1 r
    simp only [biD] at e
    split at e
    · rename_i hk
      simp only [Bool.and_eq_true] at hk
      cases e
      rw [Vals.ref1 rv]
      exact call_sortd hu I w.ex (SqL.of (w.ex _ _ h1)) h2 hk.1 hk.2 fun p acc hp ra => q p acc hp ra
    · cases e
  | [.tup _], e => simp [biD] at e
  | [.str _], e => simp [biD] at e
  | [.non], e => simp [biD] at e
  | [.bl _], e => simp [biD] at e
  | [.int _], e => simp [biD] at e
  | [.m], e => simp [biD] at e
  | [.scr _], e => simp [biD] at e
  | [.dct _ _], e => simp [biD] at e
  | [], e => simp [biD] at e
  | _ :: _ :: _, e => simp [biD] at e
theorem call_sortF : CallR X (.builtin "sorted") (rBiF X.K W (biD .sorted)) := by
  intro pins s σ H vs us Q I rv h
  obtain ⟨g, Hk, ds, zs, w, r, e, q⟩ := h
  match ds, e with
  | [.lst xs], e =>
    obtain ⟨x, rfl, a, ys, rfl, h1, h2⟩ := len1 r
    simp only [biD, Option.map_eq_some_iff, D.lst.injEq] at e
    obtain ⟨ns, en, rfl⟩ := e
    rw [h2.ints en] at h1
    refine cr_sortedI pins s σ H _ us Q I rv ⟨a, ns, rfl, SqL.of (w.ex _ _ h1), fun ns' p hp hs hn => ?_⟩
    have e : ns' = sortI ns := PySem.W.ksm_same (hp.trans (sortI_perm ns).symm) hs (sortI_sorted ns)
    rw [e]
    exact q p _ hn (RpL.ofInts _)
  | [.tup xs], e =>
    obtain ⟨x, rfl, a, ys, rfl, h1, h2⟩ := len1 r
    simp only [biD, Option.map_eq_some_iff, D.lst.injEq] at e
    obtain ⟨ns, en, rfl⟩ := e
    rw [h2.ints en] at h1
    refine cr_sortT pins s σ H _ us Q I rv ⟨a, ns, rfl, ex_t w.ex h1, fun ns' p hp hs hn => ?_⟩
    have e : ns' = sortI ns := PySem.W.ksm_same (hp.trans (sortI_perm ns).symm) hs (sortI_sorted ns)
    rw [e]
    exact q p _ hn (RpL.ofInts _)
  | [.str _], e => simp [biD] at e
  | [.non], e => simp [biD] at e
  | [.bl _], e => simp [biD] at e
  | [.int _], e => simp [biD] at e
  | [.m], e => simp [biD] at e
  | [.scr _], e => simp [biD] at e
  | [.dct _ _], e => simp [biD] at e
  | [], e => simp [biD] at e
  | _ :: _ :: _, e => simp [biD] at e
theorem f_biB {x : Str} {id : String} {p : Pos} {f : List D → Option D} (hl : ∀ ds d, f ds = some d → ∃ zs, d = .lst zs) (hc : CallR X (.builtin id) (rBiF X.K W f)) (hg : Gl X x) (hm : X.mg x = none) (hv : bootBuiltins x = some (.builtin id)) (ha : PA X (a :: es) (tAa X.K W Ew fs))
    (hn : x ≠ "__name__") (hdb : (x == ("__debug__" : Str)) = false) (he : starEach (a :: es) X.env = (false, eval a X.env) :: starEach es X.env) (hpl : (backTo pos (starEach es X.env)).any (·.1) = false) :
    PE X (.Call (.Name x p) (a :: es) [] pos) (tFf X.K W Ew fun Γ g => (fs Γ g).bind fun xs g => lift (f xs) g) :=
  PE.imp (pe_callB hc hg hm hv ha hn hdb he hpl) fun σ H Q ⟨Hk0, H0, Γ, g, Hk, fr, h⟩ => seqA fr h fun vs ds g1 Hk1 H1 fr1 s1 r1 h1 => by
    cases ez : f ds with
    | none => rw [ez] at h1; exact h1.elim
    | some z =>
      obtain ⟨zs, rfl⟩ := hl _ _ ez
      rw [ez] at h1
      exact ⟨g1, Hk1, ds, zs, fr1.wk, r1, ez, fun p acc hp r => fin_own fr1 h1 hp r (none_back s1 hp)⟩
theorem f_biT {x : Str} {id : String} {p : Pos} {f : List D → Option D} (hl : ∀ ds d, f ds = some d → ∃ zs, d = .lst zs) (hc : CallR X (.type id) (rBiF X.K W f)) (hg : Gl X x) (hm : X.mg x = none) (hv : bootBuiltins x = some (.type id)) (ha : PA X (a :: es) (tAa X.K W Ew fs))
    (hn : x ≠ "__name__") (hdb : (x == ("__debug__" : Str)) = false) (he : starEach (a :: es) X.env = (false, eval a X.env) :: starEach es X.env) (hpl : (backTo pos (starEach es X.env)).any (·.1) = false) :
    PE X (.Call (.Name x p) (a :: es) [] pos) (tFf X.K W Ew fun Γ g => (fs Γ g).bind fun xs g => lift (f xs) g) :=
  PE.imp (pe_callTy hc hg hm hv ha hn hdb he hpl) fun σ H Q ⟨Hk0, H0, Γ, g, Hk, fr, h⟩ => seqA fr h fun vs ds g1 Hk1 H1 fr1 s1 r1 h1 => by
    cases ez : f ds with
    | none => rw [ez] at h1; exact h1.elim
    | some z =>
      obtain ⟨zs, rfl⟩ := hl _ _ ez
      rw [ez] at h1
      exact ⟨g1, Hk1, ds, zs, fr1.wk, r1, ez, fun p acc hp r => fin_own fr1 h1 hp r (none_back s1 hp)⟩
/-! ### list(range) -/
def lrng1R (fa : Gm → G → R D) : Gm → G → R D := fun Γ g => (fa Γ g).bind fun x g => match x with | .int i => if -1000000 ≤ i ∧ i ≤ 1000000 then .ok (.lst (rngD 0 i.toNat)) g else .st | _ => .st
theorem f_lrng1 {p pos2 pr : Pos} (hc : X.calm = true) (hg : Gl X "list") (hm : X.mg "list" = none) (hg2 : Gl X "range") (hm2 : X.mg "range" = none) (ha : PE X a (tE X.K W Ew fa)) (na : starEach [a] X.env = (false, eval a X.env) :: starEach [] X.env) :
    PE X (.Call (.Name "list" p) [.Call (.Name "range" pr) [a] [] pos2] [] pos) (tFf X.K W Ew (lrng1R fa)) :=
  PE.imp (pe_listRg hc hg hm (prg_1 hg2 hm2 ha na)) fun σ H Q ⟨Hk0, H0, Γ, g, Hk, fr, h⟩ => seqE fr h fun v d g1 Hk1 H1 fr1 s1 r1 h1 => by
    cases d <;> (try exact h1.elim)
    rename_i i
    have h1' : Fin W Ew Hk1 H1 (if -1000000 ≤ i ∧ i ≤ 1000000 then R.ok (D.lst (rngD 0 i.toNat)) g1 else R.st) _ := h1
    by_cases hz : -1000000 ≤ i ∧ i ≤ 1000000
    · rw [if_pos hz] at h1'
      refine ⟨i, r1, ⟨by omega, by omega, by omega, by omega, by omega⟩, fun p hp => fin_own fr1 h1' hp ?_ (none_back s1 hp)⟩
      have e : (i - 0).toNat = i.toNat := by rw [Int.sub_zero]
      unfold rgV
      rw [e]
      exact rg_rel _ _
    · rw [if_neg hz] at h1'; exact h1'.elim
theorem lrng1_shape {Γ : Gm} {g g' : G} {d : D} (h : lrng1R fa Γ g = .ok d g') : isOb d = true := by
  unfold lrng1R at h
  obtain ⟨x, g1, _, h⟩ := bind_ok h
  cases x <;> (try (cases h; done))
  dsimp only at h
  split at h
  · cases h; rfl
  · cases h
def lrng2R (fa fb : Gm → G → R D) : Gm → G → R D := fun Γ g => (fa Γ g).bind fun x g => (fb Γ g).bind fun y g => match x, y with
      | .int i, .int j => if (-1000000 ≤ i ∧ i ≤ 1000000) ∧ -1000000 ≤ j ∧ j ≤ 1000000 then .ok (.lst (rngD i (j - i).toNat)) g else .st
      | _, _ => .st
theorem f_lrng2 {p pos2 pr : Pos} (hc : X.calm = true) (hg : Gl X "list") (hm : X.mg "list" = none) (hg2 : Gl X "range") (hm2 : X.mg "range" = none) (ha : PE X a (tE X.K W Ew fa)) (hb : PE X b (tE X.K W Ew fb))
    (na : starEach [a, b] X.env = (false, eval a X.env) :: starEach [b] X.env) (nb : starEach [b] X.env = (false, eval b X.env) :: starEach [] X.env) (hp : (backTo pos2 (starEach [b] X.env)).any (·.1) = false) :
    PE X (.Call (.Name "list" p) [.Call (.Name "range" pr) [a, b] [] pos2] [] pos) (tFf X.K W Ew (lrng2R fa fb)) :=
  PE.imp (pe_listRg hc hg hm (prg_2 hg2 hm2 ha hb na nb hp)) fun σ H Q ⟨Hk0, H0, Γ, g, Hk, fr, h⟩ => seqE fr h fun v d g1 Hk1 H1 fr1 s1 r1 h1 => seqE fr1 h1 fun v2 d2 g2 Hk2 H2 fr2 s2 r2 h2 => by
    cases d <;> (try exact h2.elim)
    cases d2 <;> (try exact h2.elim)
    rename_i i j
    have h2' : Fin W Ew Hk2 H2 (if (-1000000 ≤ i ∧ i ≤ 1000000) ∧ -1000000 ≤ j ∧ j ≤ 1000000 then R.ok (D.lst (rngD i (j - i).toNat)) g2 else R.st) _ := h2
    by_cases hz : (-1000000 ≤ i ∧ i ≤ 1000000) ∧ -1000000 ≤ j ∧ j ≤ 1000000
    · rw [if_pos hz] at h2'
      refine ⟨i, j, r1, r2, ⟨by omega, by omega, by omega, by omega, by omega⟩, fun p hp => fin_own fr2 h2' hp ?_ (none_back s1 (none_back s2 hp))⟩
      unfold rgV
      exact rg_rel _ _
    · rw [if_neg hz] at h2'; exact h2'.elim
theorem lrng2_shape {Γ : Gm} {g g' : G} {d : D} (h : lrng2R fa fb Γ g = .ok d g') : isOb d = true := by
  unfold lrng2R at h
  obtain ⟨x, g1, _, h⟩ := bind_ok h
  obtain ⟨y, g2, _, h⟩ := bind_ok h
  cases x <;> (try (cases h; done))
  cases y <;> (try (cases h; done))
  dsimp only at h
  split at h
  · cases h; rfl
  · cases h
/-! ### an item of an owned list -/
def idxOR (i : Nat) (fb : Gm → G → R D) : Gm → G → R D := fun Γ g => match Γ[i]? with
      | some (.own d) => (fb Γ g).bind fun y g => lift (idxD d y) g
      | _ => .st
/-- an item of what stands at p -/
def rIO (K : PySem.W.Frag) (W : Wd) : R2 := fun x y H Q => (∃ (p : Addr) (xs : List V) (i : Int) (v : V), x = .ref p ∧ y = .int i ∧ SqL K H p xs ∧ atI xs i = some v ∧ Q v H) ∨
  ∃ (p : Addr) (ks vs : List D) (k d : D) (Hk : Hp), x = .ref p ∧ Ex Hk H ∧ DAt K W Hk H p ks vs ∧ Rp K W Hk k y ∧ okK k = true ∧ getK (keyD k) ks vs = some d ∧ ∀ v, Rp K W Hk d v → Q v H
theorem ix_O (hu : X.A.units + 64 < cLine) (hw : W.w = X.w) : IxR X (rIO X.K W) := by
  intro value slice pins s σ H x y v u Q I rx ry h hs
  rcases h with h | ⟨p, ks, vs, k, d, Hk, rfl, ex, h1, h2, h3, h4, q⟩
  · exact ix_list value slice pins s σ H x y v u Q I rx ry h hs
  · have e2 : v = Value.ref p := rx
    subst e2
    exact ix_dct hu hw I ex h1 h2 h3 ry h4 hs fun v' w' s' I' q1 q2 => ⟨v', H, I', q2, q v' q1⟩
theorem e_idxO (hu : X.A.units + 64 < cLine) (hw : W.w = X.w) {i : Nat} (hv : PE X a (tVar i)) (hb : PE X b (tE X.K W Ew fb)) (hs : PlainIx b) : PE X (.Subscript a b pos) (tE X.K W Ew (idxOR i fb)) :=
  PE.imp (pe_ix (ix_O hu hw) hv hb hs) fun σ H Q ⟨Hk0, H0, Γ, g, Hk, fr, h⟩ => by
    obtain ⟨os, sl, nd, ho⟩ := fr.sl
    unfold idxOR at h
    cases e1 : Γ[i]? with
    | none => simp only [e1] at h; exact h.elim
    | some s0 =>
      cases s0 with
      | no => simp only [e1] at h; exact h.elim
      | val _ => simp only [e1] at h; exact h.elim
      | own d =>
        obtain ⟨p, u, h2, hm, h4, h5⟩ := sl.obj_at e1
        simp only [e1] at h
        refine ⟨.ref p, h2, seqE fr h fun v2 d2 g2 Hk2 H2 fr2 s2 r2 h2' => ?_⟩
        obtain ⟨z, ez, hz⟩ := h2'.lift
        have h4' := s2.h _ _ h4 (ho p hm).2.2
        cases d <;> (try exact h5.elim)
        · obtain ⟨xs, e3, h5⟩ := h5
          subst e3
          cases d2 <;> (try (simp only [idxD] at ez; cases ez; done))
          rename_i k
          obtain ⟨v, ev, rv⟩ := at_rel h5 ez
          exact .inl ⟨p, xs, k, v, rfl, r2, SqL.of h4', ev, hz Hk2 H2 (Step.refl fr2.wk.ex) fr2.wk.dr v (rv.mono s2.k)⟩
        · obtain ⟨o, xs, e3, q1, q2, q3, q4, q5, q6⟩ := h5
          subst e3
          obtain ⟨ok, hg⟩ := idxD_dct ez
          exact .inr ⟨p, _, _, d2, z, Hk2, rfl, fr2.wk.ex, ⟨o, xs, h4', q1, q2, q3, q4, q5.mono s2.k, q6.mono s2.k⟩, r2, ok, hg, fun v rv => hz Hk2 H2 (Step.refl fr2.wk.ex) fr2.wk.dr v rv⟩
/-! ### a key in an owned dict; how many; new dicts -/
def inOR (neg : Bool) (fa : Gm → G → R D) (i : Nat) : Gm → G → R D := fun Γ g => (fa Γ g).bind fun k g => match Γ[i]? with
      | some (.own (.dct ks vs)) => if okK k then .ok (.bl (if neg then !(getK (keyD k) ks vs).isSome else (getK (keyD k) ks vs).isSome)) g else .st
      | _ => .st
def rInO (K : PySem.W.Frag) (W : Wd) (neg : Bool) : R2 := fun x y H Q => ∃ (p : Addr) (ks vs : List D) (k : D) (Hk : Hp), y = .ref p ∧ Ex Hk H ∧ DAt K W Hk H p ks vs ∧ Rp K W Hk k x ∧ okK k = true ∧ Q (.bl (if neg then !(getK (keyD k) ks vs).isSome else (getK (keyD k) ks vs).isSome)) H
def inOp : Bool → CmpOp
  | true => .NotIn
  | false => .In
theorem op_inO (hu : X.A.units + 64 < cLine) (hw : W.w = X.w) : ∀ neg : Bool, OpR X (compareOp (inOp neg)) (rInO X.K W neg)
  | false => by
    intro pins s σ H x y v u Q I rx ry h
    obtain ⟨p, ks, vs, k, Hk, rfl, ex, h1, h2, h3, q⟩ := h
    have e2 : u = Value.ref p := ry
    subst e2
    exact n_in hu I ex hw h1 h2 h3 rx fun s' I' => ⟨.bl _, H, I', rfl, q⟩
  | true => by
    intro pins s σ H x y v u Q I rx ry h
    obtain ⟨p, ks, vs, k, Hk, rfl, ex, h1, h2, h3, q⟩ := h
    have e2 : u = Value.ref p := ry
    subst e2
    exact n_notIn hu I ex hw h1 h2 h3 rx fun s' I' => ⟨.bl _, H, I', rfl, q⟩
theorem in_read {i : Nat} {neg : Bool} {kk : D → G → Hp → Hp → Prop} {Q : VK} {σ : L2.St} {H : Hp} {Γ : Gm} {g : G} {Hk Hk0 H0 : Hp} (fr : Fr X.K W Hk0 H0 Γ g σ Hk H) (h : Fin W Ew Hk H (inOR neg fa i Γ g) kk) (hq : ∀ b g' Hk' H', kk (.bl b) g' Hk' H' → Q (.bl b) H') : tOp (rInO X.K W neg) (tE X.K W Ew fa) (tVar i) σ H Q :=
  seqE fr h fun v d g1 Hk1 H1 fr1 s1 r1 h1 => by
    obtain ⟨os, sl, nd, ho⟩ := fr1.sl
    cases e1 : Γ[i]? with
    | none => simp only [e1] at h1; exact h1.elim
    | some s0 =>
      cases s0 with
      | no => simp only [e1] at h1; exact h1.elim
      | val _ => simp only [e1] at h1; exact h1.elim
      | own d0 =>
        obtain ⟨p, u, h2, hm, h4, h5⟩ := sl.obj_at e1
        simp only [e1] at h1
        cases d0 <;> (try exact h1.elim)
        rename_i ks vs
        obtain ⟨o, xs, e3, q1, q2, q3, q4, q5, q6⟩ := h5
        subst e3
        by_cases hk : okK d = true
        · simp only [hk, if_true] at h1
          exact ⟨.ref p, h2, p, ks, vs, d, Hk1, rfl, fr1.wk.ex, ⟨o, xs, h4, q1, q2, q3, q4, q5, q6⟩, r1, hk, hq _ _ _ _ (Fin.now fr1 h1)⟩
        · simp only [hk, if_false] at h1
          exact h1.elim
theorem e_inO (hu : X.A.units + 64 < cLine) (hw : W.w = X.w) {i : Nat} {neg : Bool} (ha : PE X a (tE X.K W Ew fa)) (hv : PE X b (tVar i)) (hm : behindInMarks (inOp neg) b = false) : PE X (.Compare a [inOp neg] [b] pos) (tE X.K W Ew (inOR neg fa i)) :=
  PE.imp (pe_cmpR (op_inO hu hw neg) ha hv hm) fun σ H Q ⟨Hk0, H0, Γ, g, Hk, fr, h⟩ => in_read fr h fun b g' Hk' H' q => q _ rfl
theorem t_inO (hu : X.A.units + 64 < cLine) (hw : W.w = X.w) {i : Nat} {neg : Bool} (ha : PE X a (tE X.K W Ew fa)) (hv : PE X b (tVar i)) (hm : behindInMarks (inOp neg) b = false) : PT X (.Compare a [inOp neg] [b] pos) (tTt X.K W Ew fun Γ g => blR (inOR neg fa i Γ g)) :=
  PT.imp (pt_cmpR (op_inO hu hw neg) ha hv hm) fun σ H Q ⟨Hk0, H0, Γ, g, Hk, fr, h⟩ => by
    have h := bl_of (Q := fun _ _ => True) h
    show tOp (rInO X.K W neg) (tE X.K W Ew fa) (tVar i) σ H fun x H1 => ∃ c, x = .bl c ∧ Q c H1
    exact in_read fr h fun b g' Hk' H' ⟨b', e, q⟩ => ⟨b, rfl, by cases e; exact q⟩
def lenOR (i : Nat) : Gm → G → R D := fun Γ g => match Γ[i]? with
      | some (.own (.dct ks vs)) => if ks.length ≤ 1000000 then .ok (.int ks.length) g else .st
      | _ => .st
def rLenO (K : PySem.W.Frag) (W : Wd) : List V → Hp → VK → Prop := fun xs H Q => ∃ (p : Addr) (ks vs : List D) (Hk : Hp), xs = [.ref p] ∧ Ex Hk H ∧ DAt K W Hk H p ks vs ∧ ks.length ≤ 1000000 ∧ Q (.int ks.length) H
theorem call_lenO (hw : W.w = X.w) : CallR X (.builtin "len") (rLenO X.K W) := by
  intro pins s σ H vs us Q I rv h
  obtain ⟨p, ks, ws, Hk, rfl, ex, ⟨o, xs, h1, h2, h3, h4, h5, h6, h7⟩, hl, q⟩ := h
  rw [Vals.ref1 rv]
  obtain ⟨ys, t, dd⟩ := dict_of I ex hw h1 h3 h4 h5 h6
  have e : (pairsH ys).length = ks.length := by
    rw [pairsH_length, ← trip_len t, ← List.length_map (f := fun x : NestedKey × Addr × V => x.1), h4, keysD_len]
  refine PyProof.Rows.call_len_slot (n := (pairsH ys).length) (T := "dict") dd.typeIs PySem.F.slot_dict_len (fun Q' hq => len_keyed h2 ⟨ys, dd, rfl⟩ hq) (by omega) (by rw [e]; omega) ?_
  rw [e]
  exact ⟨.int _, H, I.tok _, ⟨_, rfl⟩, q⟩
theorem e_lenO (hw : W.w = X.w) {i : Nat} {x : Str} {p p2 : Pos} (hv : PE X (.Name x p2) (tVar i)) (hg : Gl X "len") (hm : X.mg "len" = none) : PE X (.Call (.Name "len" p) [.Name x p2] [] pos) (tE X.K W Ew (lenOR i)) :=
  PE.imp (pe_callB (call_lenO (W := W) hw) hg hm (by decide +kernel) (pa_cons hv pa_nil)) fun σ H Q ⟨Hk0, H0, Γ, g, Hk, fr, h⟩ => by
    obtain ⟨os, sl, nd, ho⟩ := fr.sl
    unfold lenOR at h
    cases e1 : Γ[i]? with
    | none => simp only [e1] at h; exact h.elim
    | some s0 =>
      cases s0 with
      | no => simp only [e1] at h; exact h.elim
      | val _ => simp only [e1] at h; exact h.elim
      | own d0 =>
        obtain ⟨p, u, h2, hm, h4, h5⟩ := sl.obj_at e1
        simp only [e1] at h
        cases d0 <;> (try exact h.elim)
        rename_i ks vs
        obtain ⟨o, xs, e3, q1, q2, q3, q4, q5, q6⟩ := h5
        subst e3
        by_cases hk : ks.length ≤ 1000000
        · simp only [hk, if_true] at h
          exact ⟨.ref p, h2, p, ks, vs, Hk, rfl, fr.wk.ex, ⟨o, xs, h4, q1, q2, q3, q4, q5, q6⟩, hk, Fin.now fr h _ rfl⟩
        · simp only [hk, if_false] at h
          exact h.elim
/-- the object of {} -/
def dObj0 : Obj := { cls := .type "dict", data := .dict #[] }
theorem dc_nil (w : World) : DcIs w dObj0 [] := ⟨[], .nil, ⟨rfl, rfl, rfl⟩, List.nodup_nil, #[], 0, rfl, rfl⟩
def tDNewX : TE := fun _ H Q => ∀ p, H p = none → (p == sysModules) = false → Q (.ref p) (upd H p (ObX p dObj0))
theorem pe_dnewX : PE X (.Dict [] [] pos) tDNewX := ⟨fun pins s σ H Q I h =>
  wpAny_Dict_empty ⟨.ref s.heap.objs.size, _, I.laid (a := s.heap.objs.size) (o := ObX s.heap.objs.size dObj0) (t' := s.toks) (fun _ _ q => Heap.get?_push_of_some _ q) (Nat.le_refl _) (obX_ok (Heap.get?_push_size _ rfl)), rfl,
    h _ (I.hok.fresh (Nat.le_refl _)) (beq_eq_false_iff_ne.mpr (Ne.symm (Nat.ne_of_lt I.big)))⟩⟩
theorem f_dnil : PE X (.Dict [] [] pos) (tFf X.K W Ew fun _ g => .ok (.dct [] []) g) :=
  PE.imp pe_dnewX fun σ H Q ⟨Hk0, H0, Γ, g, Hk, fr, h⟩ p hp hs =>
    h Hk _ (Step.hid fr.wk.ex hp) (fr.wk.dr.upd (ex_upd_out fr.wk.dr hp)) p _ hp (fr.wk.dr.unk_of fr.wk hp) upd_same ⟨dObj0, [], rfl, hs, dc_nil _, rfl, rfl, rfl, rfl⟩
/-- {k: v} -/
def tDOne (X : Cx) (W : Wd) (tk tv : TE) : TE := fun σ H Q => ∀ p, H p = none → (p == sysModules) = false → tk σ (upd H p (ObX p dObj0)) fun x H1 => tv σ H1 fun y H2 => H2 p = some (ObX p dObj0) ∧
  ∃ Hk d, Ex Hk H2 ∧ Rp X.K W Hk d x ∧ okK d = true ∧ ∀ o a, x = .ref a → DcIs X.w o [(keyD d, a, y)] → Q (.ref p) (upd H2 p (ObX p o))
theorem pe_done {k v : Expr} {tk tv : TE} (hu : X.A.units + 64 < cLine) (hk : PE X k tk) (hv : PE X v tv) : PE X (.Dict [some k] [v] pos) (tDOne X W tk tv) := by
  refine ⟨fun pins s σ H Q I q => ?_⟩
  have hn := I.hok.fresh (Nat.le_refl s.heap.objs.size)
  have I1 := I.laid (a := s.heap.objs.size) (o := ObX s.heap.objs.size dObj0) (h' := s.heap.push dObj0) (t' := s.toks) (fun _ _ q => Heap.get?_push_of_some _ q) (Nat.le_refl _) (obX_ok (Heap.get?_push_size _ rfl))
  have hp : (s.heap.objs.size == sysModules) = false := beq_eq_false_iff_ne.mpr (Ne.symm (Nat.ne_of_lt I.big))
  have hpl := pairTrees_length [some k] [v] X.env pos rfl rfl
  rw [arm_eval_Dict, zip_pairTrees [some k] [v] X.env pos rfl rfl, dictDisplay_pairs _ (by intro e; rw [e] at hpl; cases hpl) (by rw [hpl, List.length_singleton]; decide)]
  refine wpAny_bind (wpAny_standAt (wpAny_bind (wpAny_subDictH (knd := nestedKind X.prog X.w) (by show X.A.units + 8 < cLine; omega) (by rw [hpl, List.length_singleton]; decide)
    (thn ((pps_cons hk hv pps_nil).run pins _ σ _ (fun ps H2 => match ps with | [(x, y)] => (H2 s.heap.objs.size = some (ObX s.heap.objs.size dObj0) ∧ ∃ Hk d, Ex Hk H2 ∧ Rp X.K W Hk d x ∧ okK d = true ∧ ∀ o a, x = .ref a → DcIs X.w o [(keyD d, a, y)] → Q (.ref s.heap.objs.size) (upd H2 s.heap.objs.size (ObX s.heap.objs.size o))) | _ => False) I1 (q _ hn hp)) fun ws s2 ⟨ps, H2, I2, rel, q2⟩ => ?_))))
  cases rel with
  | nil => exact q2.elim
  | @cons p0 w0 _ _ r0 rel =>
    cases rel with
    | cons _ _ => exact q2.elim
    | nil =>
    obtain ⟨e1, Hk, d, ex, rd, ok, q3⟩ := q2
    obtain ⟨a, g1, g2, g3⟩ := rp_is I2 ex rd ok r0.1
    have hd : s2.heap.DictOfH (nestedKind X.prog X.w) s.heap.objs.size [] := ⟨dObj0, #[], 0, obX_at I2.hok e1, ⟨rfl, rfl, rfl⟩, rfl, rfl, fun _ hx => by simp at hx, List.nodup_nil⟩
    refine ⟨[(keyD d, a, w0.2)], ⟨g2, rfl, g3, trivial⟩, hd, fun h' tk hd' hs => wpAny_pure ?_⟩
    obtain ⟨o, es, ep, z1, z2, z3, z4, _, z5⟩ := hd'
    refine ⟨.ref s.heap.objs.size, _, d_write I2 (by rw [e1]; exact True.intro) hs ⟨o, z1⟩ (obX_ok z1), rfl, q3 o a g1 ?_⟩
    exact ⟨[(keyD d, a, w0.2)], .cons ⟨rfl, rfl, r0.2⟩ .nil, z2, by simp, es, ep, z3, z4⟩
def doneR (fa fb : Gm → G → R D) : Gm → G → R D := fun Γ g => (fa Γ g).bind fun k g => (fb Γ g).bind fun v g => if okK k then .ok (.dct [k] [v]) g else .st
theorem f_done (hu : X.A.units + 64 < cLine) (hw : W.w = X.w) (ha : PE X a (tE X.K W Ew fa)) (hb : PE X b (tE X.K W Ew fb)) : PE X (.Dict [some a] [b] pos) (tFf X.K W Ew (doneR fa fb)) :=
  PE.imp (pe_done (W := W) hu ha hb) fun σ H Q ⟨Hk0, H0, Γ, g, Hk, fr, h⟩ p hp hs => by
    have s0 : Step W Hk H Hk (upd H p (ObX p dObj0)) := Step.hid fr.wk.ex hp
    have out := ex_upd_out fr.wk.dr hp
    have fr0 := fr.step s0 (fr.wk.dr.upd out)
    have k0 := fr.wk.dr.unk_of fr.wk hp
    unfold doneR at h
    refine ⟨Hk0, H0, Γ, g, Hk, fr0, ?_⟩
    cases ea : fa Γ g with
    | st => rw [ea] at h; exact h.elim
    | ex c ds g1 => rw [ea] at h; exact fun Hk' H' cls dx s d x => h Hk' H' cls dx (s0.trans s) d x
    | ok d g1 =>
      rw [ea] at h
      intro Hk1 H1 s1 dr1 v r1
      have fr1 := fr0.step s1 dr1
      refine ⟨Hk0, H0, Γ, g1, Hk1, fr1, ?_⟩
      have h' : Fin W Ew Hk H ((fb Γ g1).bind fun v g => if okK d then .ok (.dct [d] [v]) g else .st) fun d _ Hk' H' => ∀ p u, H p = none → Hk' p = none → H' p = some u → Ob X.K W Hk' d p u → Q (.ref p) H' := h
      cases eb : fb Γ g1 with
      | st => rw [eb] at h'; exact h'.elim
      | ex c ds g2 => rw [eb] at h'; exact fun Hk' H' cls dx s d x => h' Hk' H' cls dx ((s0.trans s1).trans s) d x
      | ok d2 g2 =>
        rw [eb] at h'
        intro Hk2 H2 s2 dr2 v2 r2
        have h'' : Fin W Ew Hk H (if okK d then .ok (.dct [d] [d2]) g2 else .st) fun d _ Hk' H' => ∀ p u, H p = none → Hk' p = none → H' p = some u → Ob X.K W Hk' d p u → Q (.ref p) H' := h'
        have p1 : H1 p = some (ObX p dObj0) := s1.h _ _ upd_same out
        have p2 : H2 p = some (ObX p dObj0) := s2.h _ _ p1 out
        have n2 : Hk2 p = none := s2.unk (s1.unk k0 upd_same) p1
        by_cases hk : okK d = true
        · rw [if_pos hk] at h''
          refine ⟨p2, Hk2, d, s2.kh, r1.mono s2.k, hk, fun o a ea dc => ?_⟩
          subst ea
          have r1' : Rp X.K W Hk2 d (.ref a) := r1.mono s2.k
          exact h'' Hk2 _ (((s0.trans s1).trans s2).mut hp n2) (dr2.upd out) p _ hp n2 upd_same ⟨o, [(keyD d, a, v2)], rfl, hs, by rw [hw]; exact dc, rfl, by simp [hk], .cons r1' .nil, .cons r2 .nil⟩
        · rw [if_neg hk] at h''
          exact h''.elim
theorem done_shape {Γ : Gm} {g g' : G} {d : D} (h : doneR fa fb Γ g = .ok d g') : isOb d = true := by
  unfold doneR at h
  obtain ⟨x, g1, _, h⟩ := bind_ok h
  obtain ⟨y, g2, _, h⟩ := bind_ok h
  split at h
  · cases h; rfl
  · cases h
/-! ### whether an owned list is empty -/
def rNil (neg : Bool) : R2 := fun x y H Q => ∃ p q xs, x = .ref p ∧ y = .ref q ∧ H p = some (.lst xs) ∧ H q = some (.lst []) ∧ Q (.bl (if neg then !xs.isEmpty else xs.isEmpty)) H
theorem op_eqNil (hu : X.A.units + 64 < cLine) : OpR X (compareOp .Eq) (rNil false) := by
  intro pins s σ H x y v u Q I rx ry h
  obtain ⟨p, q, xs, rfl, rfl, h1, h2, hq⟩ := h
  cases rx
  cases ry
  obtain ⟨z, its, n, r, hl, e⟩ := I.lstM h1
  obtain ⟨z2, its2, n2, r2, hl2, e2⟩ := I.lstM h2
  have l1 : s.heap.IsList p its.toArray := PySem.IsL.isList e
  have l2 : s.heap.IsList q its2.toArray := PySem.IsL.isList e2
  have z0 : its2 = [] := List.eq_nil_of_length_eq_zero (by rw [← hl2]; rfl)
  subst z0
  cases xs with
  | nil =>
    have z1 : its = [] := List.eq_nil_of_length_eq_zero (by rw [← hl]; rfl)
    subst z1
    exact SeqAt.eq_listAt (e := fun _ => true) l1 l2 rfl (by omega) (fun j hj => absurd hj (by simp)) ⟨.bl true, H, I, rfl, hq⟩
  | cons x xs =>
    have hz : (its.toArray.size != ([] : List Value).toArray.size) = true := by
      cases its with
      | nil => simp at hl
      | cons _ _ => simp
    exact SeqAt.eq_list_lengthsAt l1 l2 hz (by omega) ⟨.bl false, H, I, rfl, hq⟩
theorem op_neNil (hu : X.A.units + 64 < cLine) : OpR X (compareOp .NotEq) (rNil true) := by
  intro pins s σ H x y v u Q I rx ry h
  obtain ⟨p, q, xs, rfl, rfl, h1, h2, hq⟩ := h
  cases rx
  cases ry
  obtain ⟨z, its, n, r, hl, e⟩ := I.lstM h1
  obtain ⟨z2, its2, n2, r2, hl2, e2⟩ := I.lstM h2
  have l1 : s.heap.IsList p its.toArray := PySem.IsL.isList e
  have l2 : s.heap.IsList q its2.toArray := PySem.IsL.isList e2
  have z0 : its2 = [] := List.eq_nil_of_length_eq_zero (by rw [← hl2]; rfl)
  subst z0
  cases xs with
  | nil =>
    have z1 : its = [] := List.eq_nil_of_length_eq_zero (by rw [← hl]; rfl)
    subst z1
    exact SeqAt.RcNeAt.lists (e := fun _ => true) l1 l2 rfl (by omega) (fun j hj => absurd hj (by simp)) X.prog X.w X.xe _ ⟨.bl false, H, I, rfl, hq⟩
  | cons x xs =>
    have hz : (its.toArray.size != ([] : List Value).toArray.size) = true := by
      cases its with
      | nil => simp at hl
      | cons _ _ => simp
    exact SeqAt.RcNeAt.lists_lengths l1 l2 hz (by omega) X.prog X.w X.xe _ ⟨.bl true, H, I, rfl, hq⟩
def emOR (neg : Bool) (i : Nat) : Gm → G → R D := fun Γ g => match Γ[i]? with
      | some (.own (.lst xs)) => .ok (.bl (if neg then !xs.isEmpty else xs.isEmpty)) g
      | _ => .st
theorem em_read {i : Nat} {neg : Bool} {Q : VK} {σ : L2.St} {H : Hp} (h : tE X.K W Ew (emOR neg i) σ H Q) : tOp (rNil neg) (tVar i) (tLst tNil) σ H Q := by
  obtain ⟨Hk0, H0, Γ, g, Hk, fr, h⟩ := h
  obtain ⟨os, sl, nd, ho⟩ := fr.sl
  unfold emOR at h
  cases e1 : Γ[i]? with
  | none => simp only [e1] at h; exact h.elim
  | some s0 =>
    cases s0 with
    | no => simp only [e1] at h; exact h.elim
    | val _ => simp only [e1] at h; exact h.elim
    | own d =>
      simp only [e1] at h
      cases d <;> (try exact h.elim)
      rename_i ds
      obtain ⟨p, xs, h2, hm, h4, h5⟩ := sl.own_at e1
      have hl := h5.len
      have he : xs.isEmpty = ds.isEmpty := by
        cases xs <;> cases ds <;> first | rfl | simp at hl
      refine ⟨.ref p, h2, (by decide), fun q hq => ⟨p, q, xs, rfl, rfl, ?_, upd_same, ?_⟩⟩
      · rw [upd_ne (ne_of_none h4 hq)]; exact h4
      · rw [he]
        exact h Hk _ (Step.hid fr.wk.ex hq) (fr.wk.dr.upd (ex_upd_out fr.wk.dr hq)) _ rfl
theorem tm_read {i : Nat} {neg : Bool} {Q : Bool → Hp → Prop} {σ : L2.St} {H : Hp} (h : tTt X.K W Ew (fun Γ g => blR (emOR neg i Γ g)) σ H Q) : tOp (rNil neg) (tVar i) (tLst tNil) σ H fun x H1 => ∃ c, x = .bl c ∧ Q c H1 := by
  obtain ⟨Hk0, H0, Γ, g, Hk, fr, h⟩ := h
  obtain ⟨os, sl, nd, ho⟩ := fr.sl
  unfold emOR at h
  cases e1 : Γ[i]? with
  | none => simp only [e1] at h; exact h.elim
  | some s0 =>
    cases s0 with
    | no => simp only [e1] at h; exact h.elim
    | val _ => simp only [e1] at h; exact h.elim
    | own d =>
      simp only [e1] at h
      cases d <;> (try exact h.elim)
      rename_i ds
      obtain ⟨p, xs, h2, hm, h4, h5⟩ := sl.own_at e1
      have hl := h5.len
      have he : xs.isEmpty = ds.isEmpty := by
        cases xs <;> cases ds <;> first | rfl | simp at hl
      refine ⟨.ref p, h2, (by decide), fun q hq => ⟨p, q, xs, rfl, rfl, ?_, upd_same, _, rfl, ?_⟩⟩
      · rw [upd_ne (ne_of_none h4 hq)]; exact h4
      · rw [he]
        exact h Hk _ (Step.hid fr.wk.ex hq) (fr.wk.dr.upd (ex_upd_out fr.wk.dr hq))
/-! ### starred items -/
def starR (fa : Gm → G → R D) (fs : Gm → G → R (List D)) : Gm → G → R (List D) := fun Γ g => (fa Γ g).bind fun x g => match itemsD x with
      | some ys => (fs Γ g).bind fun xs g => .ok (ys ++ xs) g
      | none => .st
theorem a_star {p : Pos} (ha : PE X a (tE X.K W Ew fa)) (hs : PA X es (tAa X.K W Ew fs)) : PA X (.Starred a p :: es) (tAa X.K W Ew (starR fa fs)) :=
  PA.imp (StX.pa_star ha hs) fun σ H Q ⟨Hk0, H0, Γ, g, Hk, fr, h⟩ => seqE fr h fun v d g1 Hk1 H1 fr1 s1 r1 h1 => by
    cases d with
    | tup ds =>
      obtain ⟨p, vs, hv, q1, q2⟩ := r1
      exact ⟨p, vs, hv, .inl (ex_t fr1.wk.ex q1), seqA fr1 h1 fun us es g2 Hk2 H2 fr2 s2 r2 h2 => Fin.now fr2 h2 _ ((q2.mono s2.k).append r2)⟩
    | lst ds =>
      obtain ⟨p, vs, hv, q1, q2⟩ := r1
      exact ⟨p, vs, hv, .inr (SqL.of (fr1.wk.ex _ _ q1)), seqA fr1 h1 fun us es g2 Hk2 H2 fr2 s2 r2 h2 => Fin.now fr2 h2 _ ((q2.mono s2.k).append r2)⟩
    | _ => exact h1.elim
theorem e_tupS {x1 : Nat} (hs : PA X es (tAa X.K W Ew fs)) : PE X (.Tuple es x1 pos) (tE X.K W Ew fun Γ g => (fs Γ g).bind fun xs g => if xs.length ≤ 1000000 then .ok (.tup xs) g else .st) :=
  PE.imp (pe_tup hs) fun σ H Q ⟨Hk0, H0, Γ, g, Hk, fr, h⟩ => seqA fr h fun vs ds g1 Hk1 H1 fr1 s1 r1 h1 => by
    by_cases hz : ds.length ≤ 1000000
    · rw [if_pos hz] at h1
      exact ⟨size_le (by rw [r1.len]; exact hz), new_tup fr1.wk r1 fun v Hk' H' s dr r => h1 Hk' H' s dr v r⟩
    · rw [if_neg hz] at h1; exact h1.elim
theorem f_lstS (hs : PA X es (tAa X.K W Ew fs)) : PE X (.List es pos) (tFf X.K W Ew fun Γ g => (fs Γ g).bind fun xs g => if xs.length ≤ 1000000 then .ok (.lst xs) g else .st) :=
  PE.imp (pe_lst hs) fun σ H Q ⟨Hk0, H0, Γ, g, Hk, fr, h⟩ => seqA fr h fun vs ds g1 Hk1 H1 fr1 s1 r1 h1 => by
    by_cases hz : ds.length ≤ 1000000
    · rw [if_pos hz] at h1
      exact ⟨size_le (by rw [r1.len]; exact hz), fun p hp => fin_own fr1 h1 hp r1 (none_back s1 hp)⟩
    · rw [if_neg hz] at h1; exact h1.elim
theorem lstS_shape {Γ : Gm} {g g' : G} {d : D} (h : ((fs Γ g).bind fun xs g => if xs.length ≤ 1000000 then R.ok (D.lst xs) g else R.st) = .ok d g') : isOb d = true := by
  obtain ⟨x, g1, _, h⟩ := bind_ok h
  split at h
  · cases h; rfl
  · cases h
end
end Bk

set_option Elab.async false
set_option linter.all false
set_option maxRecDepth 100000
set_option maxHeartbeats 1000000
/-! The text held against the compact language. -/
namespace Bk
open PySem L2
structure Cxt where
  N : List Str
  sc : Scope
  fn : Str → Bool
structure PrN where
  cs : List (Nat × Str)
  ds : List (Nat × Str)
def visB (sc : Scope) (x : Str) : Bool := match sc.names.lookup x with
  | some .local => true
  | some .cell => true
  | some .free => true
  | _ => false
def glB (sc : Scope) (x : Str) : Bool := match sc.names.lookup x with
  | some .globalImplicit => true
  | _ => false
def locB (c : Cxt) (x : Str) : Bool := match c.sc.names.lookup x with
  | some .local => true
  | some .cell => c.fn x
  | _ => false
def okN (x : Str) : Bool := !(x == ("__debug__" : Str)) && !(x == ("__classdict__" : Str)) && !(x == ("__name__" : Str))
def nSt : Expr → Bool
  | .Starred .. => false
  | _ => true
def nSet : Expr → Bool
  | .Set .. => false
  | _ => true
def nSli : Expr → Bool
  | .Slice .. => false
  | _ => true
def opB : Op → Operator → Bool
  | .add, .Add => true
  | .sub, .Sub => true
  | .mul, .Mult => true
  | .div, .FloorDiv => true
  | .mod, .Mod => true
  | .pow, .Pow => true
  | _, _ => false
def cmB : Cm → CmpOp → Bool
  | .eq, .Eq => true
  | .ne, .NotEq => true
  | .lt, .Lt => true
  | .le, .LtE => true
  | .gt, .Gt => true
  | .ge, .GtE => true
  | .isin, .In => true
  | .notin, .NotIn => true
  | .isN, .Is => true
  | .notN, .IsNot => true
  | _, _ => false
def cstB : Const → D → Bool
  | .none, .non => true
  | .bool b, .bl b' => b == b'
  | .int i, .int i' => decide (i = i')
  | .str x, .str x' => decide (x = x')
  | _, _ => false
def biN : Bi → Str
  | .len => "len"
  | .all => "all"
  | .any => "any"
  | .sum => "sum"
  | .min => "min"
  | .max => "max"
  | .min2 => "min"
  | .max2 => "max"
  | .sorted => "sorted"
  | .tuple => "tuple"
  | .list => "list"
  | .int => "int"
  | .repr => "repr"
  | .maxd => "max"
  | .mind => "min"
  | .sortd => "sorted"
def tyB (c : Cxt) : Expr → Ty → Bool
  | .Name y _, t => decide (y = Str.ofString (tyN t)) && glB c.sc y
  | _, _ => false
def ownOf (c : Cxt) (t : T) : List (Str × Nat) := t.vars.map fun i => (c.N.getD i "", i)
def blkCtx (c : Cxt) (scope : Scope) : Cxt := ⟨c.N, relS scope c.sc, fun x => scope.names.lookup x == some .cell⟩
mutual
def chkT : Nat → Cxt → Expr → T → Bool
  | 0, _, _, _ => false
  | n + 1, c, e, t => match t with
    | .var i => (match e with
      | .Name x _ => decide (c.N[i]? = some x) && locB c x
      | _ => false)
    | .tup ts => (match e with
      | .Tuple es _ _ => chkTs n c es ts
      | _ => false)
def chkTs : Nat → Cxt → List Expr → List T → Bool
  | 0, _, _, _ => false
  | _ + 1, _, [], [] => true
  | n + 1, c, e :: es, t :: ts => nSt e && chkT n c e t && chkTs n c es ts
  | _ + 1, _, _, _ => false
end
def one? : Expr → Option Expr
  | .BoolOp _ [x] _ => some x
  | _ => none
mutual
def chkE : Nat → PrN → Cxt → Expr → E → Bool
  | 0, _, _, _, _ => false
  | n + 1, pn, c, e, E => match one? e with
    | some x => chkE n pn c x E
    | none => match E with
      | .cst d => (match e with
        | .Constant k _ _ => cstB k d
        | _ => false)
      | .var i => (match e with
        | .Name x _ => decide (c.N[i]? = some x) && visB c.sc x
        | _ => false)
      | .glb i => (match e with
        | .Name x _ => decide (pn.cs.lookup i = some x) && glB c.sc x
        | _ => false)
      | .bin o a' b' => (match e with
        | .BinOp a op b _ => opB o op && chkE n pn c a a' && chkE n pn c b b'
        | _ => false)
      | .neg a' => (match e with
        | .UnaryOp .USub a _ => chkE n pn c a a'
        | _ => false)
      | .cmp o a' b' => (match e with
        | .Compare a [op] [b] _ => cmB o op && chkE n pn c a a' && chkE n pn c b b' && nSet b
        | _ => false)
      | .chn o o' a' b' d' => (match e with
        | .Compare a [op, op'] [b, d] _ => cmB o op && cmB o' op' && chkE n pn c a a' && chkE n pn c b b' && chkE n pn c d d' && nSet d
        | _ => false)
      | .and a b => (match e with
        | .BoolOp .And (x :: y :: r) pos => chkE n pn c x a && chkE n pn c (.BoolOp .And (y :: r) pos) b
        | _ => false)
      | .or a b => (match e with
        | .BoolOp .Or (x :: y :: r) pos => chkE n pn c x a && chkE n pn c (.BoolOp .Or (y :: r) pos) b
        | _ => false)
      | .not a' => (match e with
        | .UnaryOp .Not a _ => chkE n pn c a a'
        | _ => false)
      | .ife t' a' b' => (match e with
        | .IfExp t a b _ => chkE n pn c t t' && chkE n pn c a a' && chkE n pn c b b'
        | _ => false)
      | .tup as => (match e with
        | .Tuple es _ _ => chkA n pn c es as && decide (es.length ≤ 1000)
        | _ => false)
      | .lst as => (match e with
        | .List es _ => chkA n pn c es as && decide (es.length ≤ 1000)
        | _ => false)
      | .sl a' lo' hi' => (match e with
        | .Subscript a (.Slice lo hi none _) _ => chkE n pn c a a' && chkO n pn c lo lo' && chkO n pn c hi hi'
        | _ => false)
      | .idx a' b' => (match e with
        | .Subscript a b _ => chkE n pn c a a' && chkE n pn c b b' && nSli b
        | _ => false)
      | .lc elt' t it cond => (match e with
        | .ListComp elt [⟨tg, iter, ifs, z⟩] scope _ => decide (z = 0) && blkC c.N c.sc scope (ownOf c t) && nSet iter && chkT n (blkCtx c scope) tg t && chkI n pn c tg iter it &&
          (match ifs, cond with
            | [], none => true
            | [q], some q' => chkE n pn (blkCtx c scope) q q'
            | _, _ => false) && chkE n pn (blkCtx c scope) elt elt'
        | _ => false)
      | .call f as => (match e with
        | .Call (.Name x _) es [] _ => decide (pn.ds.lookup f = some x) && glB c.sc x && chkA n pn c es as
        | _ => false)
      | .bi b as => (match e with
        | .Call (.Name x _) es [] _ => decide (x = biN b) && glB c.sc x && chkA n pn c es as && !es.isEmpty
        | _ => false)
      | .isi a' ts => (match e with
        | .Call (.Name x _) [a, b] [] _ => decide (x = ("isinstance" : Str)) && glB c.sc x && chkE n pn c a a' && nSt a && (match ts with
          | [t] => tyB c b t
          | [t, u] => (match b with
            | .Tuple [b1, b2] _ _ => tyB c b1 t && tyB c b2 u
            | _ => false)
          | _ => false)
        | _ => false)
      | .cat a' b' => (match e with
        | .BinOp a .Add b _ => chkE n pn c a a' && chkE n pn c b b'
        | _ => false)
      | .rev a' => (match e with
        | .Subscript a (.Slice none none (some (.UnaryOp .USub (.Constant (.int i) _ _) _)) _) _ => decide (i = 1) && chkE n pn c a a'
        | _ => false)
      | .idxO i b' => (match e with
        | .Subscript (.Name x _) b _ => decide (c.N[i]? = some x) && visB c.sc x && chkE n pn c b b' && nSli b
        | _ => false)
      | .emO neg i => (match e with
        | .Compare (.Name x _) [op] [.List [] _] _ => (match neg, op with
          | true, .NotEq => true
          | false, .Eq => true
          | _, _ => false) && decide (c.N[i]? = some x) && visB c.sc x
        | _ => false)
      | .dnil => (match e with
        | .Dict [] [] _ => true
        | _ => false)
      | .done k' v' => (match e with
        | .Dict [some k] [v] _ => chkE n pn c k k' && chkE n pn c v v'
        | _ => false)
      | .inO neg a' i => (match e with
        | .Compare a [op] [.Name x _] _ => (match neg, op with
          | true, .NotIn => true
          | false, .In => true
          | _, _ => false) && chkE n pn c a a' && decide (c.N[i]? = some x) && visB c.sc x
        | _ => false)
      | .lrng1 a' => (match e with
        | .Call (.Name f _) [.Call (.Name r _) [a] [] _] [] _ => decide (f = ("list" : Str)) && glB c.sc f && decide (r = ("range" : Str)) && glB c.sc r && chkE n pn c a a' && nSt a
        | _ => false)
      | .lrng2 a' b' => (match e with
        | .Call (.Name f _) [.Call (.Name r _) [a, b] [] _] [] _ => decide (f = ("list" : Str)) && glB c.sc f && decide (r = ("range" : Str)) && glB c.sc r && chkE n pn c a a' && nSt a && chkE n pn c b b' && nSt b
        | _ => false)
      | .lenO i => (match e with
        | .Call (.Name f _) [.Name x _] [] _ => decide (f = ("len" : Str)) && glB c.sc f && decide (c.N[i]? = some x) && visB c.sc x
        | _ => false)
      | .tupS as => (match e with
        | .Tuple es _ _ => chkAS n pn c es as
        | _ => false)
      | .lstS as => (match e with
        | .List es _ => chkAS n pn c es as
        | _ => false)
      | .draw a' b' => (match e with
        | .Call (.Name x _) [a, b] [] _ => decide (x = ("_law_draw" : Str)) && glB c.sc x && chkE n pn c a a' && chkE n pn c b b' && nSt a && nSt b
        | _ => false)
def chkO : Nat → PrN → Cxt → Option Expr → Option E → Bool
  | 0, _, _, _, _ => false
  | _ + 1, _, _, none, none => true
  | n + 1, pn, c, some e, some e' => chkE n pn c e e'
  | _ + 1, _, _, _, _ => false
def chkA : Nat → PrN → Cxt → List Expr → A → Bool
  | 0, _, _, _, _ => false
  | _ + 1, _, _, [], .nil => true
  | n + 1, pn, c, e :: es, .cons e' as => nSt e && chkE n pn c e e' && chkA n pn c es as
  | _ + 1, _, _, _, _ => false
def chkAS : Nat → PrN → Cxt → List Expr → A → Bool
  | 0, _, _, _, _ => false
  | _ + 1, _, _, [], .nil => true
  | n + 1, pn, c, e :: es, .cons e' as => nSt e && chkE n pn c e e' && chkAS n pn c es as
  | n + 1, pn, c, .Starred e _ :: es, .star e' as => chkE n pn c e e' && chkAS n pn c es as
  | _ + 1, _, _, _, _ => false
def chkI : Nat → PrN → Cxt → Expr → Expr → I → Bool
  | 0, _, _, _, _, _ => false
  | n + 1, pn, c, tg, e, i => match i with
    | .seq e' => chkE n pn c e e'
    | .rng1 a' => (match e with
      | .Call (.Name x _) [a] [] _ => decide (x = ("range" : Str)) && glB c.sc x && chkE n pn c a a' && nSt a
      | _ => false)
    | .rng2 a' b' => (match e with
      | .Call (.Name x _) [a, b] [] _ => decide (x = ("range" : Str)) && glB c.sc x && chkE n pn c a a' && chkE n pn c b b' && nSt a && nSt b
      | _ => false)
    | .zip a' b' => (match tg, e with
      | .Tuple _ _ _, .Call (.Name x _) [a, b] [] _ => decide (x = ("zip" : Str)) && glB c.sc x && chkE n pn c a a' && chkE n pn c b b' && nSt a && nSt b
      | _, _ => false)
    | .enum a' => (match tg, e with
      | .Tuple _ _ _, .Call (.Name x _) [a] [] _ => decide (x = ("enumerate" : Str)) && glB c.sc x && chkE n pn c a a' && nSt a
      | _, _ => false)
end
end Bk

set_option Elab.async false
set_option linter.all false
set_option maxRecDepth 100000
set_option maxHeartbeats 2000000
/-! The evaluator is sound: expressions. -/
namespace Bk
open PySem L2
open Evl (Ex ex_l ex_t)
theorem vis_of {sc : Scope} {x : Str} (h : visB sc x = true) : Vis sc x := by
  unfold visB at h
  split at h
  · exact .inl (by assumption)
  · exact .inr (.inl (by assumption))
  · exact .inr (.inr (by assumption))
  · cases h
theorem gl_of {sc : Scope} {x : Str} (h : glB sc x = true) : sc.names.lookup x = some .globalImplicit := by
  unfold glB at h
  split at h
  · assumption
  · cases h
theorem star_of {e : Expr} (h : nSt e = true) (es : List Expr) (env : Env) : starEach (e :: es) env = (false, eval e env) :: starEach es env := by
  cases e <;> first | rfl | cases h
def nSts : List Expr → Bool
  | [] => true
  | e :: es => nSt e && nSts es
theorem back_of (pos : Pos) (env : Env) : ∀ {es : List Expr}, nSts es = true → (backTo pos (starEach es env)).any (·.1) = false
  | [], _ => rfl
  | e :: es, h => by
    simp only [nSts, Bool.and_eq_true] at h
    rw [star_of h.1]
    show (false || (backTo pos (starEach es env)).any (·.1)) = false
    rw [back_of pos env h.2]
    rfl
theorem set_of {e : Expr} (h : nSet e = true) (env : Env) (x : Value) : foldedSetIterable e env x = pure x := by
  cases e <;> first | rfl | cases h
theorem marks_of {e : Expr} (h : nSet e = true) (op : CmpOp) : behindInMarks op e = false := by
  cases e <;> first | rfl | cases h
theorem ix_of {e : Expr} (h : nSli e = true) : PlainIx e := by
  intro o i
  cases e <;> first | rfl | cases h
theorem op_of {o : Op} {op : Operator} (h : opB o op = true) : op = opOf o := by
  cases o <;> cases op <;> first | rfl | cases h
theorem cm_of {o : Cm} {op : CmpOp} (h : cmB o op = true) : op = cmOf o := by
  cases o <;> cases op <;> first | rfl | cases h
def bNames : List Str := ["len", "all", "any", "sum", "min", "max", "sorted", "tuple", "list", "int", "repr", "isinstance", "range", "zip", "enumerate", "bool", "str"]
structure Ok (CX : CXT) (W : Wd) (pn : PrN) (p : Pr) (k : Nat) (c : Cxt) (Ew : XK) (X : Cx) : Prop where
  N : X.N = c.N
  sc : X.env.scope = c.sc
  fn : X.fn = c.fn
  nd : X.N.Nodup
  nm : ∀ x ∈ X.N, okN x = true
  calm : X.calm = true
  room : Room (k + 2) X.A
  gd : X.A.guards = some []
  pass : Passes CX X Ew
  own : PassesOwn (model X.prog X.w) X.A X.env X.xe
  cxf : ∀ outer H s e s', CX outer H s E0 e s' → False
  cs : ∀ (i : Nat) (d : D) (x : Str), p.cs.lookup i = some d → pn.cs.lookup i = some x → ∃ u v, okN x = true ∧ X.mg x = some u ∧ RelV v u ∧ ∀ H, Rp X.K W H d v
  ds : ∀ (f : Nat) (x : Str), pn.ds.lookup f = some x → ∃ a fd ps, okN x = true ∧ X.mg x = some (.ref a) ∧ PySem.W.keepIn X.K (.ref a) = true ∧ Binds X.K fd ps [] ∧ FnOkG X.prog X.w X.K X.mg X.base CX (k + 2) a fd ps (spD X.K W ps (den p k f)) ∧ ∀ ds g, den p k f ds g ≠ .st → ds.length = ps.length
  dr : ∃ a fd ps, X.mg "_law_draw" = some (.ref a) ∧ PySem.W.keepIn X.K (.ref a) = true ∧ Binds X.K fd ps [] ∧ FnOkG X.prog X.w X.K X.mg X.base CX (k + 2) a fd ps (spDraw W)
  bn : ∀ x ∈ bNames, X.mg x = none
  w : W.w = X.w
section
variable {CX : CXT} {W : Wd} {pn : PrN} {p : Pr} {k : Nat} {c : Cxt} {Ew : XK} {X : Cx}
theorem okN1 {x : Str} (h : okN x = true) : (x == ("__debug__" : Str)) = false := by
  unfold okN at h
  simp only [Bool.and_eq_true, Bool.not_eq_true'] at h
  exact h.1.1
theorem okN2 {x : Str} (h : okN x = true) : (x == ("__classdict__" : Str)) = false := by
  unfold okN at h
  simp only [Bool.and_eq_true, Bool.not_eq_true'] at h
  exact h.1.2
theorem okN3 {x : Str} (h : okN x = true) : x ≠ "__name__" := by
  unfold okN at h
  simp only [Bool.and_eq_true, Bool.not_eq_true'] at h
  intro e
  have h2 := h.2
  rw [e] at h2
  revert h2
  decide
theorem Ok.gl (o : Ok CX W pn p k c Ew X) {x : Str} (h : glB c.sc x = true) : Gl X x := by
  show X.env.scope.names.lookup x = some .globalImplicit
  rw [o.sc]
  exact gl_of h
theorem Ok.un (o : Ok CX W pn p k c Ew X) : X.A.units + 64 < cLine := o.room.units
theorem Ok.un2 (o : Ok CX W pn p k c Ew X) : X.A.units + 66 < cLine := by have := o.room.un; omega
theorem Ok.blk (o : Ok CX W pn p k c Ew X) (s : Shared) (H : Hp) (scope : Scope) (cl : List (Str × Addr)) (C : Addr) (fp : List Addr) : Ok CX W pn p k (blkCtx c scope) E0 (X.blk s H scope (compEnvC scope cl C X.env) fp) where
  N := o.N
  sc := by
    show relS scope X.env.scope = relS scope c.sc
    rw [o.sc]
  fn := rfl
  nd := o.nd
  nm := o.nm
  calm := o.calm
  room := o.room
  gd := o.gd
  pass := fun pins σ H s e s' I h => o.cxf _ _ _ _ _ h
  own := PassesOwn.never
  cxf := o.cxf
  cs := o.cs
  ds := o.ds
  dr := o.dr
  bn := o.bn
  w := o.w
theorem Ok.ty (o : Ok CX W pn p k c Ew X) {e : Expr} {t : Ty} (h : tyB c e t = true) : PE X e (tC (.ty (tyN t))) := by
  unfold tyB at h
  split at h
  · simp only [Bool.and_eq_true, decide_eq_true_eq] at h
    have hg := o.gl h.2
    rw [h.1] at hg ⊢
    refine pe_bltn hg (o.bn _ ?_) (u := .type (tyN t)) ?_ rfl ?_ ?_
    · cases t <;> simp [bNames, tyN]
    · cases t <;> simp only [tyN] <;> decide +kernel
    · cases t <;> simp only [tyN] <;> decide
    · cases t <;> simp only [tyN] <;> decide
  · cases h
theorem ty_nst {e : Expr} {t : Ty} (h : tyB c e t = true) : nSt e = true := by
  cases e <;> first | rfl | (unfold tyB at h; cases h)
theorem Ok.bi (o : Ok CX W pn p k c Ew X) {a : Expr} {es : List Expr} {pos q : Pos} {fs : Gm → G → R (List D)} (b : Bi) (hg : glB c.sc (biN b) = true) (ha : PA X (a :: es) (tAa X.K W Ew fs)) (hn : nSts (a :: es) = true) :
    PE X (.Call (.Name (biN b) q) (a :: es) [] pos) (tE X.K W Ew fun Γ g => (fs Γ g).bind fun xs g => lift (biD b xs) g) := by
  simp only [nSts, Bool.and_eq_true] at hn
  have hh := o.gl hg
  have hm : X.mg (biN b) = none := o.bn _ (by cases b <;> simp [biN, bNames])
  have hc := call_D (W := W) o.calm o.gd o.un2 b
  cases b with
  | tuple => exact e_biT hc hh hm (by decide +kernel) ha (by decide) (by decide) (star_of hn.1 _ _) (back_of _ _ hn.2)
  | list => exact e_biT hc hh hm (by decide +kernel) ha (by decide) (by decide) (star_of hn.1 _ _) (back_of _ _ hn.2)
  | int => exact e_biT hc hh hm (by decide +kernel) ha (by decide) (by decide) (star_of hn.1 _ _) (back_of _ _ hn.2)
  | _ => exact e_biB hc hh hm (by decide +kernel) ha (by decide) (by decide) (star_of hn.1 _ _) (back_of _ _ hn.2)
theorem own_map (c : Cxt) (t : T) : (ownOf c t).map (·.2) = t.vars := by
  unfold ownOf
  rw [List.map_map]
  exact List.map_id' _
/-! ### targets -/
theorem asg_of {e : Expr} (h : nSt e = true) (es : List Expr) (env : Env) : assignEach (e :: es) env = (false, assign e env) :: assignEach es env := by
  cases e <;> first | rfl | cases h
theorem chkTs_nst : ∀ {n : Nat} {es : List Expr} {ts : List T}, chkTs n c es ts = true → ts.length = es.length ∧ ∀ env, (assignEach es env).length = es.length ∧ (assignEach es env).findIdx? (·.1) = none
  | 0, _, _, h => by cases h
  | n + 1, [], [], _ => ⟨rfl, fun _ => ⟨rfl, rfl⟩⟩
  | n + 1, [], _ :: _, h => by cases h
  | n + 1, _ :: _, [], h => by cases h
  | n + 1, e :: es, t :: ts, h => by
    simp only [chkTs, Bool.and_eq_true] at h
    obtain ⟨h1, h2⟩ := chkTs_nst h.2
    refine ⟨by simp [h1], fun env => ?_⟩
    rw [asg_of h.1.1]
    refine ⟨by simp [(h2 env).1], ?_⟩
    rw [List.findIdx?_cons]
    simp [(h2 env).2]
theorem sndT (o : Ok CX W pn p k c Ew X) : ∀ n, (∀ e t, chkT n c e t = true → PG X e (tGg X.K W t)) ∧ (∀ es ts, chkTs n c es ts = true → PGs X es (tGgs X.K W ts))
  | 0 => ⟨fun _ _ h => (by cases h), fun _ _ h => (by cases h)⟩
  | n + 1 => by
    obtain ⟨i1, i2⟩ := sndT o n
    refine ⟨fun e t h => ?_, fun es ts h => ?_⟩
    · cases t with
      | var i =>
        simp only [chkT] at h
        split at h
        · rename_i x q
          simp only [Bool.and_eq_true, decide_eq_true_eq] at h
          have h2 := h.2
          unfold locB at h2
          refine g_var (pg_name o.nd (by rw [o.N]; exact h.1) ?_ ?_)
          · show X.env.scope.names.lookup x = some .local ∨ X.env.scope.names.lookup x = some .cell
            rw [o.sc]
            revert h2
            cases c.sc.names.lookup x with
            | none => intro h; cases h
            | some kd => cases kd <;> intro h <;> first | exact .inl rfl | exact .inr rfl | cases h
          · rw [o.sc, o.fn]
            revert h2
            cases c.sc.names.lookup x with
            | none => intro h; cases h
            | some kd => cases kd <;> intro h <;> first | exact .inr rfl | exact .inl h | cases h
        · cases h
      | tup ts =>
        simp only [chkT] at h
        split at h
        · rename_i es _ _
          obtain ⟨h1, h2⟩ := chkTs_nst h
          exact g_tup o.calm (i2 es ts h) (h2 X.env).1 (h2 X.env).2 h1
        · cases h
    · cases es with
      | nil =>
        cases ts with
        | nil => exact gs_nil
        | cons _ _ => cases h
      | cons e es =>
        cases ts with
        | nil => cases h
        | cons t ts =>
          simp only [chkTs, Bool.and_eq_true] at h
          exact gs_cons (i1 e t h.1.2) (i2 es ts h.2) (by rw [asg_of h.1.1]; rfl)
theorem chkA_len {n : Nat} : ∀ {n : Nat} {es : List Expr} {as : A}, chkA n pn c es as = true → nSts es = true ∧ ∀ cs call Γ g ds g', evA cs call as Γ g = .ok ds g' → ds.length = es.length
  | 0, _, _, h => by cases h
  | n + 1, [], .nil, _ => ⟨rfl, fun _ _ _ _ ds g' e => by simp only [evA] at e; cases e; rfl⟩
  | n + 1, [], .cons _ _, h => by cases h
  | n + 1, [], .star _ _, h => by cases h
  | n + 1, _ :: _, .star _ _, h => by cases h
  | n + 1, _ :: _, .nil, h => by cases h
  | n + 1, e :: es, .cons e' as, h => by
    simp only [chkA, Bool.and_eq_true] at h
    obtain ⟨h1, h2⟩ := chkA_len (n := n) h.2
    refine ⟨by simp only [nSts, Bool.and_eq_true]; exact ⟨h.1.1, h1⟩, fun cs call Γ g ds g' e => ?_⟩
    simp only [evA] at e
    obtain ⟨x, g1, _, e⟩ := bind_ok e
    obtain ⟨xs, g2, e2, e⟩ := bind_ok e
    cases e
    simp [h2 _ _ _ _ _ _ e2]
/-! ### tests -/
/-- c if t else d, as a test -/
theorem t_ife {t a b : Expr} {pos : Pos} {ft fa fb : Gm → G → R D} (ht : PT X t (tTt X.K W Ew fun Γ g => blR (ft Γ g))) (ha : PT X a (tTt X.K W Ew fun Γ g => blR (fa Γ g))) (hb : PT X b (tTt X.K W Ew fun Γ g => blR (fb Γ g))) :
    PT X (.IfExp t a b pos) (tTt X.K W Ew fun Γ g => blR (ifeR ft fa fb Γ g)) := by
  refine ⟨fun pins s σ H Q I ⟨Hk0, H0, Γ, g, Hk, fr, h⟩ => ?_⟩
  unfold PySem.isTrue
  have h : Fin W Ew Hk H (blR (ifeR ft fa fb Γ g)) _ := h
  have e : blR (ifeR ft fa fb Γ g) = (blR (ft Γ g)).bind fun k g => if k then blR (fa Γ g) else blR (fb Γ g) := by
    unfold ifeR
    cases blR (ft Γ g) with
    | ok k g1 => cases k <;> rfl
    | ex _ _ _ => rfl
    | st => rfl
  rw [e] at h
  refine wpAny_bind (thn (ht.run pins s σ H (fun k H1 => if k = true then tTt X.K W Ew (fun Γ g => blR (fa Γ g)) σ H1 Q else tTt X.K W Ew (fun Γ g => blR (fb Γ g)) σ H1 Q) I (seqT (f := fun Γ g => blR (ft Γ g)) fr h fun k g1 Hk1 H1 fr1 s1 h1 => ?_)) fun k s1 ⟨H1, I1, q1⟩ => ?_)
  · cases k with
    | true => exact iteT ⟨Hk0, H0, Γ, g1, Hk1, fr1, h1⟩
    | false => exact iteF ⟨Hk0, H0, Γ, g1, Hk1, fr1, h1⟩
  · cases k with
    | true => exact ha.run pins s1 σ H1 Q I1 q1
    | false => exact hb.run pins s1 σ H1 Q I1 q1
end
end Bk

set_option Elab.async false
set_option linter.all false
set_option maxRecDepth 100000
set_option maxHeartbeats 4000000
/-! The evaluator is sound: expressions, by induction. -/
namespace Bk
open PySem L2
open Evl (Ex ex_l ex_t)
section
variable {CX : CXT} {W : Wd} {pn : PrN} {p : Pr} {k : Nat}
/-- new lists -/
def frE : E → Bool
  | .lst _ => true
  | .lc _ _ _ _ => true
  | .cat _ _ => true
  | .rev _ => true
  | .lstS _ => true
  | .dnil => true
  | .done _ _ => true
  | .bi .list _ => true
  | .bi .sorted _ => true
  | .bi .sortd _ => true
  | .lrng1 _ => true
  | .lrng2 _ _ => true
  | _ => false
structure SE (CX : CXT) (W : Wd) (pn : PrN) (p : Pr) (k n : Nat) : Prop where
  e : ∀ {c : Cxt} {Ew : XK} {X : Cx}, Ok CX W pn p k c Ew X → ∀ {e : Expr} {E : E}, chkE n pn c e E = true → PE X e (tE X.K W Ew (evE p.cs (den p k) E))
  t : ∀ {c : Cxt} {Ew : XK} {X : Cx}, Ok CX W pn p k c Ew X → ∀ {e : Expr} {E : E}, chkE n pn c e E = true → PT X e (tTt X.K W Ew fun Γ g => blR (evE p.cs (den p k) E Γ g))
  w : ∀ {c : Cxt} {Ew : XK} {X : Cx}, Ok CX W pn p k c Ew X → ∀ {op : BoolOp} {es : List Expr} {pos : Pos} {E : E}, chkE n pn c (.BoolOp op es pos) E = true → PW X (.BoolOp op es pos) (tTt X.K W Ew fun Γ g => blR (evE p.cs (den p k) E Γ g))
  o : ∀ {c : Cxt} {Ew : XK} {X : Cx}, Ok CX W pn p k c Ew X → ∀ {e : Option Expr} {E : Option E}, chkO n pn c e E = true → PO X e (tOo X.K W Ew (evO p.cs (den p k) E))
  a : ∀ {c : Cxt} {Ew : XK} {X : Cx}, Ok CX W pn p k c Ew X → ∀ {e : List Expr} {E : A}, chkA n pn c e E = true → PA X e (tAa X.K W Ew (evA p.cs (den p k) E))
  as : ∀ {c : Cxt} {Ew : XK} {X : Cx}, Ok CX W pn p k c Ew X → ∀ {e : List Expr} {E : A}, chkAS n pn c e E = true → PA X e (tAa X.K W Ew (evA p.cs (den p k) E))
  i : ∀ {c : Cxt} {Ew : XK} {X : Cx}, Ok CX W pn p k c Ew X → ∀ {tg e : Expr} {E : I}, chkI n pn c tg e E = true → PI X tg e (tIi X.K W Ew (evI p.cs (den p k) E))
theorem one_some {e x : Expr} (h : one? e = some x) : ∃ op pos, e = .BoolOp op [x] pos := by
  unfold one? at h
  split at h
  · cases h; exact ⟨_, _, rfl⟩
  · cases h
theorem nost {op : BoolOp} {pos : Pos} {x : Expr} (h : one? (.BoolOp op [x] pos) = none) : False := by
  simp only [one?] at h; cases h
theorem cst_snd {X : Cx} {Ew : XK} {kc : Const} {j : Nat} {pos : Pos} {d : D} (h : cstB kc d = true) : PE X (.Constant kc j pos) (tE X.K W Ew fun _ g => .ok d g) := by
  cases kc <;> cases d <;> (try (cases h; done))
  · exact e_cst pe_non fun _ => rfl
  · have e := eq_of_beq h; subst e; exact e_cst pe_bl fun _ => rfl
  · have e := of_decide_eq_true h; subst e; exact e_cst pe_int fun _ => rfl
  · have e := of_decide_eq_true h; subst e; exact e_cst pe_str fun _ => rfl
theorem lc_snd {n : Nat} (ih : SE CX W pn p k n) {c : Cxt} {Ew : XK} {X : Cx} (ok : Ok CX W pn p k c Ew X) {elt tg iter : Expr} {ifs : List Expr} {scope : Scope} {elt' : E} {t : T} {it : I} {cond : Option E}
    (hb : blkC c.N c.sc scope (ownOf c t) = true) (hs : nSet iter = true) (ht : chkT n (blkCtx c scope) tg t = true) (hi : chkI n pn c tg iter it = true)
    (hc : (match ifs, cond with | [], none => true | [q], some q' => chkE n pn (blkCtx c scope) q q' | _, _ => false) = true) (he : chkE n pn (blkCtx c scope) elt elt' = true) :
    ∃ (wi : TI) (g : TG) (tt : TT) (te : TE) (own : List (Str × Nat)), PI X tg iter wi ∧ BlkOk X.N X.env.scope scope own ∧
      (∀ (s : Shared) (H : Hp) (C : Addr) (cl : List (Str × Addr)) (fp : List Addr), PG (X.blk s H scope (compEnvC scope cl C X.env) fp) tg g) ∧
      (∀ (s : Shared) (H : Hp) (C : Addr) (cl : List (Str × Addr)) (fp : List Addr), PTs (X.blk s H scope (compEnvC scope cl C X.env) fp) ifs tt) ∧
      (∀ (s : Shared) (H : Hp) (C : Addr) (cl : List (Str × Addr)) (fp : List Addr), PE (X.blk s H scope (compEnvC scope cl C X.env) fp) elt te) ∧
      (∀ x, foldedSetIterable iter X.env x = pure x) ∧
      ∀ σ H Q, tFf X.K W Ew (evE p.cs (den p k) (.lc elt' t it cond)) σ H Q → tLc wi g tt te (own.map (·.2)) σ H Q := by
  have bo : BlkOk X.N X.env.scope scope (ownOf c t) := by rw [ok.N, ok.sc]; exact blkOk_by hb
  have hi' := ih.i ok hi
  have hg : ∀ (s : Shared) (H : Hp) (C : Addr) (cl : List (Str × Addr)) (fp : List Addr), PG (X.blk s H scope (compEnvC scope cl C X.env) fp) tg (tGg X.K W t) := fun s H C cl fp => (sndT (ok.blk s H scope cl C fp) n).1 tg t ht
  have he' : ∀ (s : Shared) (H : Hp) (C : Addr) (cl : List (Str × Addr)) (fp : List Addr), PE (X.blk s H scope (compEnvC scope cl C X.env) fp) elt (tE X.K W E0 (evE p.cs (den p k) elt')) := fun s H C cl fp => ih.e (ok.blk s H scope cl C fp) he
  match ifs, cond, hc with
  | [], none, _ =>
    have ht' : ∀ (s : Shared) (H : Hp) (C : Addr) (cl : List (Str × Addr)) (fp : List Addr), PTs (X.blk s H scope (compEnvC scope cl C X.env) fp) [] (tTt X.K W E0 fun _ g => .ok true g) := fun s H C cl fp => ts_nil
    refine ⟨_, _, _, _, _, hi', bo, hg, ht', he', set_of hs X.env, fun σ H Q h => f_lc ok.calm ok.nd hi' bo (own_map c t) hg ht' he' (set_of hs X.env) σ H Q ?_⟩
    simp only [evE] at h
    exact h
  | [q], some q', hq =>
    have ht' : ∀ (s : Shared) (H : Hp) (C : Addr) (cl : List (Str × Addr)) (fp : List Addr), PTs (X.blk s H scope (compEnvC scope cl C X.env) fp) [q] (tTt X.K W E0 fun Γ g => blR (evE p.cs (den p k) q' Γ g)) := fun s H C cl fp => pts_one (ih.t (ok.blk s H scope cl C fp) hq)
    refine ⟨_, _, _, _, _, hi', bo, hg, ht', he', set_of hs X.env, fun σ H Q h => f_lc ok.calm ok.nd hi' bo (own_map c t) hg ht' he' (set_of hs X.env) σ H Q ?_⟩
    simp only [evE] at h
    exact h
  | [], some _, h => cases h
  | [_], none, h => cases h
  | _ :: _ :: _, none, h => cases h
  | _ :: _ :: _, some _, h => cases h
theorem lst_shape {cs : List (Nat × D)} {call : Nat → List D → G → R D} {as : A} {Γ : Gm} {g g' : G} {d : D} (h : evE cs call (.lst as) Γ g = .ok d g') : isOb d = true := by
  simp only [evE] at h
  obtain ⟨x, g1, _, h⟩ := bind_ok h
  cases h
  rfl
theorem lc_shape {cs : List (Nat × D)} {call : Nat → List D → G → R D} {elt : E} {t : T} {it : I} {cond : Option E} {Γ : Gm} {g g' : G} {d : D} (h : evE cs call (.lc elt t it cond) Γ g = .ok d g') : isOb d = true := by
  simp only [evE] at h
  obtain ⟨x, g1, _, h⟩ := bind_ok h
  obtain ⟨x, g1, _, h⟩ := bind_ok h
  cases h
  rfl
theorem lst_snd {n : Nat} (ih : SE CX W pn p k n) {c : Cxt} {Ew : XK} {X : Cx} (ok : Ok CX W pn p k c Ew X) {es : List Expr} {pos : Pos} {as : A} (h : chkA n pn c es as = true) (hl : es.length ≤ 1000) : PE X (.List es pos) (tFf X.K W Ew (evE p.cs (den p k) (.lst as))) := by
  have q := f_lst (pos := pos) (fs := evA p.cs (den p k) as) (fun Γ g ds g' e => by rw [(chkA_len (n := n) h).2 _ _ _ _ _ _ e]; omega) (ih.a ok h)
  have e : evE p.cs (den p k) (.lst as) = fun Γ g => (evA p.cs (den p k) as Γ g).bind fun xs g => .ok (.lst xs) g := by funext Γ g; first | rfl | (simp only [evE]; done) | (simp only [evE]; rfl)
  rw [e]
  exact q
theorem snd_e {n : Nat} (ih : SE CX W pn p k n) {c : Cxt} {Ew : XK} {X : Cx} (ok : Ok CX W pn p k c Ew X) {e : Expr} {E : E} (h : chkE (n + 1) pn c e E = true) : PE X e (tE X.K W Ew (evE p.cs (den p k) E)) := by
  unfold chkE at h
  split at h
  · rename_i x hx
    obtain ⟨op, pos, rfl⟩ := one_some hx
    exact pe_one (ih.e ok h)
  · rename_i h1
    cases E with
    | cst d =>
      dsimp only at h
      split at h
      · have e : evE p.cs (den p k) (.cst d) = fun _ g => .ok d g := by funext Γ g; first | rfl | (simp only [evE]; done) | (simp only [evE]; rfl)
        rw [e]
        exact cst_snd h
      · cases h
    | var i =>
      dsimp only at h
      split at h
      · rename_i x q
        simp only [Bool.and_eq_true, decide_eq_true_eq] at h
        have hN : X.N[i]? = some x := by rw [ok.N]; exact h.1
        have hm := ok.nm x (List.mem_of_getElem? hN)
        have e : evE p.cs (den p k) (.var i) = fun Γ g => match Γ[i]? with | some (.val d) => .ok d g | _ => .st := by funext Γ g; first | rfl | (simp only [evE]; done) | (simp only [evE]; rfl)
        rw [e]
        exact e_var (pe_var hN (by rw [ok.sc]; exact vis_of h.2) (okN1 hm) (okN2 hm))
      · cases h
    | glb i =>
      dsimp only at h
      split at h
      · rename_i x q
        simp only [Bool.and_eq_true, decide_eq_true_eq] at h
        cases hd : p.cs.lookup i with
        | none =>
          refine ⟨fun pins s σ H Q I ⟨Hk0, H0, Γ, g, Hk, fr, hf⟩ => ?_⟩
          simp only [evE, hd] at hf
          exact hf.elim
        | some d =>
          obtain ⟨u, v, h1, h2, h3, h4⟩ := ok.cs i d x hd h.1
          have e : evE p.cs (den p k) (.glb i) = fun _ g => .ok d g := by funext Γ g; simp only [evE, hd]; rfl
          rw [e]
          exact e_cst (pe_glob (ok.gl h.2) h2 h3 (okN1 h1)) h4
      · cases h
    | bin o a' b' =>
      dsimp only at h
      split at h
      · simp only [Bool.and_eq_true] at h
        rw [op_of h.1.1]
        have e := e_bin (pos := ‹Pos›) o (ih.e ok h.1.2) (ih.e ok h.2)
        have e2 : evE p.cs (den p k) (.bin o a' b') = fun Γ g => (evE p.cs (den p k) a' Γ g).bind fun x g => (evE p.cs (den p k) b' Γ g).bind fun y g => lift (opD o x y) g := by funext Γ g; first | rfl | (simp only [evE]; done) | (simp only [evE]; rfl)
        rw [e2]
        exact e
      · cases h
    | neg a' =>
      dsimp only at h
      split at h
      · have e := e_neg (pos := ‹Pos›) (ih.e ok h)
        have e2 : evE p.cs (den p k) (.neg a') = fun Γ g => (evE p.cs (den p k) a' Γ g).bind fun x g => match x with | .int i => .ok (.int (-i)) g | _ => .st := by funext Γ g; first | rfl | (simp only [evE]; done) | (simp only [evE]; rfl)
        rw [e2]
        exact e
      · cases h
    | cmp o a' b' =>
      dsimp only at h
      split at h
      · simp only [Bool.and_eq_true] at h
        rw [cm_of h.1.1.1]
        have e := e_cmp (pos := ‹Pos›) ok.un ok.w o (ih.e ok h.1.1.2) (ih.e ok h.1.2) (marks_of h.2 _)
        have e2 : evE p.cs (den p k) (.cmp o a' b') = fun Γ g => (evE p.cs (den p k) a' Γ g).bind fun x g => (evE p.cs (den p k) b' Γ g).bind fun y g => lift ((cmpD o x y).map .bl) g := by funext Γ g; first | rfl | (simp only [evE]; done) | (simp only [evE]; rfl)
        rw [e2]
        exact e
      · cases h
    | chn o o' a' b' d' =>
      dsimp only at h
      split at h
      · simp only [Bool.and_eq_true] at h
        rw [cm_of h.1.1.1.1.1, cm_of h.1.1.1.1.2]
        have e := e_chn (pos := ‹Pos›) ok.un ok.w o o' (ih.e ok h.1.1.1.2) (ih.e ok h.1.1.2) (ih.e ok h.1.2) (by show behindInMarks _ _ = false; exact marks_of h.2 _)
        have e2 : evE p.cs (den p k) (.chn o o' a' b' d') = chnR o o' (evE p.cs (den p k) a') (evE p.cs (den p k) b') (evE p.cs (den p k) d') := by funext Γ g; simp only [evE, chnR]
        rw [e2]
        exact e
      · cases h
    | and a b =>
      dsimp only at h
      split at h
      · simp only [Bool.and_eq_true] at h
        have e := e_and (ih.e ok h.1) (ih.e ok h.2)
        have e2 : evE p.cs (den p k) (.and a b) = andR (evE p.cs (den p k) a) (evE p.cs (den p k) b) := by funext Γ g; simp only [evE, andR]
        rw [e2]
        exact e
      · cases h
    | or a b =>
      dsimp only at h
      split at h
      · simp only [Bool.and_eq_true] at h
        have e := e_or (ih.e ok h.1) (ih.e ok h.2)
        have e2 : evE p.cs (den p k) (.or a b) = orR (evE p.cs (den p k) a) (evE p.cs (den p k) b) := by funext Γ g; simp only [evE, orR]
        rw [e2]
        exact e
      · cases h
    | not a' =>
      dsimp only at h
      split at h
      · have e := e_not (pos := ‹Pos›) (ih.e ok h)
        have e2 : evE p.cs (den p k) (.not a') = fun Γ g => (blR (evE p.cs (den p k) a' Γ g)).bind fun k g => .ok (.bl (!k)) g := by funext Γ g; first | rfl | (simp only [evE]; done) | (simp only [evE]; rfl)
        rw [e2]
        exact e
      · cases h
    | ife t' a' b' =>
      dsimp only at h
      split at h
      · simp only [Bool.and_eq_true] at h
        have e := e_ife (pos := ‹Pos›) (ih.t ok h.1.1) (ih.e ok h.1.2) (ih.e ok h.2)
        have e2 : evE p.cs (den p k) (.ife t' a' b') = ifeR (evE p.cs (den p k) t') (evE p.cs (den p k) a') (evE p.cs (den p k) b') := by funext Γ g; simp only [evE, ifeR]
        rw [e2]
        exact e
      · cases h
    | tup as =>
      dsimp only at h
      split at h
      · simp only [Bool.and_eq_true, decide_eq_true_eq] at h
        have e := e_tup (pos := ‹Pos›) (x1 := ‹Nat›) (fs := evA p.cs (den p k) as) (fun Γ g ds g' e => by rw [(chkA_len (n := n) h.1).2 _ _ _ _ _ _ e]; omega) (ih.a ok h.1)
        have e2 : evE p.cs (den p k) (.tup as) = fun Γ g => (evA p.cs (den p k) as Γ g).bind fun xs g => .ok (.tup xs) g := by funext Γ g; first | rfl | (simp only [evE]; done) | (simp only [evE]; rfl)
        rw [e2]
        exact e
      · cases h
    | lst as =>
      dsimp only at h
      split at h
      · simp only [Bool.and_eq_true, decide_eq_true_eq] at h
        exact f_tell (lst_snd ih ok h.1 h.2) fun Γ g d g' e => lst_shape e
      · cases h
    | sl a' lo' hi' =>
      dsimp only at h
      split at h
      · simp only [Bool.and_eq_true] at h
        have e := e_sl (pos := ‹Pos›) (p2 := ‹Pos›) (ih.e ok h.1.1) (ih.o ok h.1.2) (ih.o ok h.2)
        have e2 : evE p.cs (den p k) (.sl a' lo' hi') = fun Γ g => (evE p.cs (den p k) a' Γ g).bind fun x g => (evO p.cs (den p k) lo' Γ g).bind fun l g => (evO p.cs (den p k) hi' Γ g).bind fun h g => lift (slD x l h) g := by funext Γ g; first | rfl | (simp only [evE]; done) | (simp only [evE]; rfl)
        rw [e2]
        exact e_sl (ih.e ok h.1.1) (ih.o ok h.1.2) (ih.o ok h.2)
      · cases h
    | idx a' b' =>
      dsimp only at h
      split at h
      · simp only [Bool.and_eq_true] at h
        have e2 : evE p.cs (den p k) (.idx a' b') = fun Γ g => (evE p.cs (den p k) a' Γ g).bind fun x g => (evE p.cs (den p k) b' Γ g).bind fun y g => lift (idxD x y) g := by funext Γ g; first | rfl | (simp only [evE]; done) | (simp only [evE]; rfl)
        rw [e2]
        exact e_idx ok.un ok.w (ih.e ok h.1.1) (ih.e ok h.1.2) (ix_of h.2)
      · cases h
    | lc elt' t it cond =>
      dsimp only at h
      split at h
      · rename_i elt tg iter ifs z scope pos
        simp only [Bool.and_eq_true, decide_eq_true_eq] at h
        obtain ⟨⟨⟨⟨⟨⟨hz, hb⟩, hs⟩, ht⟩, hi⟩, hc⟩, he⟩ := h
        subst hz
        obtain ⟨wi, g, tt, te, own, q1, q2, q3, q4, q5, q6, q7⟩ := lc_snd ih ok hb hs ht hi hc he
        exact f_tell (PE.imp (pe_lc ok.calm ok.nd q1 q2 q3 q4 q5 q6) q7) fun Γ g d g' e => lc_shape e
      · cases h
    | call f as =>
      dsimp only at h
      split at h
      · rename_i x q es pos
        simp only [Bool.and_eq_true, decide_eq_true_eq] at h
        obtain ⟨a, fd, ps, n1, n2, n3, n4, n5, n6⟩ := ok.ds f x h.1.1
        have hn := (chkA_len (n := n) h.2).1
        have e2 : evE p.cs (den p k) (.call f as) = fun Γ g => (evA p.cs (den p k) as Γ g).bind fun xs g => den p k f xs g := by funext Γ g; first | rfl | (simp only [evE]; done) | (simp only [evE]; rfl)
        rw [e2]
        cases es with
        | nil =>
          cases as with
          | nil =>
            have e3 : (fun Γ g => (evA p.cs (den p k) .nil Γ g).bind fun xs g => den p k f xs g) = fun (Γ : Gm) g => R.bind (R.ok [] g) fun xs g => den p k f xs g := by funext Γ g; simp only [evA]
            rw [e3]
            exact e_call0 n5 ok.room ok.gd (ok.gl h.1.2) n2 n3 n4 ok.pass n6 (okN1 n1)
          | cons _ _ => cases n <;> cases h.2
          | star _ _ => cases n <;> cases h.2
        | cons e es =>
          simp only [nSts, Bool.and_eq_true] at hn
          exact e_call n5 ok.room ok.gd (ok.gl h.1.2) n2 n3 n4 ok.pass n6 (ih.a ok h.2) (okN1 n1) (star_of hn.1 _ _) (back_of _ _ hn.2)
      · cases h
    | bi b as =>
      dsimp only at h
      split at h
      · rename_i x q es pos
        simp only [Bool.and_eq_true, decide_eq_true_eq] at h
        obtain ⟨⟨⟨rfl, hg⟩, ha⟩, hne⟩ := h
        have hn := (chkA_len (n := n) ha).1
        have e2 : evE p.cs (den p k) (.bi b as) = fun Γ g => (evA p.cs (den p k) as Γ g).bind fun xs g => lift (biD b xs) g := by funext Γ g; first | rfl | (simp only [evE]; done) | (simp only [evE]; rfl)
        rw [e2]
        cases es with
        | nil => cases hne
        | cons e es => exact ok.bi b hg (ih.a ok ha) hn
      · cases h
    | isi a' ts =>
      dsimp only at h
      split at h
      · rename_i x q a b pos
        simp only [Bool.and_eq_true, decide_eq_true_eq] at h
        obtain ⟨⟨⟨⟨rfl, hg⟩, ha⟩, hn⟩, ht⟩ := h
        have e2 : evE p.cs (den p k) (.isi a' ts) = fun Γ g => (evE p.cs (den p k) a' Γ g).bind fun x g => lift ((isiD ts x).map .bl) g := by funext Γ g; first | rfl | (simp only [evE]; done) | (simp only [evE]; rfl)
        rw [e2]
        have hm : X.mg "isinstance" = none := ok.bn _ (by simp [bNames])
        match ts, ht with
        | [t], ht =>
          have hb := ty_nst ht
          exact e_isi1 (tx := "") (p2 := q) (ih.e ok ha) (ok.ty ht) (ok.gl hg) hm (star_of hn _ _) (star_of hb _ _) (back_of _ _ (by simp only [nSts, Bool.and_eq_true]; exact ⟨hb, trivial⟩))
        | [t, u], ht =>
          dsimp only at ht
          split at ht
          · rename_i b1 b2 _ _ _
            simp only [Bool.and_eq_true] at ht
            have n1 := ty_nst ht.1
            have n2 := ty_nst ht.2
            have hb : PE X (.Tuple [b1, b2] ‹Nat› ‹Pos›) (tTup fun _ H Q => Q [.ty (tyN t), .ty (tyN u)] H) := pe_tup (pa_cons (ok.ty ht.1) (pa_cons (ok.ty ht.2) pa_nil (star_of n2 _ _)) (star_of n1 _ _))
            exact e_isi2 (tc := tNil) (ih.e ok ha) hb (ok.gl hg) hm (star_of hn _ _) rfl rfl
          · cases ht
        | [], ht => cases ht
        | _ :: _ :: _ :: _, ht => cases ht
      · cases h
    | cat a' b' =>
      dsimp only at h
      split at h
      · simp only [Bool.and_eq_true] at h
        have e2 : evE p.cs (den p k) (.cat a' b') = catR (evE p.cs (den p k) a') (evE p.cs (den p k) b') := by funext Γ g; simp only [evE, catR] <;> rfl
        rw [e2]
        exact f_tell (f_cat (ih.e ok h.1) (ih.e ok h.2)) fun Γ g d g' e => cat_shape e
      · cases h
    | rev a' =>
      dsimp only at h
      split at h
      · simp only [Bool.and_eq_true, decide_eq_true_eq] at h
        obtain ⟨rfl, h⟩ := h
        have e2 : evE p.cs (den p k) (.rev a') = revR (evE p.cs (den p k) a') := by funext Γ g; simp only [evE, revR] <;> rfl
        rw [e2]
        exact f_tell (f_rev (ih.e ok h)) fun Γ g d g' e => rev_shape e
      · cases h
    | idxO i b' =>
      dsimp only at h
      split at h
      · rename_i x q b pos
        simp only [Bool.and_eq_true, decide_eq_true_eq] at h
        obtain ⟨⟨⟨hN0, hv⟩, hb⟩, hs⟩ := h
        have hN : X.N[i]? = some x := by rw [ok.N]; exact hN0
        have hm := ok.nm x (List.mem_of_getElem? hN)
        have e2 : evE p.cs (den p k) (.idxO i b') = idxOR i (evE p.cs (den p k) b') := by funext Γ g; simp only [evE, idxOR] <;> rfl
        rw [e2]
        exact e_idxO ok.un ok.w (pe_var hN (by rw [ok.sc]; exact vis_of hv) (okN1 hm) (okN2 hm)) (ih.e ok hb) (ix_of hs)
      · cases h
    | emO neg i =>
      dsimp only at h
      split at h
      · rename_i x q op q2 pos
        simp only [Bool.and_eq_true, decide_eq_true_eq] at h
        obtain ⟨⟨h1, hN0⟩, hv⟩ := h
        have hN : X.N[i]? = some x := by rw [ok.N]; exact hN0
        have hm := ok.nm x (List.mem_of_getElem? hN)
        have e2 : evE p.cs (den p k) (.emO neg i) = emOR neg i := by funext Γ g; simp only [evE, emOR] <;> rfl
        rw [e2]
        have pv : PE X (.Name x q) (tVar i) := pe_var hN (by rw [ok.sc]; exact vis_of hv) (okN1 hm) (okN2 hm)
        cases neg <;> cases op <;> (try (cases h1; done))
        · exact PE.imp (pe_cmpR (op_eqNil ok.un) pv (pe_lst pa_nil) rfl) fun σ H Q z => em_read z
        · exact PE.imp (pe_cmpR (op_neNil ok.un) pv (pe_lst pa_nil) rfl) fun σ H Q z => em_read z
      · cases h
    | tupS as =>
      dsimp only at h
      split at h
      · have e2 : evE p.cs (den p k) (.tupS as) = fun Γ g => (evA p.cs (den p k) as Γ g).bind fun xs g => if xs.length ≤ 1000000 then .ok (.tup xs) g else .st := by funext Γ g; simp only [evE] <;> rfl
        rw [e2]
        exact e_tupS (ih.as ok h)
      · cases h
    | dnil =>
      dsimp only at h
      split at h
      · have e2 : evE p.cs (den p k) .dnil = fun _ g => .ok (.dct [] []) g := by funext Γ g; simp only [evE]
        rw [e2]
        exact f_tell f_dnil fun Γ g d g' e => by cases e; rfl
      · cases h
    | done k' v' =>
      dsimp only at h
      split at h
      · simp only [Bool.and_eq_true] at h
        have e2 : evE p.cs (den p k) (.done k' v') = doneR (evE p.cs (den p k) k') (evE p.cs (den p k) v') := by funext Γ g; simp only [evE, doneR] <;> rfl
        rw [e2]
        exact f_tell (f_done ok.un ok.w (ih.e ok h.1) (ih.e ok h.2)) fun Γ g d g' e => done_shape e
      · cases h
    | inO neg a' i =>
      dsimp only at h
      split at h
      · rename_i a op x q pos
        simp only [Bool.and_eq_true, decide_eq_true_eq] at h
        obtain ⟨⟨⟨h1, ha⟩, hN0⟩, hv⟩ := h
        have hN : X.N[i]? = some x := by rw [ok.N]; exact hN0
        have hm := ok.nm x (List.mem_of_getElem? hN)
        have e2 : evE p.cs (den p k) (.inO neg a' i) = inOR neg (evE p.cs (den p k) a') i := by funext Γ g; simp only [evE, inOR] <;> rfl
        rw [e2]
        have pv : PE X (.Name x q) (tVar i) := pe_var hN (by rw [ok.sc]; exact vis_of hv) (okN1 hm) (okN2 hm)
        cases neg <;> cases op <;> (try (cases h1; done))
        · exact e_inO (neg := false) ok.un ok.w (ih.e ok ha) pv rfl
        · exact e_inO (neg := true) ok.un ok.w (ih.e ok ha) pv rfl
      · cases h
    | lrng1 a' =>
      dsimp only at h
      split at h
      · rename_i f q1 r q2 a q3 q4
        simp only [Bool.and_eq_true, decide_eq_true_eq] at h
        obtain ⟨⟨⟨⟨⟨rfl, hg⟩, rfl⟩, hg2⟩, ha⟩, hn⟩ := h
        have e2 : evE p.cs (den p k) (.lrng1 a') = lrng1R (evE p.cs (den p k) a') := by funext Γ g; simp only [evE, lrng1R] <;> rfl
        rw [e2]
        exact f_tell (f_lrng1 ok.calm (ok.gl hg) (ok.bn _ (by simp [bNames])) (ok.gl hg2) (ok.bn _ (by simp [bNames])) (ih.e ok ha) (star_of hn _ _)) fun Γ g d g' e => lrng1_shape e
      · cases h
    | lrng2 a' b' =>
      dsimp only at h
      split at h
      · rename_i f q1 r q2 a b q3 q4
        simp only [Bool.and_eq_true, decide_eq_true_eq] at h
        obtain ⟨⟨⟨⟨⟨⟨⟨rfl, hg⟩, rfl⟩, hg2⟩, ha⟩, hn⟩, hb⟩, hn2⟩ := h
        have e2 : evE p.cs (den p k) (.lrng2 a' b') = lrng2R (evE p.cs (den p k) a') (evE p.cs (den p k) b') := by funext Γ g; simp only [evE, lrng2R] <;> rfl
        rw [e2]
        exact f_tell (f_lrng2 ok.calm (ok.gl hg) (ok.bn _ (by simp [bNames])) (ok.gl hg2) (ok.bn _ (by simp [bNames])) (ih.e ok ha) (ih.e ok hb) (star_of hn _ _) (star_of hn2 _ _) (by rw [star_of hn2]; rfl)) fun Γ g d g' e => lrng2_shape e
      · cases h
    | lenO i =>
      dsimp only at h
      split at h
      · rename_i f q x q2 pos
        simp only [Bool.and_eq_true, decide_eq_true_eq] at h
        obtain ⟨⟨⟨rfl, hg⟩, hN0⟩, hv⟩ := h
        have hN : X.N[i]? = some x := by rw [ok.N]; exact hN0
        have hm := ok.nm x (List.mem_of_getElem? hN)
        have e2 : evE p.cs (den p k) (.lenO i) = lenOR i := by funext Γ g; simp only [evE, lenOR] <;> rfl
        rw [e2]
        exact e_lenO ok.w (pe_var hN (by rw [ok.sc]; exact vis_of hv) (okN1 hm) (okN2 hm)) (ok.gl hg) (ok.bn _ (by simp [bNames]))
      · cases h
    | lstS as =>
      dsimp only at h
      split at h
      · have e2 : evE p.cs (den p k) (.lstS as) = fun Γ g => (evA p.cs (den p k) as Γ g).bind fun xs g => if xs.length ≤ 1000000 then .ok (.lst xs) g else .st := by funext Γ g; simp only [evE] <;> rfl
        rw [e2]
        exact f_tell (f_lstS (ih.as ok h)) fun Γ g d g' e => lstS_shape e
      · cases h
    | draw a' b' =>
      dsimp only at h
      split at h
      · rename_i x q a b pos
        simp only [Bool.and_eq_true, decide_eq_true_eq] at h
        obtain ⟨⟨⟨⟨⟨rfl, hg⟩, ha⟩, hb⟩, n1⟩, n2⟩ := h
        obtain ⟨f, fd, ps, d1, d2, d3, d4⟩ := ok.dr
        have e2 : evE p.cs (den p k) (.draw a' b') = fun Γ g => (evE p.cs (den p k) a' Γ g).bind fun x g => (evE p.cs (den p k) b' Γ g).bind fun y g => drawR x y g := by funext Γ g; simp only [evE]; rfl
        rw [e2]
        exact e_draw d4 ok.room ok.gd (ok.gl hg) d1 d2 d3 ok.pass (ih.e ok ha) (ih.e ok hb) (by decide) (star_of n1 _ _) (star_of n2 _ _) (back_of _ _ (by simp only [nSts, Bool.and_eq_true]; exact ⟨n2, trivial⟩))
      · cases h
end
end Bk

set_option Elab.async false
set_option linter.all false
set_option maxRecDepth 100000
set_option maxHeartbeats 4000000
/-! The evaluator is sound: tests, arguments, walks. -/
namespace Bk
open PySem L2
open Evl (Ex ex_l ex_t)
section
variable {CX : CXT} {W : Wd} {pn : PrN} {p : Pr} {k : Nat}
theorem snd_w {n : Nat} (ih : SE CX W pn p k n) {c : Cxt} {Ew : XK} {X : Cx} (ok : Ok CX W pn p k c Ew X) {op : BoolOp} {es : List Expr} {pos : Pos} {E : E} (h : chkE (n + 1) pn c (.BoolOp op es pos) E = true) :
    PW X (.BoolOp op es pos) (tTt X.K W Ew fun Γ g => blR (evE p.cs (den p k) E Γ g)) := by
  unfold chkE at h
  split at h
  · rename_i x hx
    obtain ⟨op', pos', e⟩ := one_some hx
    cases e
    cases op with
    | And => exact pw_and1 (ih.t ok h)
    | Or => exact pw_or1 (ih.t ok h)
  · cases E with
    | and a b =>
      dsimp only at h
      split at h
      · rename_i x y r pos' e
        cases e
        simp only [Bool.and_eq_true] at h
        have e2 : evE p.cs (den p k) (.and a b) = andR (evE p.cs (den p k) a) (evE p.cs (den p k) b) := by funext Γ g; first | rfl | (simp only [evE, andR]; done) | (simp only [evE, andR]; rfl)
        rw [e2]
        exact w_and (ih.t ok h.1) (ih.w ok h.2)
      · cases h
    | or a b =>
      dsimp only at h
      split at h
      · rename_i x y r pos' e
        cases e
        simp only [Bool.and_eq_true] at h
        have e2 : evE p.cs (den p k) (.or a b) = orR (evE p.cs (den p k) a) (evE p.cs (den p k) b) := by funext Γ g; first | rfl | (simp only [evE, orR]; done) | (simp only [evE, orR]; rfl)
        rw [e2]
        exact w_or (ih.t ok h.1) (ih.w ok h.2)
      · cases h
    | _ => cases h
/-- what is asked by its value -/
def plT : Expr → Bool
  | .UnaryOp .Not _ _ => false
  | .BoolOp .. => false
  | .IfExp .. => false
  | .Compare .. => false
  | _ => true
theorem plT_of {e : Expr} (h : plT e = true) (env : Env) : ∀ whole, PySem.isTrue e env whole = (do let v ← whole; standAt e.pos; holding [v] (truthy v)) := by
  intro whole
  cases e <;> first | rfl | (cases h; done) | skip
  rename_i op a pos
  cases op <;> first | rfl | cases h
theorem snd_t {n : Nat} (ih : SE CX W pn p k n) {c : Cxt} {Ew : XK} {X : Cx} (ok : Ok CX W pn p k c Ew X) {e : Expr} {E : E} (h : chkE (n + 1) pn c e E = true) : PT X e (tTt X.K W Ew fun Γ g => blR (evE p.cs (den p k) E Γ g)) := by
  by_cases hp : plT e = true
  · exact t_val (snd_e ih ok h) (plT_of hp X.env)
  · cases e with
    | BoolOp op es pos => exact (snd_w ih ok h).pt
    | UnaryOp op a pos =>
      cases op with
      | Not =>
        unfold chkE at h
        split at h
        · rename_i x hx; cases hx
        · cases E with
          | not a' =>
            dsimp only at h
            have e2 : evE p.cs (den p k) (.not a') = fun Γ g => (blR (evE p.cs (den p k) a' Γ g)).bind fun k g => .ok (.bl (!k)) g := by funext Γ g; first | rfl | (simp only [evE]; done) | (simp only [evE]; rfl)
            rw [e2]
            exact t_not (ih.t ok h)
          | _ => cases h
      | _ => exact absurd rfl hp
    | IfExp t a b pos =>
      unfold chkE at h
      split at h
      · rename_i x hx; cases hx
      · cases E with
        | ife t' a' b' =>
          dsimp only at h
          simp only [Bool.and_eq_true] at h
          have e2 : evE p.cs (den p k) (.ife t' a' b') = ifeR (evE p.cs (den p k) t') (evE p.cs (den p k) a') (evE p.cs (den p k) b') := by funext Γ g; first | rfl | (simp only [evE, ifeR]; done) | (simp only [evE, ifeR]; rfl)
          rw [e2]
          exact t_ife (ih.t ok h.1.1) (ih.t ok h.1.2) (ih.t ok h.2)
        | _ => cases h
    | Compare a ops bs pos =>
      unfold chkE at h
      split at h
      · rename_i x hx; cases hx
      · cases E with
        | cmp o a' b' =>
          dsimp only at h
          split at h
          · rename_i e
            cases e
            simp only [Bool.and_eq_true] at h
            rw [cm_of h.1.1.1]
            have e2 : evE p.cs (den p k) (.cmp o a' b') = fun Γ g => (evE p.cs (den p k) a' Γ g).bind fun x g => (evE p.cs (den p k) b' Γ g).bind fun y g => lift ((cmpD o x y).map .bl) g := by funext Γ g; first | rfl | (simp only [evE]; done) | (simp only [evE]; rfl)
            rw [e2]
            exact t_cmp ok.un ok.w o (ih.e ok h.1.1.2) (ih.e ok h.1.2) (marks_of h.2 _)
          · cases h
        | emO neg i =>
          dsimp only at h
          split at h
          · rename_i x q op q2 pos' e
            cases e
            simp only [Bool.and_eq_true, decide_eq_true_eq] at h
            obtain ⟨⟨h1, hN0⟩, hv⟩ := h
            have hN : X.N[i]? = some x := by rw [ok.N]; exact hN0
            have hm := ok.nm x (List.mem_of_getElem? hN)
            have e2 : evE p.cs (den p k) (.emO neg i) = emOR neg i := by funext Γ g; simp only [evE, emOR] <;> rfl
            rw [e2]
            have pv : PE X (.Name x q) (tVar i) := pe_var hN (by rw [ok.sc]; exact vis_of hv) (okN1 hm) (okN2 hm)
            cases neg <;> cases op <;> (try (cases h1; done))
            · exact PT.imp (pt_cmpR (op_eqNil ok.un) pv (pe_lst pa_nil) rfl) fun σ H Q z => tm_read z
            · exact PT.imp (pt_cmpR (op_neNil ok.un) pv (pe_lst pa_nil) rfl) fun σ H Q z => tm_read z
          · cases h
        | inO neg a' i =>
          dsimp only at h
          split at h
          · rename_i a0 op x q pos' e
            cases e
            simp only [Bool.and_eq_true, decide_eq_true_eq] at h
            obtain ⟨⟨⟨h1, ha⟩, hN0⟩, hv⟩ := h
            have hN : X.N[i]? = some x := by rw [ok.N]; exact hN0
            have hm := ok.nm x (List.mem_of_getElem? hN)
            have e2 : evE p.cs (den p k) (.inO neg a' i) = inOR neg (evE p.cs (den p k) a') i := by funext Γ g; simp only [evE, inOR] <;> rfl
            rw [e2]
            have pv : PE X (.Name x q) (tVar i) := pe_var hN (by rw [ok.sc]; exact vis_of hv) (okN1 hm) (okN2 hm)
            cases neg <;> cases op <;> (try (cases h1; done))
            · exact t_inO (neg := false) ok.un ok.w (ih.e ok ha) pv rfl
            · exact t_inO (neg := true) ok.un ok.w (ih.e ok ha) pv rfl
          · cases h
        | chn o o' a' b' d' =>
          dsimp only at h
          split at h
          · rename_i e
            cases e
            simp only [Bool.and_eq_true] at h
            rw [cm_of h.1.1.1.1.1, cm_of h.1.1.1.1.2]
            have e2 : evE p.cs (den p k) (.chn o o' a' b' d') = chnR o o' (evE p.cs (den p k) a') (evE p.cs (den p k) b') (evE p.cs (den p k) d') := by funext Γ g; first | rfl | (simp only [evE, chnR]; done) | (simp only [evE, chnR]; rfl)
            rw [e2]
            exact t_chn ok.un ok.w o o' (ih.e ok h.1.1.1.2) (ih.e ok h.1.1.2) (ih.e ok h.1.2) (by show behindInMarks _ _ = false; exact marks_of h.2 _)
          · cases h
        | _ => cases h
    | _ => exact absurd rfl hp
theorem snd_o {n : Nat} (ih : SE CX W pn p k n) {c : Cxt} {Ew : XK} {X : Cx} (ok : Ok CX W pn p k c Ew X) {e : Option Expr} {E : Option E} (h : chkO (n + 1) pn c e E = true) : PO X e (tOo X.K W Ew (evO p.cs (den p k) E)) := by
  cases e with
  | none =>
    cases E with
    | none =>
      have e2 : evO p.cs (den p k) none = fun _ g => .ok none g := by funext Γ g; first | rfl | (simp only [evO]; done) | (simp only [evO]; rfl)
      rw [e2]
      exact o_none
    | some _ => cases h
  | some e =>
    cases E with
    | none => cases h
    | some E =>
      simp only [chkO] at h
      have e2 : evO p.cs (den p k) (some E) = fun Γ g => (evE p.cs (den p k) E Γ g).bind fun x g => match x with | .int i => .ok (some i) g | _ => .st := by funext Γ g; first | rfl | (simp only [evO]; done) | (simp only [evO]; rfl)
      rw [e2]
      exact o_some (ih.e ok h)
theorem snd_a {n : Nat} (ih : SE CX W pn p k n) {c : Cxt} {Ew : XK} {X : Cx} (ok : Ok CX W pn p k c Ew X) {es : List Expr} {as : A} (h : chkA (n + 1) pn c es as = true) : PA X es (tAa X.K W Ew (evA p.cs (den p k) as)) := by
  cases es with
  | nil =>
    cases as with
    | nil =>
      have e2 : evA p.cs (den p k) .nil = fun _ g => .ok [] g := by funext Γ g; first | rfl | (simp only [evA]; done) | (simp only [evA]; rfl)
      rw [e2]
      exact a_nil
    | cons _ _ => cases h
    | star _ _ => cases h
  | cons e es =>
    cases as with
    | nil => cases h
    | star _ _ => cases h
    | cons e' as =>
      simp only [chkA, Bool.and_eq_true] at h
      have e2 : evA p.cs (den p k) (.cons e' as) = fun Γ g => (evE p.cs (den p k) e' Γ g).bind fun x g => (evA p.cs (den p k) as Γ g).bind fun xs g => .ok (x :: xs) g := by funext Γ g; first | rfl | (simp only [evA]; done) | (simp only [evA]; rfl)
      rw [e2]
      exact a_cons (ih.e ok h.1.2) (ih.a ok h.2) (star_of h.1.1 _ _)
theorem snd_as {n : Nat} (ih : SE CX W pn p k n) {c : Cxt} {Ew : XK} {X : Cx} (ok : Ok CX W pn p k c Ew X) {es : List Expr} {as : A} (h : chkAS (n + 1) pn c es as = true) : PA X es (tAa X.K W Ew (evA p.cs (den p k) as)) := by
  cases as with
  | nil =>
    cases es with
    | nil =>
      have e2 : evA p.cs (den p k) .nil = fun _ g => .ok [] g := by funext Γ g; first | rfl | (simp only [evA]; done) | (simp only [evA]; rfl)
      rw [e2]
      exact a_nil
    | cons e es => simp only [chkAS] at h; cases h
  | cons e' as =>
    cases es with
    | nil => simp only [chkAS] at h; cases h
    | cons e es =>
      simp only [chkAS, Bool.and_eq_true] at h
      have e2 : evA p.cs (den p k) (.cons e' as) = fun Γ g => (evE p.cs (den p k) e' Γ g).bind fun x g => (evA p.cs (den p k) as Γ g).bind fun xs g => .ok (x :: xs) g := by funext Γ g; first | rfl | (simp only [evA]; done) | (simp only [evA]; rfl)
      rw [e2]
      exact a_cons (ih.e ok h.1.2) (ih.as ok h.2) (star_of h.1.1 _ _)
  | star e' as =>
    have e2 : evA p.cs (den p k) (.star e' as) = starR (evE p.cs (den p k) e') (evA p.cs (den p k) as) := by funext Γ g; simp only [evA, starR] <;> rfl
    rw [e2]
    cases es with
    | nil => simp only [chkAS] at h; cases h
    | cons e es =>
      cases e with
      | Starred e pos =>
        simp only [chkAS, Bool.and_eq_true] at h
        exact a_star (ih.e ok h.1) (ih.as ok h.2)
      | _ => simp only [chkAS] at h; cases h
theorem snd_i {n : Nat} (ih : SE CX W pn p k n) {c : Cxt} {Ew : XK} {X : Cx} (ok : Ok CX W pn p k c Ew X) {tg e : Expr} {E : I} (h : chkI (n + 1) pn c tg e E = true) : PI X tg e (tIi X.K W Ew (evI p.cs (den p k) E)) := by
  have mr : X.mg "range" = none := ok.bn _ (by simp [bNames])
  have mz : X.mg "zip" = none := ok.bn _ (by simp [bNames])
  have me : X.mg "enumerate" = none := ok.bn _ (by simp [bNames])
  cases E with
  | seq e' =>
    simp only [chkI] at h
    have e2 : evI p.cs (den p k) (.seq e') = fun Γ g => (evE p.cs (den p k) e' Γ g).bind fun x g => lift (seqD x) g := by funext Γ g; first | rfl | (simp only [evI]; done) | (simp only [evI]; rfl)
    rw [e2]
    exact i_seq (ih.e ok h)
  | rng1 a' =>
    simp only [chkI] at h
    split at h
    · simp only [Bool.and_eq_true, decide_eq_true_eq] at h
      obtain ⟨⟨⟨rfl, hg⟩, ha⟩, hn⟩ := h
      have e2 : evI p.cs (den p k) (.rng1 a') = fun Γ g => (evE p.cs (den p k) a' Γ g).bind fun x g => match x with | .int i => if -1000000 ≤ i ∧ i ≤ 1000000 then .ok (rngD 0 i.toNat) g else .st | _ => .st := by funext Γ g; first | rfl | (simp only [evI]; done) | (simp only [evI]; rfl)
      rw [e2]
      exact i_rng1 (ok.gl hg) mr (ih.e ok ha) (star_of hn _ _)
    · cases h
  | rng2 a' b' =>
    simp only [chkI] at h
    split at h
    · simp only [Bool.and_eq_true, decide_eq_true_eq] at h
      obtain ⟨⟨⟨⟨⟨rfl, hg⟩, ha⟩, hb⟩, n1⟩, n2⟩ := h
      have e2 : evI p.cs (den p k) (.rng2 a' b') = fun Γ g => (evE p.cs (den p k) a' Γ g).bind fun x g => (evE p.cs (den p k) b' Γ g).bind fun y g => match x, y with
        | .int i, .int j => if (-1000000 ≤ i ∧ i ≤ 1000000) ∧ -1000000 ≤ j ∧ j ≤ 1000000 then .ok (rngD i (j - i).toNat) g else .st
        | _, _ => .st := by funext Γ g; first | rfl | (simp only [evI]; done) | (simp only [evI]; rfl)
      rw [e2]
      exact i_rng2 (ok.gl hg) mr (ih.e ok ha) (ih.e ok hb) (star_of n1 _ _) (star_of n2 _ _)
    · cases h
  | zip a' b' =>
    simp only [chkI] at h
    split at h
    · simp only [Bool.and_eq_true, decide_eq_true_eq] at h
      obtain ⟨⟨⟨⟨⟨rfl, hg⟩, ha⟩, hb⟩, n1⟩, n2⟩ := h
      have e2 : evI p.cs (den p k) (.zip a' b') = fun Γ g => (evE p.cs (den p k) a' Γ g).bind fun x g => (evE p.cs (den p k) b' Γ g).bind fun y g => match itemsD x, itemsD y with
        | some xs, some ys => .ok (zipD xs ys) g
        | _, _ => .st := by funext Γ g; first | rfl | (simp only [evI]; done) | (simp only [evI]; rfl)
      rw [e2]
      exact i_zip (ok.gl hg) mz (ih.e ok ha) (ih.e ok hb) (star_of n1 _ _) (star_of n2 _ _) (back_of _ _ (by simp only [nSts, Bool.and_eq_true]; exact ⟨n2, trivial⟩))
    · cases h
  | enum a' =>
    simp only [chkI] at h
    split at h
    · simp only [Bool.and_eq_true, decide_eq_true_eq] at h
      obtain ⟨⟨⟨rfl, hg⟩, ha⟩, hn⟩ := h
      have e2 : evI p.cs (den p k) (.enum a') = fun Γ g => (evE p.cs (den p k) a' Γ g).bind fun x g => match itemsD x with
        | some xs => .ok (enumD 0 xs) g
        | _ => .st := by funext Γ g; first | rfl | (simp only [evI]; done) | (simp only [evI]; rfl)
      rw [e2]
      exact i_enum (ok.gl hg) me (ih.e ok ha) (star_of hn _ _)
    · cases h
theorem se_all : ∀ n, SE CX W pn p k n
  | 0 => ⟨fun _ _ _ h => (by unfold chkE at h; cases h), fun _ _ _ h => (by unfold chkE at h; cases h), fun _ _ _ _ _ h => (by unfold chkE at h; cases h), fun _ _ _ h => (by unfold chkO at h; cases h), fun _ _ _ h => (by unfold chkA at h; cases h), fun _ _ _ h => (by unfold chkAS at h; cases h), fun _ _ _ _ h => (by unfold chkI at h; cases h)⟩
  | n + 1 => by
    have ih := se_all n
    exact ⟨fun ok _ _ h => snd_e ih ok h, fun ok _ _ h => snd_t ih ok h, fun ok _ _ _ _ h => snd_w ih ok h, fun ok _ _ h => snd_o ih ok h, fun ok _ _ h => snd_a ih ok h, fun ok _ _ h => snd_as ih ok h, fun ok _ _ _ h => snd_i ih ok h⟩
end
end Bk

set_option Elab.async false
set_option linter.all false
set_option maxRecDepth 100000
set_option maxHeartbeats 4000000
/-! Statements: a rule for each form. -/
namespace Bk
open PySem L2
open Evl (Ex ex_l ex_t)
section
variable (K : PySem.W.Frag) (W : Wd) (Ew : XK) (Hk0 H0 : Hp)
def FinS (Hb : Hp) (Dn : Ends) (r : R Fl) : Prop := match r with
  | .ok (.nx Γ') g' => ∀ σ' Hk' H', Fr K W Hk0 H0 Γ' g' σ' Hk' H' → Ex Hb Hk' → Dn.nx σ' H'
  | .ok (.rt d) g' => ∀ v Hk' H', Step W Hk0 H0 Hk' H' → DrawAt W g' H' → Rp K W Hk' d v → Dn.rt v H'
  | .ex c ds g' => ∀ Hk' H' cls dx, Step W Hk0 H0 Hk' H' → DrawAt W g' H' → ExcAt c ds cls dx Hk' H' → Ew cls dx H'
  | .st => False
def tSt (ev : Gm → G → R Fl) : TS := fun Dn σ H => ∃ Hb Γ g Hk, Fr K W Hk0 H0 Γ g σ Hk H ∧ Ex Hb Hk ∧ FinS K W Ew Hk0 H0 Hb Dn (ev Γ g)
end
section
variable {X : Cx} {W : Wd} {Ew : XK} {Hk0 H0 Hk H : Hp} {Γ : Gm} {g : G} {σ : L2.St} {K : PySem.W.Frag} {Dn : Ends} {Hb : Hp}
theorem PS.imp {s : Stmt} {t t' : TS} (h : PS X s t') (i : ∀ D σ H, t D σ H → t' D σ H) : PS X s t := ⟨fun pins s σ H D I q => h.run pins s σ H D I (i D σ H q)⟩
theorem PSs.imp {s : List Stmt} {t t' : TS} (h : PSs X s t') (i : ∀ D σ H, t D σ H → t' D σ H) : PSs X s t := ⟨fun pins s σ H D I q => h.run pins s σ H D I (i D σ H q)⟩
theorem FinS.bind {α : Type} {r : R α} {k : α → G → R Fl} (fr : Fr K W Hk0 H0 Γ g σ Hk H) (h : FinS K W Ew Hk0 H0 Hb Dn (r.bind k)) : Fin W Ew Hk H r fun a g' _ _ => FinS K W Ew Hk0 H0 Hb Dn (k a g') := by
  cases r with
  | ok a g' => exact fun _ _ _ _ => h
  | ex c ds g' => exact fun Hk' H' cls dx s dr x => h Hk' H' cls dx (fr.en.trans s) dr x
  | st => exact h
theorem seqSE {f : Gm → G → R D} {k : D → G → R Fl} {Q : VK} (fr : Fr K W Hk0 H0 Γ g σ Hk H) (h : FinS K W Ew Hk0 H0 Hb Dn ((f Γ g).bind k))
    (hq : ∀ v d g' Hk' H', Fr K W Hk0 H0 Γ g' σ Hk' H' → Step W Hk H Hk' H' → Rp K W Hk' d v → FinS K W Ew Hk0 H0 Hb Dn (k d g') → Q v H') : tE K W Ew f σ H Q :=
  ⟨Hk0, H0, Γ, g, Hk, fr, (FinS.bind fr h).mono fun d g' Hk' H' s dr kq v r => hq v d g' Hk' H' (fr.step s dr) s r kq⟩
theorem seqST {f : Gm → G → R Bool} {k : Bool → G → R Fl} {Q : Bool → Hp → Prop} (fr : Fr K W Hk0 H0 Γ g σ Hk H) (h : FinS K W Ew Hk0 H0 Hb Dn ((f Γ g).bind k))
    (hq : ∀ b g' Hk' H', Fr K W Hk0 H0 Γ g' σ Hk' H' → Step W Hk H Hk' H' → FinS K W Ew Hk0 H0 Hb Dn (k b g') → Q b H') : tTt K W Ew f σ H Q :=
  ⟨Hk0, H0, Γ, g, Hk, fr, (FinS.bind fr h).mono fun d g' Hk' H' s dr kq => hq d g' Hk' H' (fr.step s dr) s kq⟩
theorem seqSI {f : Gm → G → R (List D)} {k : List D → G → R Fl} {Q : It → Hp → Prop} (fr : Fr K W Hk0 H0 Γ g σ Hk H) (h : FinS K W Ew Hk0 H0 Hb Dn ((f Γ g).bind k))
    (hq : ∀ J ds g' Hk' H', Fr K W Hk0 H0 Γ g' σ Hk' H' → Step W Hk H Hk' H' → ItOk K W J ds Hk' → FinS K W Ew Hk0 H0 Hb Dn (k ds g') → Q J H') : tIi K W Ew f σ H Q :=
  ⟨Hk0, H0, Γ, g, Hk, fr, (FinS.bind fr h).mono fun d g' Hk' H' s dr kq v r => hq v d g' Hk' H' (fr.step s dr) s r kq⟩
/-- a new list, then the rest -/
theorem seqSF {f : Gm → G → R D} {k : D → G → R Fl} {Q : VK} (fr : Fr K W Hk0 H0 Γ g σ Hk H) (h : FinS K W Ew Hk0 H0 Hb Dn ((f Γ g).bind k))
    (hq : ∀ p u d g' Hk' H', Fr K W Hk0 H0 Γ g' σ Hk' H' → Step W Hk H Hk' H' → H p = none → Hk' p = none → H' p = some u → Ob K W Hk' d p u → FinS K W Ew Hk0 H0 Hb Dn (k d g') → Q (.ref p) H') : tFf K W Ew f σ H Q :=
  ⟨Hk0, H0, Γ, g, Hk, fr, (FinS.bind fr h).mono fun d g' Hk' H' s dr kq p u h1 h2 h3 h4 => hq p u d g' Hk' H' (fr.step s dr) s h1 h2 h3 h4 kq⟩
theorem Fr.hn (fr : Fr K W Hk0 H0 Γ g σ Hk H) {p : Addr} (hp : H p = none) : ∀ (j : Nat) (q : D), Γ[j]? = some (Slot.own q) → σ[j]? ≠ some (some (V.ref p)) := by
  intro j q e1 e2
  obtain ⟨os, sl, _⟩ := fr.sl
  obtain ⟨p', xs, h2, _, h4, _⟩ := sl.obj_at e1
  rw [e2] at h2
  cases h2
  rw [hp] at h4
  cases h4
theorem Fr.outp (fr : Fr K W Hk0 H0 Γ g σ Hk H) {p : Addr} (hp : H p = none) : W.out p := ex_upd_out fr.wk.dr hp
theorem Fr.h0 (fr : Fr K W Hk0 H0 Γ g σ Hk H) {p : Addr} (hp : H p = none) : H0 p = none := none_back fr.en hp
/-- blocks -/
def seqR (f h : Gm → G → R Fl) : Gm → G → R Fl := fun Γ g => (f Γ g).bind fun fl g => match fl with
  | .nx Γ' => h Γ' g
  | .rt d => .ok (.rt d) g
theorem s_cons {st : Stmt} {rest : List Stmt} {f h : Gm → G → R Fl} (h1 : PS X st (tSt X.K W Ew Hk0 H0 f)) (h2 : PSs X rest (tSt X.K W Ew Hk0 H0 h)) : PSs X (st :: rest) (tSt X.K W Ew Hk0 H0 (seqR f h)) :=
  PSs.imp (pss_cons h1 h2) fun Dn σ H ⟨Hb, Γ, g, Hk, fr, eb, q⟩ => ⟨Hb, Γ, g, Hk, fr, eb, by
    unfold seqR at q
    cases e : f Γ g with
    | ok fl g' =>
      rw [e] at q
      cases fl with
      | nx Γ' => exact fun σ' Hk' H' fr' eb' => ⟨Hb, Γ', g', Hk', fr', eb', q⟩
      | rt d => exact q
    | ex c ds g' => rw [e] at q; exact q
    | st => rw [e] at q; exact q⟩
theorem s_nil : PSs X [] (tSt X.K W Ew Hk0 H0 fun Γ g => .ok (.nx Γ) g) := PSs.imp pss_nil fun Dn σ H ⟨Hb, Γ, g, Hk, fr, eb, q⟩ => q σ Hk H fr eb
theorem s_stop {st : Stmt} : PS X st (tSt X.K W Ew Hk0 H0 fun _ _ => .st) := PS.imp ps_never fun Dn σ H ⟨Hb, Γ, g, Hk, fr, eb, q⟩ => q.elim
theorem s_pass {pos : Pos} : PS X (.Pass pos) (tSt X.K W Ew Hk0 H0 fun Γ g => .ok (.nx Γ) g) := PS.imp ps_pass fun Dn σ H ⟨Hb, Γ, g, Hk, fr, eb, q⟩ => q σ Hk H fr eb
variable {e : Expr} {fe : Gm → G → R D} {pos : Pos}
theorem s_expr (he : PE X e (tE X.K W Ew fe)) (hs : swapsWith e none pos.line X.env = pure false) : PS X (.Expr e pos) (tSt X.K W Ew Hk0 H0 fun Γ g => (fe Γ g).bind fun _ g => .ok (.nx Γ) g) :=
  PS.imp (ps_expr he hs) fun Dn σ H ⟨Hb, Γ, g, Hk, fr, eb, q⟩ => seqSE fr q fun v d g' Hk' H' fr' s r h => h σ Hk' H' fr' (eb.trans s.k)
theorem s_ret (he : PE X e (tE X.K W Ew fe)) : PS X (.Return (some e) pos) (tSt X.K W Ew Hk0 H0 fun Γ g => (fe Γ g).bind fun x g => .ok (.rt x) g) :=
  PS.imp (ps_ret he) fun Dn σ H ⟨Hb, Γ, g, Hk, fr, eb, q⟩ => seqSE fr q fun v d g' Hk' H' fr' s r h => h v Hk' H' fr'.en fr'.wk.dr r
theorem s_retN : PS X (.Return none pos) (tSt X.K W Ew Hk0 H0 fun Γ g => R.bind (R.ok D.non g) fun x g => .ok (.rt x) g) :=
  PS.imp ps_retN fun Dn σ H ⟨Hb, Γ, g, Hk, fr, eb, q⟩ => q .non Hk H fr.en fr.wk.dr rfl
theorem s_asg {tg : Expr} {t : T} (he : PE X e (tE X.K W Ew fe)) (hg : PG X tg (tGg X.K W t)) (hs : swapsWithSole [tg] e pos.line X.env = pure false) (hw : swappedStores [tg] e X.env = pure none) (h1 : (assignEach [tg] X.env).map (·.2) = [assign tg X.env]) :
    PS X (.Assign [tg] e pos) (tSt X.K W Ew Hk0 H0 fun Γ g => (fe Γ g).bind fun x g => (lift (setT t x Γ) g).bind fun Γ' g => .ok (.nx Γ') g) :=
  PS.imp (ps_asg he hg hs hw h1) fun Dn σ H ⟨Hb, Γ, g, Hk, fr, eb, q⟩ => seqSE fr q fun v d g' Hk' H' fr' s r h => by
    cases e1 : setT t d Γ with
    | none => rw [e1] at h; exact h.elim
    | some Γ' =>
      rw [e1] at h
      exact ⟨Hk0, H0, Γ, g', Hk', d, Γ', fr', r, e1, fun σ' fr2 _ => h σ' Hk' H' fr2 (eb.trans s.k)⟩
/-- a name's value by the comprehension's own road -/
theorem s_asgL {i : Nat} {st : Stmt} {te : TE} (h : PS X st (tAsg te (gName i))) (ht : ∀ σ H Q, tE X.K W Ew fe σ H Q → te σ H Q) :
    PS X st (tSt X.K W Ew Hk0 H0 fun Γ g => (fe Γ g).bind fun x g => (lift (setT (.var i) x Γ) g).bind fun Γ' g => .ok (.nx Γ') g) :=
  PS.imp h fun Dn σ H ⟨Hb, Γ, g, Hk, fr, eb, q⟩ => ht _ _ _ (seqSE fr q fun v d g' Hk' H' fr' s r h => by
    simp only [setT] at h
    split at h
    · exact h _ Hk' H' (fr'.set r) (eb.trans s.k)
    · exact h.elim)
def ownR (i : Nat) (fe : Gm → G → R D) : Gm → G → R Fl := fun Γ g => (fe Γ g).bind fun x g => match x with
      | .lst xs => if i < Γ.length then .ok (.nx (Γ.set i (.own (.lst xs)))) g else .st
      | .dct ks vs => if i < Γ.length then .ok (.nx (Γ.set i (.own (.dct ks vs)))) g else .st
      | _ => .st
theorem s_own {i : Nat} {st : Stmt} {te : TE} (h : PS X st (tAsg te (gName i))) (ht : ∀ σ H Q, tFf X.K W Ew fe σ H Q → te σ H Q) : PS X st (tSt X.K W Ew Hk0 H0 (ownR i fe)) :=
  PS.imp h fun Dn σ H ⟨Hb, Γ, g, Hk, fr, eb, q⟩ => ht _ _ _ (seqSF fr q fun p u d g' Hk' H' fr' s h1 h2 h3 h4 h => by
    have hd := h4.is
    have h' : FinS X.K W Ew Hk0 H0 Hb Dn (if i < Γ.length then R.ok (Fl.nx (Γ.set i (.own d))) g' else R.st) := by
      cases d <;> first | exact h | cases hd
    by_cases hi : i < Γ.length
    · rw [if_pos hi] at h'
      exact h' _ Hk' H' (fr'.setOwn hi h3 h2 (fr.h0 h1) (fr.outp h1) h4 (fr.hn h1)) (eb.trans s.k)
    · rw [if_neg hi] at h'; exact h'.elim)
/-! ### the two, three at once -/
def okT (K : PySem.W.Frag) (W : Wd) (Hk0 H0 : Hp) (o : Bool) (d : D) (v : V) (Hb Hk H : Hp) : Prop := match o with
  | false => Rp K W Hk d v
  | true => ∃ p u, v = .ref p ∧ Hb p = none ∧ Hk p = none ∧ H p = some u ∧ Ob K W Hk d p u
/-- a part, new or not -/
def tP (K : PySem.W.Frag) (W : Wd) (Ew : XK) (o : Bool) (f : Gm → G → R D) : TE := match o with
  | false => tE K W Ew f
  | true => tFf K W Ew f
theorem seqSP {o : Bool} {f : Gm → G → R D} {k : D → G → R Fl} {Q : VK} (hl : o = true → ∀ Γ g d g', f Γ g = .ok d g' → isOb d = true) (fr : Fr K W Hk0 H0 Γ g σ Hk H) (h : FinS K W Ew Hk0 H0 Hb Dn ((f Γ g).bind k))
    (hq : ∀ v d g' Hk' H', Fr K W Hk0 H0 Γ g' σ Hk' H' → Step W Hk H Hk' H' → okT K W Hk0 H0 o d v H Hk' H' → FinS K W Ew Hk0 H0 Hb Dn (k d g') → Q v H') : tP K W Ew o f σ H Q := by
  cases o with
  | false => exact seqSE fr h fun v d g' Hk' H' fr' s r q => hq v d g' Hk' H' fr' s r q
  | true => exact seqSF fr h fun p u d g' Hk' H' fr' s h1 h2 h3 h4 q => hq (.ref p) d g' Hk' H' fr' s ⟨p, u, rfl, h1, h2, h3, h4⟩ q
theorem okT.step {o : Bool} {d : D} {v : V} {Hb Hk' H' : Hp} (w : ∀ p, Hb p = none → W.out p) (h : okT K W Hk0 H0 o d v Hb Hk H) (s : Step W Hk H Hk' H') : okT K W Hk0 H0 o d v Hb Hk' H' := by
  cases o with
  | false => exact Rp.mono s.k h
  | true =>
    obtain ⟨p, u, e2, h1, h2, h3, h4⟩ := h
    exact ⟨p, u, e2, h1, s.unk h2 h3, s.h _ _ h3 (w p h1), h4.mono s.k⟩
def parS (o : Bool) (d : D) : Slot := if o && isOb d then .own d else .val d
/-- one is stored -/
theorem Fr.par (fr : Fr K W Hk0 H0 Γ g σ Hk H) {i : Nat} {o : Bool} {d : D} {v : V} {Hb : Hp} (hi : i < Γ.length) (w : ∀ p, Hb p = none → W.out p ∧ H0 p = none) (h : okT K W Hk0 H0 o d v Hb Hk H)
    (hn : ∀ p, v = .ref p → Hb p = none → ∀ (j : Nat) (q : D), Γ[j]? = some (Slot.own q) → σ[j]? ≠ some (some (V.ref p))) : Fr K W Hk0 H0 (Γ.set i (parS o d)) g (σ.set i (some v)) Hk H := by
  cases o with
  | false => exact fr.set h
  | true =>
    obtain ⟨p, u, rfl, h1, h2, h3, h4⟩ := h
    have e : parS true d = .own d := by simp [parS, h4.is]
    rw [e]
    exact fr.setOwn hi h3 h2 (w p h1).2 (w p h1).1 h4 (hn p rfl h1)
theorem set_own_at {i j : Nat} {o : Bool} {d : D} {v : V} {p : Addr} {q : D} (hp : v ≠ .ref p ∨ o = false) (e : (Γ.set i (parS o d))[j]? = some (Slot.own q)) (h : Γ[j]? = some (Slot.own q) → σ[j]? ≠ some (some (V.ref p))) : (σ.set i (some v))[j]? ≠ some (some (V.ref p)) := by
  by_cases hij : i = j
  · subst hij
    intro z
    have hv : v = .ref p := by
      rw [List.getElem?_set] at z
      simp only [if_true] at z
      split at z
      · injection z with z; injection z
      · cases z
    rcases hp with hp | hp
    · exact hp hv
    · subst hp
      rw [List.getElem?_set] at e
      simp only [if_true] at e
      split at e
      · simp [parS] at e
      · cases e
  · rw [List.getElem?_set_ne hij] at e ⊢
    exact h e
def parR2 (i : Nat) (o1 : Bool) (j : Nat) (o2 : Bool) (fa fb : Gm → G → R D) : Gm → G → R Fl := fun Γ g => (fa Γ g).bind fun x g => (fb Γ g).bind fun y g =>
  if i < Γ.length ∧ j < Γ.length then .ok (.nx ((Γ.set i (parS o1 x)).set j (parS o2 y))) g else .st
theorem okT_ne {o : Bool} {d : D} {v : V} {Hb : Hp} {p : Addr} (h : okT K W Hk0 H0 o d v Hb Hk H) (hp : H p = none) : v ≠ .ref p ∨ o = false := by
  cases o with
  | false => exact .inr rfl
  | true =>
    obtain ⟨q, u, rfl, _, _, h3, _⟩ := h
    refine .inl fun e => ?_
    cases e
    rw [hp] at h3; cases h3
theorem s_par2 {i j : Nat} {o1 o2 : Bool} {fa fb : Gm → G → R D} {st : Stmt} (l1 : o1 = true → ∀ Γ g d g', fa Γ g = .ok d g' → isOb d = true) (l2 : o2 = true → ∀ Γ g d g', fb Γ g = .ok d g' → isOb d = true)
    (h : PS X st (tPar i j (tCons (tP X.K W Ew o1 fa) (tCons (tP X.K W Ew o2 fb) tNil)))) : PS X st (tSt X.K W Ew Hk0 H0 (parR2 i o1 j o2 fa fb)) :=
  PS.imp h fun Dn σ H ⟨Hb, Γ, g, Hk, fr, eb, q⟩ => seqSP l1 fr q fun v d g1 Hk1 H1 fr1 s1 r1 q1 => seqSP l2 fr1 q1 fun v2 d2 g2 Hk2 H2 fr2 s2 r2 q2 => by
    refine ⟨v, v2, rfl, ?_⟩
    have w1 : ∀ p, H p = none → W.out p ∧ H0 p = none := fun p hp => ⟨fr.outp hp, fr.h0 hp⟩
    have w2 : ∀ p, H1 p = none → W.out p ∧ H0 p = none := fun p hp => ⟨fr1.outp hp, fr1.h0 hp⟩
    by_cases hi : i < Γ.length ∧ j < Γ.length
    · have q2' : FinS X.K W Ew Hk0 H0 Hb Dn (if i < Γ.length ∧ j < Γ.length then R.ok (Fl.nx ((Γ.set i (parS o1 d)).set j (parS o2 d2))) g2 else R.st) := q2
      rw [if_pos hi] at q2'
      have ra := r1.step (fun p hp => (w1 p hp).1) s2
      have f1 := fr2.par hi.1 w1 ra fun p _ hp => fr.hn hp
      exact q2' _ Hk2 H2 (f1.par (by simpa using hi.2) w2 r2 fun p _ hp j' q' e => set_own_at (okT_ne r1 hp) e (fr1.hn hp j' q')) ((eb.trans s1.k).trans s2.k)
    · have q2' : FinS X.K W Ew Hk0 H0 Hb Dn (if i < Γ.length ∧ j < Γ.length then R.ok (Fl.nx ((Γ.set i (parS o1 d)).set j (parS o2 d2))) g2 else R.st) := q2
      rw [if_neg hi] at q2'
      exact q2'.elim
def parR3 (i : Nat) (o1 : Bool) (j : Nat) (o2 : Bool) (l : Nat) (o3 : Bool) (fa fb fc : Gm → G → R D) : Gm → G → R Fl := fun Γ g => (fa Γ g).bind fun x g => (fb Γ g).bind fun y g => (fc Γ g).bind fun z g =>
  if i < Γ.length ∧ j < Γ.length ∧ l < Γ.length then .ok (.nx (((Γ.set i (parS o1 x)).set j (parS o2 y)).set l (parS o3 z))) g else .st
theorem s_par3 {i j l : Nat} {o1 o2 o3 : Bool} {fa fb fc : Gm → G → R D} {st : Stmt} (l1 : o1 = true → ∀ Γ g d g', fa Γ g = .ok d g' → isOb d = true) (l2 : o2 = true → ∀ Γ g d g', fb Γ g = .ok d g' → isOb d = true) (l3 : o3 = true → ∀ Γ g d g', fc Γ g = .ok d g' → isOb d = true)
    (h : PS X st (tPar3 i j l (tCons (tP X.K W Ew o1 fa) (tCons (tP X.K W Ew o2 fb) (tCons (tP X.K W Ew o3 fc) tNil))))) : PS X st (tSt X.K W Ew Hk0 H0 (parR3 i o1 j o2 l o3 fa fb fc)) :=
  PS.imp h fun Dn σ H ⟨Hb, Γ, g, Hk, fr, eb, q⟩ => seqSP l1 fr q fun v d g1 Hk1 H1 fr1 s1 r1 q1 => seqSP l2 fr1 q1 fun v2 d2 g2 Hk2 H2 fr2 s2 r2 q2 => seqSP l3 fr2 q2 fun v3 d3 g3 Hk3 H3 fr3 s3 r3 q3 => by
    refine ⟨v, v2, v3, rfl, ?_⟩
    have w1 : ∀ p, H p = none → W.out p ∧ H0 p = none := fun p hp => ⟨fr.outp hp, fr.h0 hp⟩
    have w2 : ∀ p, H1 p = none → W.out p ∧ H0 p = none := fun p hp => ⟨fr1.outp hp, fr1.h0 hp⟩
    have w3 : ∀ p, H2 p = none → W.out p ∧ H0 p = none := fun p hp => ⟨fr2.outp hp, fr2.h0 hp⟩
    have q3' : FinS X.K W Ew Hk0 H0 Hb Dn (if i < Γ.length ∧ j < Γ.length ∧ l < Γ.length then R.ok (Fl.nx (((Γ.set i (parS o1 d)).set j (parS o2 d2)).set l (parS o3 d3))) g3 else R.st) := q3
    by_cases hi : i < Γ.length ∧ j < Γ.length ∧ l < Γ.length
    · rw [if_pos hi] at q3'
      have ra2 := r1.step (fun p hp => (w1 p hp).1) s2
      have ra := ra2.step (fun p hp => (w1 p hp).1) s3
      have rb := r2.step (fun p hp => (w2 p hp).1) s3
      have f1 := fr3.par hi.1 w1 ra fun p _ hp => fr.hn hp
      have f2 := f1.par (by simpa using hi.2.1) w2 rb fun p _ hp j' q' e => set_own_at (okT_ne r1 hp) e (fr1.hn hp j' q')
      exact q3' _ Hk3 H3 (f2.par (by simpa using hi.2.2) w3 r3 fun p _ hp j' q' e => set_own_at (okT_ne r2 hp) e fun e' => set_own_at (okT_ne ra2 hp) e' (fr2.hn hp j' q')) (((eb.trans s1.k).trans s2.k).trans s3.k)
    · rw [if_neg hi] at q3'
      exact q3'.elim
/-! ### x += e, x.append(e), freezing -/
def augR (i : Nat) (fe : Gm → G → R D) : Gm → G → R Fl := fun Γ g => match Γ[i]? with
      | some (.val x) => (fe Γ g).bind fun y g => (match x, y with
        | .int a, .int b => .ok (.nx (Γ.set i (.val (.int (a + b))))) g
        | _, _ => .st)
      | _ => .st
theorem s_aug {i : Nat} {st : Stmt} (h : PS X st (tAug i (tE X.K W Ew fe) (ipI fun i j => i + j))) : PS X st (tSt X.K W Ew Hk0 H0 (augR i fe)) :=
  PS.imp h fun Dn σ H ⟨Hb, Γ, g, Hk, fr, eb, q⟩ => by
    unfold augR at q
    cases e1 : Γ[i]? with
    | none => rw [e1] at q; exact q.elim
    | some s =>
      rw [e1] at q
      cases s with
      | no => exact q.elim
      | own _ => exact q.elim
      | val x =>
        obtain ⟨os, sl, _⟩ := fr.sl
        obtain ⟨v, ev, rv⟩ := sl.val_at e1
        refine ⟨v, ev, seqSE fr q fun v2 d g' Hk' H' fr' s r h => ?_⟩
        cases x <;> (try exact h.elim)
        cases d <;> (try exact h.elim)
        rename_i a b
        exact ⟨a, b, rv, r, h _ Hk' H' (fr'.set rfl) (eb.trans s.k)⟩
def appR (i : Nat) (fe : Gm → G → R D) : Gm → G → R Fl := fun Γ g => match Γ[i]? with
      | some (.own (.lst xs)) => (fe Γ g).bind fun y g => if xs.length < 1000000 then .ok (.nx (Γ.set i (.own (.lst (xs ++ [y]))))) g else .st
      | _ => .st
theorem Fr.chgO (fr : Fr K W Hk0 H0 Γ g σ Hk H) {i : Nat} {d : D} {p : Addr} {es : D} {ys : HO} (e1 : Γ[i]? = some (.own d)) (e2 : σ[i]? = some (some (.ref p))) (r : Ob K W Hk es p ys) : Fr K W Hk0 H0 (Γ.set i (.own es)) g σ Hk (upd H p ys) := by
  obtain ⟨os, sl, nd, ho⟩ := fr.sl
  obtain ⟨p', xs, h2, hm, h4, _⟩ := sl.obj_at e1
  rw [e2] at h2
  cases h2
  obtain ⟨k1, k2, k3⟩ := ho p hm
  refine ⟨⟨fun b u hb => ?_, fr.wk.m, fr.wk.c, fr.wk.gr, fr.wk.dr.upd k3⟩, fr.en.mut k2 k1, os, sl.chg nd e1 e2 r, nd, ho⟩
  rw [upd_ne (ne_of_none hb k1)]
  exact fr.wk.ex b u hb
theorem Fr.chg (fr : Fr K W Hk0 H0 Γ g σ Hk H) {i : Nat} {d : D} {p : Addr} {es : List D} {ys : List V} (e1 : Γ[i]? = some (.own d)) (e2 : σ[i]? = some (some (.ref p))) (r : RpL K W Hk es ys) : Fr K W Hk0 H0 (Γ.set i (.own (.lst es))) g σ Hk (upd H p (.lst ys)) :=
  fr.chgO e1 e2 ⟨ys, rfl, r⟩
theorem s_app {i : Nat} {x : Str} {p apos cpos : Pos} (hv : PE X (.Name x p) (tVar i)) (he : PE X e (tE X.K W Ew fe)) (hn : nSt e = true) (hl : (apos.endLine == cpos.line) = true) (hs : swapsWith (.Call (.Attribute (.Name x p) "append" apos) [e] [] cpos) none pos.line X.env = pure false) :
    PS X (.Expr (.Call (.Attribute (.Name x p) "append" apos) [e] [] cpos) pos) (tSt X.K W Ew Hk0 H0 (appR i fe)) :=
  PS.imp (ps_expr (pe_bm PySem.F.plainAttrs_list PySem.F.slot_list_append PySem.F.type_list_append mt_append hv (pa_cons he pa_nil (star_of hn _ _)) rfl (by rw [star_of hn]; rfl) hl (star_of hn _ _) rfl) hs) fun Dn σ H ⟨Hb, Γ, g, Hk, fr, eb, q⟩ => by
    unfold appR at q
    obtain ⟨os, sl, nd, ho⟩ := fr.sl
    show tVar i σ H fun x H1 => tyV X.K "list" x H1 ∧ tCons (tE X.K W Ew fe) tNil σ H1 fun xs H2 => rAppend x xs H2 fun _ H3 => Dn.nx σ H3
    cases e1 : Γ[i]? with
    | none => rw [e1] at q; exact q.elim
    | some s0 =>
      rw [e1] at q
      cases s0 with
      | no => exact q.elim
      | val _ => exact q.elim
      | own d =>
        cases d <;> (try exact q.elim)
        rename_i ds
        obtain ⟨p, xs, h2, hm, h4, h5⟩ := sl.own_at e1
        refine ⟨.ref p, h2, .inl ⟨rfl, xs, SqL.of h4⟩, seqSE fr q fun v d g' Hk' H' fr' s r h => ?_⟩
        have h' : FinS X.K W Ew Hk0 H0 Hb Dn (if ds.length < 1000000 then R.ok (Fl.nx (Γ.set i (.own (.lst (ds ++ [d]))))) g' else R.st) := h
        by_cases hl : ds.length < 1000000
        · rw [if_pos hl] at h'
          have h4' : H' p = some (.lst xs) := s.h _ _ h4 (ho p hm).2.2
          refine ⟨p, xs, v, rfl, rfl, h4', size_lt (by rw [h5.len]; exact hl), ?_⟩
          exact h' σ Hk' _ (fr'.chg e1 h2 ((h5.mono s.k).append (.cons r .nil))) (eb.trans s.k)
        · rw [if_neg hl] at h'; exact h'.elim
/-! ### x[a] = b, t = x.pop(), x.extend(e) of owned lists -/
def stoR (i : Nat) (fa fb : Gm → G → R D) : Gm → G → R Fl := fun Γ g => (fb Γ g).bind fun y g => match Γ[i]? with
      | some (.own (.lst xs)) => (fa Γ g).bind fun k g => (match k with
        | .int k => (match ixD xs.length k with
          | some j => .ok (.nx (Γ.set i (.own (.lst (xs.set j y))))) g
          | none => .st)
        | _ => .st)
      | some (.own (.dct ks vs)) => (fa Γ g).bind fun k g => if okK k && decide (ks.length < 1000000) then .ok (.nx (Γ.set i (.own (putD ks vs k y)))) g else .st
      | _ => .st
def rSetO (K : PySem.W.Frag) (W : Wd) : V → V → V → Hp → (Hp → Prop) → Prop := fun o i v H Q => rSetL o i v H Q ∨ ∃ (p : Addr) (ks vs : List D) (k y : D) (Hk : Hp), o = .ref p ∧ Ex Hk H ∧ DAt K W Hk H p ks vs ∧ Rp K W Hk k i ∧ okK k = true ∧ Rp K W Hk y v ∧ ks.length < 1000000 ∧
  ∀ ob, Ob K W Hk (putD ks vs k y) p ob → Q (upd H p ob)
theorem set_O (hu : X.A.units + 64 < cLine) (hw : W.w = X.w) : PSet X (rSetO X.K W) := by
  intro pins s σ H o i v ov iv u Q I ro ri rv h
  rcases h with h | ⟨p, ks, vs, k, y, Hk, rfl, ex, h1, h2, h3, h4, h5, q⟩
  · exact set_list pins s σ H o i v ov iv u Q I ro ri rv h
  · have e2 : ov = Value.ref p := ro
    subst e2
    exact n_set hu I ex hw h1 h2 h3 ri h4 rv h5 fun ob s' hob I' => ⟨_, I', q ob hob⟩
theorem ixD_N {n : Nat} {i : Int} {j : Nat} (h : ixD n i = some j) : ixN n i = some j := by
  unfold ixD at h
  unfold ixN
  by_cases h0 : 0 ≤ i
  · rw [if_pos h0] at h ⊢
    by_cases h1 : i.toNat < n
    · rw [if_pos h1] at h
      rw [if_pos (by omega)]
      exact h
    · rw [if_neg h1] at h; cases h
  · rw [if_neg h0] at h ⊢
    by_cases h1 : 0 ≤ i + n
    · rw [if_pos h1] at h
      rw [if_pos (by omega)]
      exact h
    · rw [if_neg h1] at h; cases h
theorem s_sto {i : Nat} {x : Str} {p tp : Pos} {a b : Expr} {fa fb : Gm → G → R D} (hv : PE X (.Name x p) (tVar i)) (ha : PE X a (tE X.K W Ew fa)) (hb : PE X b (tE X.K W Ew fb)) (hs : swapsWithSole [.Subscript (.Name x p) a tp] b pos.line X.env = pure false) (hw : swappedStores [.Subscript (.Name x p) a tp] b X.env = pure none)
    (hag : PG X (.Subscript (.Name x p) a tp) (gSub (tVar i) (tE X.K W Ew fa) (rSetO X.K W))) :
    PS X (.Assign [.Subscript (.Name x p) a tp] b pos) (tSt X.K W Ew Hk0 H0 (stoR i fa fb)) :=
  PS.imp (ps_asg hb hag hs hw rfl) fun Dn σ H ⟨Hb, Γ, g, Hk, fr, eb, q⟩ => seqSE fr q fun v d g1 Hk1 H1 fr1 s1 r1 h1 => by
    obtain ⟨os, sl, nd, ho⟩ := fr1.sl
    cases e1 : Γ[i]? with
    | none => simp only [e1] at h1; exact h1.elim
    | some s0 =>
      cases s0 with
      | no => simp only [e1] at h1; exact h1.elim
      | val _ => simp only [e1] at h1; exact h1.elim
      | own d0 =>
        cases d0 <;> (try (simp only [e1] at h1; exact h1.elim))
        · rename_i ds
          obtain ⟨p, xs, h2, hm, h4, h5⟩ := sl.own_at e1
          simp only [e1] at h1
          refine ⟨.ref p, h2, seqSE fr1 h1 fun v2 d2 g2 Hk2 H2 fr2 s2 r2 h2' => ?_⟩
          cases d2 <;> (try exact h2'.elim)
          rename_i k
          have h3 : FinS X.K W Ew Hk0 H0 Hb Dn (match ixD ds.length k with
            | some j => R.ok (Fl.nx (Γ.set i (.own (.lst (ds.set j d))))) g2
            | none => R.st) := h2'
          cases ej : ixD ds.length k with
          | none => rw [ej] at h3; exact h3.elim
          | some j =>
            rw [ej] at h3
            have h4' : H2 p = some (.lst xs) := s2.h _ _ h4 (ho p hm).2.2
            refine .inl ⟨p, xs, k, j, rfl, r2, h4', by rw [h5.len]; exact ixD_N ej, ?_⟩
            exact h3 σ Hk2 _ (fr2.chg e1 h2 ((h5.mono s2.k).set j (r1.mono s2.k))) ((eb.trans s1.k).trans s2.k)
        · rename_i ks vs
          obtain ⟨p, u, h2, hm, h4, o, xs, e3, q1, q2, q3, q4, q5, q6⟩ := sl.obj_at e1
          subst e3
          simp only [e1] at h1
          refine ⟨.ref p, h2, seqSE fr1 h1 fun v2 d2 g2 Hk2 H2 fr2 s2 r2 h2' => ?_⟩
          have h4' := s2.h _ _ h4 (ho p hm).2.2
          by_cases hc : (okK d2 && decide (ks.length < 1000000)) = true
          · rw [if_pos hc] at h2'
            simp only [Bool.and_eq_true, decide_eq_true_eq] at hc
            refine .inr ⟨p, ks, vs, d2, d, Hk2, rfl, fr2.wk.ex, ⟨o, xs, h4', q1, q2, q3, q4, q5.mono s2.k, q6.mono s2.k⟩, r2, hc.1, r1.mono s2.k, hc.2, fun ob hob => ?_⟩
            exact h2' σ Hk2 _ (fr2.chgO e1 h2 hob) ((eb.trans s1.k).trans s2.k)
          · rw [if_neg hc] at h2'
            exact h2'.elim
def popR (t : T) (i : Nat) : Gm → G → R Fl := fun Γ g => match Γ[i]? with
      | some (.own (.lst xs)) => (match xs[xs.length - 1]? with
        | some x => (lift (setT t x (Γ.set i (.own (.lst xs.dropLast)))) g).bind fun Γ' g => .ok (.nx Γ') g
        | none => .st)
      | _ => .st
theorem s_pop {i : Nat} {x : Str} {p apos cpos : Pos} {tg : Expr} {t : T} (hv : PE X (.Name x p) (tVar i)) (hg : PG X tg (tGg X.K W t)) (hl : (apos.endLine == cpos.line) = true)
    (hs : swapsWithSole [tg] (.Call (.Attribute (.Name x p) "pop" apos) [] [] cpos) pos.line X.env = pure false) (hw : swappedStores [tg] (.Call (.Attribute (.Name x p) "pop" apos) [] [] cpos) X.env = pure none) (h1 : (assignEach [tg] X.env).map (·.2) = [assign tg X.env]) :
    PS X (.Assign [tg] (.Call (.Attribute (.Name x p) "pop" apos) [] [] cpos) pos) (tSt X.K W Ew Hk0 H0 (popR t i)) :=
  PS.imp (ps_asg (pe_bm0 PySem.F.plainAttrs_list PySem.F.slot_list_pop PySem.F.type_list_pop mt_pop hv rfl hl) hg hs hw h1) fun Dn σ H ⟨Hb, Γ, g, Hk, fr, eb, q⟩ => by
    unfold popR at q
    obtain ⟨os, sl, nd, ho⟩ := fr.sl
    cases e1 : Γ[i]? with
    | none => rw [e1] at q; exact q.elim
    | some s0 =>
      rw [e1] at q
      cases s0 with
      | no => exact q.elim
      | val _ => exact q.elim
      | own d =>
        cases d <;> (try exact q.elim)
        rename_i ds
        obtain ⟨p, xs, h2, hm, h4, h5⟩ := sl.own_at e1
        have q2 : FinS X.K W Ew Hk0 H0 Hb Dn (match ds[ds.length - 1]? with
          | some x => (lift (setT t x (Γ.set i (.own (.lst ds.dropLast)))) g).bind fun Γ' g => R.ok (Fl.nx Γ') g
          | none => R.st) := q
        cases ex : ds[ds.length - 1]? with
        | none => rw [ex] at q2; exact q2.elim
        | some y =>
          rw [ex] at q2
          obtain ⟨v, ev, rv⟩ := h5.get ex
          cases et : setT t y (Γ.set i (.own (.lst ds.dropLast))) with
          | none => simp only [et] at q2; exact q2.elim
          | some Γ' =>
            simp only [et] at q2
            refine ⟨.ref p, h2, .inl ⟨rfl, xs, SqL.of h4⟩, p, xs, v, rfl, rfl, h4, by rw [h5.len]; exact ev, ?_⟩
            exact ⟨Hk0, H0, _, g, Hk, y, Γ', fr.chg e1 h2 h5.dropLast, rv, et, fun σ' fr2 _ => q2 σ' Hk _ fr2 eb⟩
def extR (i : Nat) (fe : Gm → G → R D) : Gm → G → R Fl := fun Γ g => match Γ[i]? with
      | some (.own (.lst xs)) => (fe Γ g).bind fun y g => (match y with
        | .lst ys => if xs.length + ys.length ≤ 1000000 then .ok (.nx (Γ.set i (.own (.lst (xs ++ ys))))) g else .st
        | _ => .st)
      | _ => .st
theorem s_ext {i : Nat} {x : Str} {p apos cpos : Pos} (hv : PE X (.Name x p) (tVar i)) (he : PE X e (tE X.K W Ew fe)) (hn : nSt e = true) (hl : (apos.endLine == cpos.line) = true) (hs : swapsWith (.Call (.Attribute (.Name x p) "extend" apos) [e] [] cpos) none pos.line X.env = pure false) :
    PS X (.Expr (.Call (.Attribute (.Name x p) "extend" apos) [e] [] cpos) pos) (tSt X.K W Ew Hk0 H0 (extR i fe)) :=
  PS.imp (ps_expr (pe_bm PySem.F.plainAttrs_list PySem.F.slot_list_extend PySem.F.type_list_extend mt_extend hv (pa_cons he pa_nil (star_of hn _ _)) rfl (by rw [star_of hn]; rfl) hl (star_of hn _ _) rfl) hs) fun Dn σ H ⟨Hb, Γ, g, Hk, fr, eb, q⟩ => by
    unfold extR at q
    obtain ⟨os, sl, nd, ho⟩ := fr.sl
    show tVar i σ H fun x H1 => tyV X.K "list" x H1 ∧ tCons (tE X.K W Ew fe) tNil σ H1 fun xs H2 => rExtend x xs H2 fun _ H3 => Dn.nx σ H3
    cases e1 : Γ[i]? with
    | none => rw [e1] at q; exact q.elim
    | some s0 =>
      rw [e1] at q
      cases s0 with
      | no => exact q.elim
      | val _ => exact q.elim
      | own d =>
        cases d <;> (try exact q.elim)
        rename_i ds
        obtain ⟨p, xs, h2, hm, h4, h5⟩ := sl.own_at e1
        refine ⟨.ref p, h2, .inl ⟨rfl, xs, SqL.of h4⟩, seqSE fr q fun v d g' Hk' H' fr' s r h => ?_⟩
        cases d <;> (try exact h.elim)
        rename_i ys
        obtain ⟨b, zs, rfl, r1, r2⟩ := r
        have h' : FinS X.K W Ew Hk0 H0 Hb Dn (if ds.length + ys.length ≤ 1000000 then R.ok (Fl.nx (Γ.set i (.own (.lst (ds ++ ys))))) g' else R.st) := h
        by_cases hl : ds.length + ys.length ≤ 1000000
        · rw [if_pos hl] at h'
          have h4' : H' p = some (.lst xs) := s.h _ _ h4 (ho p hm).2.2
          refine ⟨p, b, xs, zs, rfl, rfl, h4', fr'.wk.ex _ _ r1, size_le (by rw [h5.len, r2.len]; exact hl), ?_⟩
          exact h' σ Hk' _ (fr'.chg e1 h2 ((h5.mono s.k).append r2)) (eb.trans s.k)
        · rw [if_neg hl] at h'; exact h'.elim
/-- what is owned becomes known -/
theorem GmR.frz {os : List Addr} (h : GmR K W Hk H Γ σ os) : ∀ {i : Nat} {d : D} {p : Addr} {Hk' : Hp}, os.Nodup → Γ[i]? = some (.own d) → σ[i]? = some (some (.ref p)) → Rp K W Hk' d (.ref p) → Ex Hk Hk' →
    ∃ os', GmR K W Hk' H (Γ.set i (.val d)) σ os' ∧ os'.Sublist os ∧ p ∉ os' := by
  induction h with
  | nil => intro i d p Hk' nd e; simp at e
  | no o t ih =>
    intro i d p Hk' nd e e2 r ex
    cases i with
    | zero => simp at e
    | succ i => obtain ⟨os', t', s, n⟩ := ih nd (by simpa using e) (by simpa using e2) r ex; exact ⟨os', .no o t', s, n⟩
  | val q t ih =>
    intro i d p Hk' nd e e2 r ex
    cases i with
    | zero => simp at e
    | succ i => obtain ⟨os', t', s, n⟩ := ih nd (by simpa using e) (by simpa using e2) r ex; exact ⟨os', .val (q.mono ex) t', s, n⟩
  | @own Γ σ os ds p0 xs h1 h2 t ih =>
    intro i d p Hk' nd e e2 r ex
    have nd' := List.nodup_cons.mp nd
    cases i with
    | zero =>
      simp at e2
      subst e2
      exact ⟨os, .val r (t.mono ex fun _ _ _ h => h), List.sublist_cons_self _ _, nd'.1⟩
    | succ i =>
      have hp : p ∈ os := by
        obtain ⟨p', _, q1, q2, _⟩ := t.obj_at (i := i) (d := d) (by simpa using e)
        rw [show σ[i]? = some (some (.ref p)) by simpa using e2] at q1
        cases q1
        exact q2
      obtain ⟨os', t', s, n⟩ := ih nd'.2 (by simpa using e) (by simpa using e2) r ex
      refine ⟨_, .own h1 (h2.mono ex) t', s.cons₂ _, fun z => ?_⟩
      rcases List.mem_cons.mp z with z | z
      · exact nd'.1 (z ▸ hp)
      · exact n z
theorem Fr.frz (fr : Fr K W Hk0 H0 Γ g σ Hk H) {i : Nat} {d : D} (e1 : Γ[i]? = some (.own d)) : ∃ Hk', Fr K W Hk0 H0 (Γ.set i (.val d)) g σ Hk' H ∧ Ex Hk Hk' := by
  obtain ⟨os, sl, nd, ho⟩ := fr.sl
  obtain ⟨p, u, h2, hm, h4, h5⟩ := sl.obj_at e1
  obtain ⟨k1, k2, k3⟩ := ho p hm
  have ex : Ex Hk (upd Hk p u) := Evl.Ex.new k1
  obtain ⟨os', sl', s, n⟩ := sl.frz (Hk' := upd Hk p u) nd e1 h2 ((h5.mono ex).rp upd_same) ex
  refine ⟨upd Hk p u, ⟨⟨fun b u hb => ?_, ?_, ?_, ?_, fr.wk.dr⟩, fr.en.tell k2 h4, os', sl', nd.sublist s, fun q hq => ⟨?_, (ho q (s.subset hq)).2⟩⟩, ex⟩
  · by_cases hbp : b = p
    · subst hbp; rw [upd_same] at hb; cases hb; exact h4
    · rw [upd_ne hbp] at hb; exact fr.wk.ex b u hb
  · rw [upd_ne (Ne.symm k3.1)]; exact fr.wk.m
  · rw [upd_ne (Ne.symm k3.2.1)]; exact fr.wk.c
  · rw [upd_ne (Ne.symm k3.2.2)]; exact fr.wk.gr
  · rw [upd_ne (show q ≠ p from fun z => n (z ▸ hq))]; exact (ho q (s.subset hq)).1
def frzR (i : Nat) : Gm → G → R Fl := fun Γ g => match Γ[i]? with
      | some (.own d) => .ok (.nx (Γ.set i (.val d))) g
      | _ => .ok (.nx Γ) g
theorem s_frz {i : Nat} {sts : List Stmt} {h : Gm → G → R Fl} (q : PSs X sts (tSt X.K W Ew Hk0 H0 h)) : PSs X sts (tSt X.K W Ew Hk0 H0 (seqR (frzR i) h)) := PSs.imp q fun Dn σ H ⟨Hb, Γ, g, Hk, fr, eb, q⟩ => by
  unfold seqR frzR at q
  cases e1 : Γ[i]? with
  | none => rw [e1] at q; exact ⟨Hb, Γ, g, Hk, fr, eb, q⟩
  | some s0 =>
    rw [e1] at q
    cases s0 with
    | no => exact ⟨Hb, Γ, g, Hk, fr, eb, q⟩
    | val _ => exact ⟨Hb, Γ, g, Hk, fr, eb, q⟩
    | own d =>
      obtain ⟨Hk', fr', ex⟩ := fr.frz e1
      exact ⟨Hb, _, g, Hk', fr', eb.trans ex, q⟩
/-! ### if, for, while -/
theorem s_if {c : Expr} {a b : List Stmt} {fc : Gm → G → R D} {fa fb : Gm → G → R Fl} (hc : PT X c (tTt X.K W Ew fun Γ g => blR (fc Γ g))) (ha : PSs X a (tSt X.K W Ew Hk0 H0 fa)) (hb : PSs X b (tSt X.K W Ew Hk0 H0 fb)) :
    PS X (.If c a b pos) (tSt X.K W Ew Hk0 H0 fun Γ g => (blR (fc Γ g)).bind fun k g => if k then fa Γ g else fb Γ g) :=
  PS.imp (ps_if hc ha hb) fun Dn σ H ⟨Hb, Γ, g, Hk, fr, eb, q⟩ => seqST (f := fun Γ g => blR (fc Γ g)) fr q fun k g' Hk' H' fr' s h => by
    cases k with
    | true => exact iteT ⟨Hb, Γ, g', Hk', fr', eb.trans s.k, h⟩
    | false => exact iteF ⟨Hb, Γ, g', Hk', fr', eb.trans s.k, h⟩
theorem s_while {c : Expr} {b : List Stmt} {fc : Gm → G → R D} {fb : Gm → G → R Fl} (n : Nat) (hp : PassesOwn (model X.prog X.w) X.A X.env X.xe) (hc : PT X c (tTt X.K W Ew fun Γ g => blR (fc Γ g))) (hb : PSs X b (tSt X.K W Ew Hk0 H0 fb)) :
    PS X (.While c b [] pos) (tSt X.K W Ew Hk0 H0 fun Γ g => whlR (fun Γ g => blR (fc Γ g)) fb n Γ g) :=
  PS.imp (ps_while hp hc hb) fun Dn σ H ⟨Hb, Γ, g, Hk, fr, eb, q⟩ => by
    refine ⟨fun m σ H => ∃ Γ g Hk, Fr X.K W Hk0 H0 Γ g σ Hk H ∧ Ex Hb Hk ∧ FinS X.K W Ew Hk0 H0 Hb Dn (whlR (fun Γ g => blR (fc Γ g)) fb m Γ g), ⟨n, Γ, g, Hk, fr, eb, q⟩, ?_⟩
    rintro m σ H ⟨Γ, g, Hk, fr, eb, q⟩
    cases m with
    | zero => exact q.elim
    | succ m =>
      have q' : FinS X.K W Ew Hk0 H0 Hb Dn ((blR (fc Γ g)).bind fun b g1 => if b then (fb Γ g1).bind fun fl g2 => (match fl with
        | .nx Γ' => whlR (fun Γ g => blR (fc Γ g)) fb m Γ' g2
        | .rt d => .ok (.rt d) g2) else .ok (.nx Γ) g1) := q
      refine seqST (f := fun Γ g => blR (fc Γ g)) fr q' fun k g' Hk' H' fr' s h => ?_
      cases k with
      | false => exact iteF (h σ Hk' H' fr' (eb.trans s.k))
      | true =>
        refine iteT ⟨fun σ H => ∃ Γ g Hk, Fr X.K W Hk0 H0 Γ g σ Hk H ∧ Ex Hb Hk ∧ FinS X.K W Ew Hk0 H0 Hb Dn (whlR (fun Γ g => blR (fc Γ g)) fb m Γ g), fun σ' H' z => ⟨m, Nat.lt_succ_self m, z⟩, Hb, Γ, g', Hk', fr', eb.trans s.k, ?_⟩
        simp only [if_true] at h
        cases e : fb Γ g' with
        | ok fl g2 =>
          rw [e] at h
          cases fl with
          | nx Γ' => exact fun σ2 Hk2 H2 fr2 eb2 => ⟨Γ', g2, Hk2, fr2, eb2, h⟩
          | rt d => exact h
        | ex c ds g2 => rw [e] at h; exact h
        | st => rw [e] at h; exact h
theorem s_for {tg iter : Expr} {b : List Stmt} {t : T} {fi : Gm → G → R (List D)} {fb : Gm → G → R Fl} (hp : PassesOwn (model X.prog X.w) X.A X.env X.xe) (hcalm : X.calm = true) (hi : PI X tg iter (tIi X.K W Ew fi)) (hg : PG X tg (tGg X.K W t)) (hb : PSs X b (tSt X.K W Ew Hk0 H0 fb))
    (hs : ∀ x, foldedSetIterable iter X.env x = pure x) :
    PS X (.For tg iter b [] pos) (tSt X.K W Ew Hk0 H0 fun Γ g => (fi Γ g).bind fun xs g => forR (fun x Γ g => (lift (setT t x Γ) g).bind fun Γ' g => fb Γ' g) xs Γ g) :=
  PS.imp (ps_for hp hcalm hi hg hb hs) fun Dn σ H ⟨Hb, Γ, g, Hk, fr, eb, q⟩ => seqSI fr q fun J ds g1 Hk1 H1 fr1 s1 io q1 => by
    generalize hF : (fun (x : D) (Γ : Gm) (g : G) => (lift (setT t x Γ) g).bind fun Γ' g => fb Γ' g) = F at q1
    let Inv0 : Nat → L2.St → Hp → Prop := fun i σ H => i ≤ ds.length ∧ ∃ Γ g Hk, Fr X.K W Hk0 H0 Γ g σ Hk H ∧ Ex Hk1 Hk ∧ FinS X.K W Ew Hk0 H0 Hb Dn (forR F (ds.drop i) Γ g)
    refine ⟨fun i m σ H => m = ds.length - i ∧ Inv0 i σ H, ⟨ds.length, by simp, Nat.zero_le _, Γ, g1, Hk1, fr1, Ex.refl _, q1⟩, ?_⟩
    rintro i m σ2 H2 ⟨rfl, hi, Γ2, g2, Hk2, fr2, ex2, q2⟩
    by_cases hlt : i < ds.length
    · refine .inr ⟨io.go i Hk2 H2 g2 hlt ex2 fr2.wk, Inv0 (i + 1), fun σ' H' z => ⟨ds.length - (i + 1), by omega, rfl, z⟩, fun x H3 y => ?_⟩
      have hd : ds[i]? = some ds[i] := by simp [hlt]
      obtain ⟨Hk3, s3, dr3, rx⟩ := io.yld i Hk2 H2 g2 x H3 ds[i] hd ex2 fr2.wk y
      have fr3 := fr2.step s3 dr3
      rw [List.drop_eq_getElem_cons hlt] at q2
      have q3 : FinS X.K W Ew Hk0 H0 Hb Dn ((F ds[i] Γ2 g2).bind fun fl g1 => match fl with
        | .nx Γ' => forR F (ds.drop (i + 1)) Γ' g1
        | .rt d => .ok (.rt d) g1) := q2
      cases e1 : setT t ds[i] Γ2 with
      | none =>
        rw [← hF] at q3
        simp only [e1] at q3
        exact q3.elim
      | some Γ' =>
        refine ⟨Hk0, H0, Γ2, g2, Hk3, ds[i], Γ', fr3, rx, e1, fun σ' fr' _ => ⟨Hk1, Γ', g2, Hk3, fr', ex2.trans s3.k, ?_⟩⟩
        have e2 : F ds[i] Γ2 g2 = fb Γ' g2 := by rw [← hF]; simp only [e1]; rfl
        rw [e2] at q3
        cases e : fb Γ' g2 with
        | ok fl g4 =>
          rw [e] at q3
          cases fl with
          | nx Γ4 => exact fun σ4 Hk4 H4 fr4 eb4 => ⟨hlt, Γ4, g4, Hk4, fr4, eb4, q3⟩
          | rt d => exact q3
        | ex c ds' g4 => rw [e] at q3; exact q3
        | st => rw [e] at q3; exact q3
    · have hi' : i = ds.length := by omega
      subst hi'
      rw [List.drop_length] at q2
      exact .inl ⟨io.stop _ Hk2 H2 g2 rfl ex2 fr2.wk, q2 σ2 Hk2 H2 fr2 ((eb.trans s1.k).trans ex2)⟩
end
end Bk

set_option Elab.async false
set_option linter.all false
set_option maxRecDepth 100000
set_option maxHeartbeats 4000000
/-! The evaluator is sound: statements. -/
namespace Bk
open PySem L2
open Evl (Ex ex_l ex_t)
def nmsOf (sc : Scope) (ts : List Expr) : List Str := ts.filterMap fun
    | .Name id pos => if sc.names.lookup id == some .local && pos.line == ((ts.head?.map (·.pos.line)).getD 0) then some id else none
    | _ => none
def nmsE (env : Env) (ts : List Expr) : List Str := ts.filterMap fun
    | .Name id pos => if env.kindOf id == some .local && pos.line == ((ts.head?.map (·.pos.line)).getD 0) then some id else none
    | _ => none
/-- what swappedStores tells: none: the usual stores -/
def swB (sc : Scope) (ts vs : List Expr) : Option (Option (List Str)) :=
  if !(ts.length == 2 || ts.length == 3) || vs.length != ts.length then some none else
  if vs.any (fun | Expr.Starred .. => true | _ => false) then some none else
  if (nmsOf sc ts).length != ts.length || (nmsOf sc ts).eraseDups.length != (nmsOf sc ts).length then some none else
  if vs.all (foldedForSure 8) then some none else
  if vs.all (constantsAlone 8) then none else some (some (nmsOf sc ts))
theorem sw_of {env : Env} {sc : Scope} {ts vs : List Expr} {k1 k2 : Nat} {p1 p2 : Pos} {r : Option (List Str)} (hs : env.scope = sc) (hk : sc.kind = .function) (h : swB sc ts vs = some r) : swappedStores [.Tuple ts k1 p1] (.Tuple vs k2 p2) env = pure r := by
  have hb : env.blockKind = .function := by unfold Env.blockKind; rw [hs, hk]; rfl
  have hn : nmsE env ts = nmsOf sc ts := by
    unfold nmsE
    unfold nmsOf
    congr 1
    funext e
    cases e <;> first | rfl | (subst hs; rfl)
  unfold swappedStores
  simp only [hb]
  unfold swB at h
  split at h
  · rename_i c
    cases h
    rw [if_pos (by simpa using c)]
  · rename_i c
    rw [if_neg (by simpa using c)]
    show (if (vs.any fun | Expr.Starred .. => true | _ => false) = true then pure none else
      if ((nmsE env ts).length != ts.length || (nmsE env ts).eraseDups.length != (nmsE env ts).length) = true then pure none else
      if vs.all (foldedForSure 8) = true then pure none else
      if vs.all (constantsAlone 8) = true then (do unsupported "assign.tuple-of-constant-expressions:order-of-the-stores"; pure (some (nmsE env ts))) else pure (some (nmsE env ts))) = pure r
    rw [hn]
    split at h
    · rename_i c2
      cases h
      rw [if_pos c2]
    · rename_i c2
      rw [if_neg c2]
      split at h
      · rename_i c3
        cases h
        rw [if_pos c3]
      · rename_i c3
        rw [if_neg c3]
        split at h
        · rename_i c4
          cases h
          rw [if_pos c4]
        · rename_i c4
          rw [if_neg c4]
          split at h
          · cases h
          · rename_i c5
            cases h
            rw [if_neg c5]

def nCmp : Expr → Bool
  | .ListComp .. => false
  | .SetComp .. => false
  | .DictComp .. => false
  | _ => true
theorem nCmp_of {e : Expr} (h : nCmp e = true) (t : Option Expr) (l : Nat) (env : Env) : swapsWith e t l env = pure false := by
  cases e <;> first | rfl | cases h
/-- the stores go as usual -/
def swN (sc : Scope) (tg v : Expr) : Bool := match tg with
  | .Name _ _ => true
  | .Tuple ts _ _ => (match v with
    | .Tuple vs _ _ => decide (swB sc ts vs = some none)
    | _ => true)
  | _ => false
theorem swN_of {env : Env} {sc : Scope} {tg v : Expr} (hs : env.scope = sc) (hk : sc.kind = .function) (h : swN sc tg v = true) : swappedStores [tg] v env = pure none := by
  unfold swN at h
  split at h
  · cases v <;> rfl
  · cases v <;> first | rfl | exact sw_of hs hk (of_decide_eq_true h)
  · cases h
/-- y = [.. for ..]: by the comprehension's own road -/
def lcLoc (c : Cxt) (y : Str) (py : Pos) (v : Expr) : Bool := match v with
  | .ListComp _ _ scope pos => decide (c.sc.names.lookup y = some .local) && (py.line == pos.line) && !(scope.names.any fun (n, k) => n == y && (k == .local || k == .cell))
  | _ => false
def lcCell (c : Cxt) (y : Str) : Bool := decide (c.sc.names.lookup y = some .cell) && c.fn y
theorem sw_cell {env : Env} {sc : Scope} (hs : env.scope = sc) {y : Str} (h : sc.names.lookup y = some .cell) (v : Expr) (py : Pos) (l : Nat) : swapsWith v (some (.Name y py)) l env = pure false := by
  have hk : env.kindOf y = some .cell := by unfold Env.kindOf; rw [hs]; exact h
  have hb : (some NameKind.cell == some NameKind.local) = false := rfl
  cases v <;> first | rfl | (simp only [swapsWith, hk, hb, Bool.and_false, Bool.false_and] <;> rfl)
def frB (e : E) (o : Bool) : Bool := !o || frE e
mutual
def chkS : Nat → PrN → Cxt → Stmt → S → Bool
  | 0, _, _, _, _ => false
  | n + 1, pn, c, st, s => match s with
    | .expr e => (match st with
      | .Expr v _ => nCmp v && chkE n pn c v e
      | _ => false)
    | .asg t e => (match st with
      | .Assign [tg] v _ => nSt tg && chkT n c tg t && chkE n pn c v e && (if nCmp v then swN c.sc tg v else (match tg, t with
        | .Name y py, .var i => lcLoc c y py v || lcCell c y
        | _, _ => false))
      | _ => false)
    | .own i e => (match st with
      | .Assign [.Name y py] v _ => decide (c.N[i]? = some y) && locB c y && frE e && chkE n pn c v e && (nCmp v || lcLoc c y py v || lcCell c y)
      | _ => false)
    | .par ts as => (match st with
      | .Assign [.Tuple tgs _ _] (.Tuple vs _ _) _ => (match ts, tgs, vs, as with
        | [(i, o1), (j, o2)], [.Name x _, .Name y _], [a, b], .cons a' (.cons b' .nil) =>
          decide (c.N[i]? = some x) && decide (c.N[j]? = some y) && decide (i ≠ j) && decide (c.sc.names.lookup x = some .local) && decide (c.sc.names.lookup y = some .local) && decide (swB c.sc tgs vs = some (some [x, y])) &&
          nSt a && nSt b && chkE n pn c a a' && chkE n pn c b b' && frB a' o1 && frB b' o2
        | [(i, o1), (j, o2), (l, o3)], [.Name x _, .Name y _, .Name z _], [a, b, d], .cons a' (.cons b' (.cons d' .nil)) =>
          decide (c.N[i]? = some x) && decide (c.N[j]? = some y) && decide (c.N[l]? = some z) && decide (i ≠ j) && decide (i ≠ l) && decide (j ≠ l) && decide (c.sc.names.lookup x = some .local) && decide (c.sc.names.lookup y = some .local) && decide (c.sc.names.lookup z = some .local) &&
          decide (swB c.sc tgs vs = some (some [x, y, z])) && nSt a && nSt b && nSt d && chkE n pn c a a' && chkE n pn c b b' && chkE n pn c d d' && frB a' o1 && frB b' o2 && frB d' o3
        | _, _, _, _ => false)
      | _ => false)
    | .aug i e => (match st with
      | .AugAssign (.Name x _) .Add v _ => decide (c.N[i]? = some x) && locB c x && chkE n pn c v e
      | _ => false)
    | .ret e => (match st with
      | .Return (some v) _ => chkE n pn c v e
      | .Return none _ => (match e with
        | .cst .non => true
        | _ => false)
      | _ => false)
    | .ife t a b => (match st with
      | .If t' a' b' _ => chkE n pn c t' t && chkB n pn c a' a && chkB n pn c b' b
      | _ => false)
    | .for_ t it b => (match st with
      | .For tg iter b' [] _ => chkT n c tg t && chkI n pn c tg iter it && chkB n pn c b' b && nSet iter
      | _ => false)
    | .whl _ t b => (match st with
      | .While t' b' [] _ => chkE n pn c t' t && chkB n pn c b' b
      | _ => false)
    | .app i e => (match st with
      | .Expr (.Call (.Attribute (.Name x _) m apos) [v] [] cpos) _ => decide (m = ("append" : Str)) && decide (c.N[i]? = some x) && visB c.sc x && chkE n pn c v e && nSt v && (apos.endLine == cpos.line)
      | _ => false)
    | .sto i a' b' => (match st with
      | .Assign [.Subscript (.Name x _) a _] b _ => decide (c.N[i]? = some x) && visB c.sc x && chkE n pn c a a' && chkE n pn c b b' && nSli a
      | _ => false)
    | .pop t i => (match st with
      | .Assign [tg] (.Call (.Attribute (.Name x _) m apos) [] [] cpos) _ => decide (m = ("pop" : Str)) && decide (c.N[i]? = some x) && visB c.sc x && nSt tg && chkT n c tg t && (apos.endLine == cpos.line) && swN c.sc tg (.Call (.Attribute (.Name x cpos) m apos) [] [] cpos)
      | _ => false)
    | .ext i e => (match st with
      | .Expr (.Call (.Attribute (.Name x _) m apos) [v] [] cpos) _ => decide (m = ("extend" : Str)) && decide (c.N[i]? = some x) && visB c.sc x && chkE n pn c v e && nSt v && (apos.endLine == cpos.line)
      | _ => false)
    | .frz _ => false
    | .stop => true
    | .pass => (match st with
      | .Pass _ => true
      | _ => false)
def chkB : Nat → PrN → Cxt → List Stmt → B → Bool
  | 0, _, _, _, _ => false
  | n + 1, pn, c, sts, b => match b with
    | .nil => sts.isEmpty
    | .cons (.frz _) b => chkB n pn c sts b
    | .cons s b => (match sts with
      | [] => false
      | st :: sts => chkS n pn c st s && chkB n pn c sts b)
end
section
variable {CX : CXT} {W : Wd} {pn : PrN} {p : Pr} {k : Nat} {c : Cxt} {Ew : XK} {X : Cx} {Hk0 H0 : Hp}
theorem loc_of (ok : Ok CX W pn p k c Ew X) {x : Str} (h : locB c x = true) : Loc X.env.scope x ∧ (X.fn x = true ∨ X.env.scope.names.lookup x = some .local) := by
  unfold locB at h
  unfold L2.Loc
  rw [ok.sc, ok.fn]
  revert h
  cases c.sc.names.lookup x with
  | none => intro h; cases h
  | some kd => cases kd <;> intro h <;> first | exact ⟨.inl rfl, .inr rfl⟩ | exact ⟨.inr rfl, .inl h⟩ | cases h
/-- a new list's expression, whatever its form -/
theorem snd_f (ok : Ok CX W pn p k c Ew X) {n : Nat} {v : Expr} {e : E} (hf : frE e = true) (h : chkE n pn c v e = true) : PE X v (tFf X.K W Ew (evE p.cs (den p k) e)) ∧ ∀ Γ g d g', evE p.cs (den p k) e Γ g = .ok d g' → isOb d = true := by
  induction n generalizing v with
  | zero => unfold chkE at h; cases h
  | succ n ih =>
    unfold chkE at h
    split at h
    · rename_i x hx
      obtain ⟨op, pos, rfl⟩ := one_some hx
      obtain ⟨q1, q2⟩ := ih h
      exact ⟨pe_one q1, q2⟩
    · cases e with
      | lst as =>
        dsimp only at h
        split at h
        · simp only [Bool.and_eq_true, decide_eq_true_eq] at h
          exact ⟨lst_snd (se_all n) ok h.1 h.2, fun Γ g d g' e => lst_shape e⟩
        · cases h
      | lc elt' t it cond =>
        dsimp only at h
        split at h
        · rename_i elt tg iter ifs z scope pos
          simp only [Bool.and_eq_true, decide_eq_true_eq] at h
          obtain ⟨⟨⟨⟨⟨⟨hz, hb⟩, hs⟩, ht⟩, hi⟩, hc⟩, he⟩ := h
          subst hz
          obtain ⟨wi, g, tt, te, own, q1, q2, q3, q4, q5, q6, q7⟩ := lc_snd (se_all n) ok hb hs ht hi hc he
          exact ⟨PE.imp (pe_lc ok.calm ok.nd q1 q2 q3 q4 q5 q6) q7, fun Γ g d g' e => lc_shape e⟩
        · cases h
      | cat a' b' =>
        dsimp only at h
        split at h
        · simp only [Bool.and_eq_true] at h
          have e2 : evE p.cs (den p k) (.cat a' b') = catR (evE p.cs (den p k) a') (evE p.cs (den p k) b') := by funext Γ g; simp only [evE, catR] <;> rfl
          rw [e2]
          exact ⟨f_cat ((se_all n).e ok h.1) ((se_all n).e ok h.2), fun Γ g d g' e => cat_shape e⟩
        · cases h
      | rev a' =>
        dsimp only at h
        split at h
        · simp only [Bool.and_eq_true, decide_eq_true_eq] at h
          obtain ⟨rfl, h⟩ := h
          have e2 : evE p.cs (den p k) (.rev a') = revR (evE p.cs (den p k) a') := by funext Γ g; simp only [evE, revR] <;> rfl
          rw [e2]
          exact ⟨f_rev ((se_all n).e ok h), fun Γ g d g' e => rev_shape e⟩
        · cases h
      | dnil =>
        dsimp only at h
        split at h
        · have e2 : evE p.cs (den p k) .dnil = fun _ g => .ok (.dct [] []) g := by funext Γ g; simp only [evE]
          rw [e2]
          exact ⟨f_dnil, fun Γ g d g' e => by cases e; rfl⟩
        · cases h
      | lrng1 a' =>
        dsimp only at h
        split at h
        · rename_i f q1 r q2 a q3 q4 _
          simp only [Bool.and_eq_true, decide_eq_true_eq] at h
          obtain ⟨⟨⟨⟨⟨rfl, hg⟩, rfl⟩, hg2⟩, ha⟩, hn⟩ := h
          have e2 : evE p.cs (den p k) (.lrng1 a') = lrng1R (evE p.cs (den p k) a') := by funext Γ g; simp only [evE, lrng1R] <;> rfl
          rw [e2]
          exact ⟨f_lrng1 ok.calm (ok.gl hg) (ok.bn _ (by simp [bNames])) (ok.gl hg2) (ok.bn _ (by simp [bNames])) ((se_all n).e ok ha) (star_of hn _ _), fun Γ g d g' e => lrng1_shape e⟩
        · cases h
      | lrng2 a' b' =>
        dsimp only at h
        split at h
        · rename_i f q1 r q2 a b q3 q4 _
          simp only [Bool.and_eq_true, decide_eq_true_eq] at h
          obtain ⟨⟨⟨⟨⟨⟨⟨rfl, hg⟩, rfl⟩, hg2⟩, ha⟩, hn⟩, hb⟩, hn2⟩ := h
          have e2 : evE p.cs (den p k) (.lrng2 a' b') = lrng2R (evE p.cs (den p k) a') (evE p.cs (den p k) b') := by funext Γ g; simp only [evE, lrng2R] <;> rfl
          rw [e2]
          exact ⟨f_lrng2 ok.calm (ok.gl hg) (ok.bn _ (by simp [bNames])) (ok.gl hg2) (ok.bn _ (by simp [bNames])) ((se_all n).e ok ha) ((se_all n).e ok hb) (star_of hn _ _) (star_of hn2 _ _) (by rw [star_of hn2]; rfl), fun Γ g d g' e => lrng2_shape e⟩
        · cases h
      | done k' v' =>
        dsimp only at h
        split at h
        · simp only [Bool.and_eq_true] at h
          have e2 : evE p.cs (den p k) (.done k' v') = doneR (evE p.cs (den p k) k') (evE p.cs (den p k) v') := by funext Γ g; simp only [evE, doneR] <;> rfl
          rw [e2]
          exact ⟨f_done ok.un ok.w ((se_all n).e ok h.1) ((se_all n).e ok h.2), fun Γ g d g' e => done_shape e⟩
        · cases h
      | lstS as =>
        dsimp only at h
        split at h
        · have e2 : evE p.cs (den p k) (.lstS as) = fun Γ g => (evA p.cs (den p k) as Γ g).bind fun xs g => if xs.length ≤ 1000000 then .ok (.lst xs) g else .st := by funext Γ g; simp only [evE] <;> rfl
          rw [e2]
          exact ⟨f_lstS ((se_all n).as ok h), fun Γ g d g' e => lstS_shape e⟩
        · cases h
      | bi b as =>
        dsimp only at h
        split at h
        · rename_i x q es pos hone
          simp only [Bool.and_eq_true, decide_eq_true_eq] at h
          obtain ⟨⟨⟨rfl, hg⟩, ha⟩, hne⟩ := h
          have hn := (chkA_len (n := n) ha).1
          have e2 : evE p.cs (den p k) (.bi b as) = fun Γ g => (evA p.cs (den p k) as Γ g).bind fun xs g => lift (biD b xs) g := by funext Γ g; first | rfl | (simp only [evE]; done) | (simp only [evE]; rfl)
          rw [e2]
          have hm : X.mg (biN b) = none := ok.bn _ (by cases b <;> simp [biN, bNames])
          have sh : ∀ ds d, (b = .list ∨ b = .sorted ∨ b = .sortd) → biD b ds = some d → ∃ zs, d = .lst zs := fun ds d hb e => by
            rcases hb with rfl | rfl | rfl
            · exact list_shape _ _ e
            · exact sort_shape _ _ e
            · exact sortd_shape _ _ e
          have shape : (b = .list ∨ b = .sorted ∨ b = .sortd) → ∀ Γ g d g', ((evA p.cs (den p k) as Γ g).bind fun xs g => lift (biD b xs) g) = .ok d g' → isOb d = true := fun hb Γ g d g' e => by
            obtain ⟨xs, g1, _, e⟩ := bind_ok e
            obtain ⟨zs, rfl⟩ := sh _ _ hb (lift_ok e).1
            rfl
          cases es with
          | nil => cases hne
          | cons a es =>
            simp only [nSts, Bool.and_eq_true] at hn
            cases b with
            | list => exact ⟨f_biT (fun ds d e => sh ds d (.inl rfl) e) (call_listF ok.calm) (ok.gl hg) hm (by decide +kernel) ((se_all n).a ok ha) (by decide) (by decide) (star_of hn.1 _ _) (back_of _ _ hn.2), shape (.inl rfl)⟩
            | sorted => exact ⟨f_biB (fun ds d e => sh ds d (.inr (.inl rfl)) e) call_sortF (ok.gl hg) hm (by decide +kernel) ((se_all n).a ok ha) (by decide) (by decide) (star_of hn.1 _ _) (back_of _ _ hn.2), shape (.inr (.inl rfl))⟩
            | sortd => exact ⟨f_biB (fun ds d e => sh ds d (.inr (.inr rfl)) e) (call_sortdF ok.un2) (ok.gl hg) hm (by decide +kernel) ((se_all n).a ok ha) (by decide) (by decide) (star_of hn.1 _ _) (back_of _ _ hn.2), shape (.inr (.inr rfl))⟩
            | _ => cases hf
        · cases h
      | _ => cases hf
/-- .. stored in a local name on its line -/
theorem snd_lcLoc (ok : Ok CX W pn p k c Ew X) (hk : c.sc.kind = .function) {n : Nat} {v : Expr} {e : E} {y : Str} {py pos : Pos} {i : Nat} (hl : lcLoc c y py v = true) (hN : c.N[i]? = some y) (h : chkE n pn c v e = true) :
    ∃ te, PS X (.Assign [.Name y py] v pos) (tAsg te (gName i)) ∧ (∀ σ H Q, tFf X.K W Ew (evE p.cs (den p k) e) σ H Q → te σ H Q) ∧ ∀ Γ g d g', evE p.cs (den p k) e Γ g = .ok d g' → isOb d = true := by
  unfold lcLoc at hl
  split at hl
  · rename_i elt gs scope lpos
    simp only [Bool.and_eq_true, decide_eq_true_eq, Bool.not_eq_true'] at hl
    cases n with
    | zero => unfold chkE at h; cases h
    | succ n =>
      unfold chkE at h
      split at h
      · rename_i x hx; cases hx
      · cases e with
        | lc elt' t it cond =>
          dsimp only at h
          split at h
          · rename_i elt2 tg iter ifs z scope2 pos2 e0
            cases e0
            simp only [Bool.and_eq_true, decide_eq_true_eq] at h
            obtain ⟨⟨⟨⟨⟨⟨hz, hb⟩, hs⟩, ht⟩, hi⟩, hc⟩, he⟩ := h
            subst hz
            obtain ⟨wi, g, tt, te, own, q1, q2, q3, q4, q5, q6, q7⟩ := lc_snd (se_all n) ok hb hs ht hi hc he
            refine ⟨_, ps_setLc ok.calm ok.nd (by rw [ok.N]; exact hN) (by rw [ok.sc]; exact hl.1.1) (sw_true (by rw [ok.sc]; exact hk) (by rw [ok.sc]; exact hl.1.1) hl.1.2 hl.2) q1 q2 q3 q4 q5 q6, q7, fun Γ g d g' e => lc_shape e⟩
          · cases h
        | _ => simp only at h; cases h
  · cases hl
theorem tE_tF {f : Gm → G → R D} (hl : ∀ Γ g d g', f Γ g = .ok d g' → isOb d = true) : ∀ σ H Q, tE X.K W Ew f σ H Q → tFf X.K W Ew f σ H Q := fun σ H Q ⟨Hk0, H0, Γ, g, Hk, fr, h⟩ => ⟨Hk0, H0, Γ, g, Hk, fr, by
  cases r : f Γ g with
  | ok d g' =>
    rw [r] at h
    intro Hk' H' s dr p u hp hk hp' rl
    exact h _ H' (s.tell hp hp') dr (.ref p) ((rl.mono (Evl.Ex.new hk)).rp upd_same)
  | ex c ds g' => rw [r] at h; exact h
  | st => rw [r] at h; exact h⟩
theorem snd_P (ok : Ok CX W pn p k c Ew X) {n : Nat} {v : Expr} {e : E} {o : Bool} (ho : frB e o = true) (h : chkE n pn c v e = true) : PE X v (tP X.K W Ew o (evE p.cs (den p k) e)) ∧ (o = true → ∀ Γ g d g', evE p.cs (den p k) e Γ g = .ok d g' → isOb d = true) := by
  cases o with
  | false => exact ⟨(se_all n).e ok h, fun z => by cases z⟩
  | true =>
    have := snd_f ok (by simpa [frB] using ho) h
    exact ⟨this.1, fun _ => this.2⟩
end
end Bk

set_option Elab.async false
set_option linter.all false
set_option maxRecDepth 100000
set_option maxHeartbeats 4000000
/-! The evaluator is sound: statements, joined. -/
namespace Bk
open PySem L2
open Evl (Ex ex_l ex_t)
section
variable {CX : CXT} {W : Wd} {pn : PrN} {p : Pr} {k : Nat} {c : Cxt} {Ew : XK} {X : Cx} {Hk0 H0 : Hp}
theorem par2_eq {cs : List (Nat × D)} {call : Nat → List D → G → R D} {i j : Nat} {o1 o2 : Bool} {a b : E} : evS cs call (.par [(i, o1), (j, o2)] (.cons a (.cons b .nil))) = parR2 i o1 j o2 (evE cs call a) (evE cs call b) := by
  funext Γ g
  simp only [evS, evA, parR2]
  cases evE cs call a Γ g with
  | ok x g1 =>
    simp only [R.bind]
    cases evE cs call b Γ g1 with
    | ok y g2 =>
      simp only [R.bind, parG]
      by_cases hi : i < Γ.length
      · rw [if_pos hi]
        simp only [List.length_set]
        by_cases hj : j < Γ.length
        · rw [if_pos hj, if_pos (show i < Γ.length ∧ j < Γ.length from ⟨hi, hj⟩)]; rfl
        · rw [if_neg hj, if_neg (show ¬ (i < Γ.length ∧ j < Γ.length) from fun z => hj z.2)]; rfl
      · rw [if_neg hi, if_neg (show ¬ (i < Γ.length ∧ j < Γ.length) from fun z => hi z.1)]; rfl
    | ex _ _ _ => rfl
    | st => rfl
  | ex _ _ _ => rfl
  | st => rfl
theorem par3_eq {cs : List (Nat × D)} {call : Nat → List D → G → R D} {i j l : Nat} {o1 o2 o3 : Bool} {a b d : E} : evS cs call (.par [(i, o1), (j, o2), (l, o3)] (.cons a (.cons b (.cons d .nil)))) = parR3 i o1 j o2 l o3 (evE cs call a) (evE cs call b) (evE cs call d) := by
  funext Γ g
  simp only [evS, evA, parR3]
  cases evE cs call a Γ g with
  | ok x g1 =>
    simp only [R.bind]
    cases evE cs call b Γ g1 with
    | ok y g2 =>
      simp only [R.bind]
      cases evE cs call d Γ g2 with
      | ok z g3 =>
        simp only [R.bind, parG]
        by_cases hi : i < Γ.length
        · rw [if_pos hi]
          simp only [List.length_set]
          by_cases hj : j < Γ.length
          · rw [if_pos hj]
            by_cases hl : l < Γ.length
            · rw [if_pos hl, if_pos (show i < Γ.length ∧ j < Γ.length ∧ l < Γ.length from ⟨hi, hj, hl⟩)]; rfl
            · rw [if_neg hl, if_neg (show ¬ (i < Γ.length ∧ j < Γ.length ∧ l < Γ.length) from fun z => hl z.2.2)]; rfl
          · rw [if_neg hj, if_neg (show ¬ (i < Γ.length ∧ j < Γ.length ∧ l < Γ.length) from fun z => hj z.2.1)]; rfl
        · rw [if_neg hi, if_neg (show ¬ (i < Γ.length ∧ j < Γ.length ∧ l < Γ.length) from fun z => hi z.1)]; rfl
      | ex _ _ _ => rfl
      | st => rfl
    | ex _ _ _ => rfl
    | st => rfl
  | ex _ _ _ => rfl
  | st => rfl
theorem asg1 {tg : Expr} (h : nSt tg = true) (env : Env) : (assignEach [tg] env).map (·.2) = [assign tg env] := by
  rw [asg_of h]; rfl
theorem sole_of {tg v : Expr} (h : nCmp v = true) (l : Nat) (env : Env) : swapsWithSole [tg] v l env = pure false := nCmp_of h _ _ _
theorem snd_asg (ok : Ok CX W pn p k c Ew X) (hk : c.sc.kind = .function) {n : Nat} {st : Stmt} {t : T} {e : E} (h : chkS (n + 1) pn c st (.asg t e) = true) : PS X st (tSt X.K W Ew Hk0 H0 (evS p.cs (den p k) (.asg t e))) := by
  have e0 : evS p.cs (den p k) (.asg t e) = fun Γ g => (evE p.cs (den p k) e Γ g).bind fun x g => (lift (setT t x Γ) g).bind fun Γ' g => .ok (.nx Γ') g := by funext Γ g; simp only [evS]
  rw [e0]
  simp only [chkS] at h
  split at h
  · rename_i tg v pos
    simp only [Bool.and_eq_true] at h
    obtain ⟨⟨⟨h1, h2⟩, h3⟩, h4⟩ := h
    split at h4
    · rename_i hc
      exact s_asg ((se_all n).e ok h3) ((sndT ok n).1 _ _ h2) (sole_of hc _ _) (swN_of ok.sc hk h4) (asg1 h1 _)
    · split at h4
      · rename_i y py i
        cases n with
        | zero => cases h2
        | succ n =>
        have h2' := h2
        simp only [chkT, Bool.and_eq_true, decide_eq_true_eq] at h2
        simp only [Bool.or_eq_true] at h4
        rcases h4 with h4 | h4
        · obtain ⟨te, q1, q2, q3⟩ := snd_lcLoc (pos := pos) ok hk h4 h2.1 h3
          exact s_asgL q1 fun σ H Q z => q2 σ H Q (tE_tF q3 σ H Q z)
        · simp only [lcCell, Bool.and_eq_true, decide_eq_true_eq] at h4
          refine s_asg ((se_all (n + 1)).e ok h3) ((sndT ok (n + 1)).1 _ _ h2') (show swapsWithSole [.Name y py] v pos.line _ = pure false from sw_cell ok.sc h4.1 v py pos.line) (swN_of ok.sc hk (tg := .Name y py) rfl) (asg1 h1 _)
      · cases h4
  · cases h
theorem snd_own (ok : Ok CX W pn p k c Ew X) (hk : c.sc.kind = .function) {n : Nat} {st : Stmt} {i : Nat} {e : E} (h : chkS (n + 1) pn c st (.own i e) = true) : PS X st (tSt X.K W Ew Hk0 H0 (evS p.cs (den p k) (.own i e))) := by
  have e0 : evS p.cs (den p k) (.own i e) = ownR i (evE p.cs (den p k) e) := by funext Γ g; simp only [evS, ownR] <;> rfl
  rw [e0]
  simp only [chkS] at h
  split at h
  · rename_i y py v pos
    simp only [Bool.and_eq_true, Bool.or_eq_true, decide_eq_true_eq] at h
    obtain ⟨⟨⟨⟨h1, h2⟩, h3⟩, h4⟩, h5⟩ := h
    rcases h5 with (h5 | h5) | h5
    · obtain ⟨l1, l2⟩ := loc_of ok h2
      exact s_own (ps_set ok.nd (by rw [ok.N]; exact h1) l1 (snd_f ok h3 h4).1 (nCmp_of h5 _ _ _) l2) fun σ H Q z => z
    · obtain ⟨te, q1, q2, q3⟩ := snd_lcLoc (pos := pos) ok hk h5 h1 h4
      exact s_own q1 q2
    · simp only [lcCell, Bool.and_eq_true, decide_eq_true_eq] at h5
      obtain ⟨l1, l2⟩ := loc_of ok h2
      exact s_own (ps_set ok.nd (by rw [ok.N]; exact h1) l1 (snd_f ok h3 h4).1 (sw_cell ok.sc h5.1 _ _ _) l2) fun σ H Q z => z
  · cases h
theorem snd_par (ok : Ok CX W pn p k c Ew X) (hk : c.sc.kind = .function) {n : Nat} {st : Stmt} {ts : List (Nat × Bool)} {as : A} (h : chkS (n + 1) pn c st (.par ts as) = true) : PS X st (tSt X.K W Ew Hk0 H0 (evS p.cs (den p k) (.par ts as))) := by
  simp only [chkS] at h
  split at h
  · split at h
    · simp only [Bool.and_eq_true, decide_eq_true_eq] at h
      obtain ⟨⟨⟨⟨⟨⟨⟨⟨⟨⟨⟨h1, h2⟩, h3⟩, h4⟩, h5⟩, h6⟩, n1⟩, n2⟩, c1⟩, c2⟩, f1⟩, f2⟩ := h
      obtain ⟨p1, l1⟩ := snd_P ok f1 c1
      obtain ⟨p2, l2⟩ := snd_P ok f2 c2
      rw [par2_eq]
      exact s_par2 l1 l2 (ps_par ok.calm ok.nd (by rw [ok.N]; exact h1) (by rw [ok.N]; exact h2) h3 (by rw [ok.sc]; exact h4) (by rw [ok.sc]; exact h5) (pa_cons p1 (pa_cons p2 pa_nil (star_of n2 _ _)) (star_of n1 _ _)) (sw_of ok.sc hk h6))
    · simp only [Bool.and_eq_true, decide_eq_true_eq] at h
      obtain ⟨⟨⟨⟨⟨⟨⟨⟨⟨⟨⟨⟨⟨⟨⟨⟨⟨⟨h1, h2⟩, h3⟩, d1⟩, d2⟩, d3⟩, k1⟩, k2⟩, k3⟩, h6⟩, n1⟩, n2⟩, n3⟩, c1⟩, c2⟩, c3⟩, f1⟩, f2⟩, f3⟩ := h
      obtain ⟨p1, l1⟩ := snd_P ok f1 c1
      obtain ⟨p2, l2⟩ := snd_P ok f2 c2
      obtain ⟨p3, l3⟩ := snd_P ok f3 c3
      rw [par3_eq]
      exact s_par3 l1 l2 l3 (ps_par3 ok.calm ok.nd (by rw [ok.N]; exact h1) (by rw [ok.N]; exact h2) (by rw [ok.N]; exact h3) d1 d2 d3 (by rw [ok.sc]; exact k1) (by rw [ok.sc]; exact k2) (by rw [ok.sc]; exact k3) (pa_cons p1 (pa_cons p2 (pa_cons p3 pa_nil (star_of n3 _ _)) (star_of n2 _ _)) (star_of n1 _ _)) (sw_of ok.sc hk h6))
    · cases h
  · cases h
structure SS (CX : CXT) (W : Wd) (pn : PrN) (p : Pr) (k n : Nat) : Prop where
  s : ∀ {c : Cxt} {Ew : XK} {X : Cx} {Hk0 H0 : Hp}, Ok CX W pn p k c Ew X → c.sc.kind = .function → ∀ {st : Stmt} {s : S}, chkS n pn c st s = true → PS X st (tSt X.K W Ew Hk0 H0 (evS p.cs (den p k) s))
  b : ∀ {c : Cxt} {Ew : XK} {X : Cx} {Hk0 H0 : Hp}, Ok CX W pn p k c Ew X → c.sc.kind = .function → ∀ {st : List Stmt} {b : B}, chkB n pn c st b = true → PSs X st (tSt X.K W Ew Hk0 H0 (evB p.cs (den p k) b))
theorem snd_s {n : Nat} (ih : SS CX W pn p k n) (ok : Ok CX W pn p k c Ew X) (hk : c.sc.kind = .function) {st : Stmt} {s : S} (h : chkS (n + 1) pn c st s = true) : PS X st (tSt X.K W Ew Hk0 H0 (evS p.cs (den p k) s)) := by
  have ie := se_all (CX := CX) (W := W) (pn := pn) (p := p) (k := k) n
  cases s with
  | asg t e => exact snd_asg ok hk h
  | own i e => exact snd_own ok hk h
  | par ts as => exact snd_par ok hk h
  | expr e =>
    have e0 : evS p.cs (den p k) (.expr e) = fun Γ g => (evE p.cs (den p k) e Γ g).bind fun _ g => .ok (.nx Γ) g := by funext Γ g; simp only [evS]
    rw [e0]
    simp only [chkS] at h
    split at h
    · simp only [Bool.and_eq_true] at h
      exact s_expr (ie.e ok h.2) (nCmp_of h.1 _ _ _)
    · cases h
  | aug i e =>
    have e0 : evS p.cs (den p k) (.aug i e) = augR i (evE p.cs (den p k) e) := by funext Γ g; simp only [evS, augR] <;> rfl
    rw [e0]
    simp only [chkS] at h
    split at h
    · simp only [Bool.and_eq_true, decide_eq_true_eq] at h
      obtain ⟨l1, l2⟩ := loc_of ok h.1.2
      exact s_aug (ps_aug ok.nd (by rw [ok.N]; exact h.1.1) l1 (ie.e ok h.2) ip_add l2)
    · cases h
  | ret e =>
    have e0 : evS p.cs (den p k) (.ret e) = fun Γ g => (evE p.cs (den p k) e Γ g).bind fun x g => .ok (.rt x) g := by funext Γ g; simp only [evS]
    simp only [chkS] at h
    split at h
    · rw [e0]; exact s_ret (ie.e ok h)
    · split at h
      · have e1 : evS p.cs (den p k) (.ret (.cst .non)) = fun Γ g => R.bind (R.ok D.non g) fun x g => .ok (.rt x) g := by funext Γ g; simp only [evS, evE]
        rw [e1]
        exact s_retN
      · cases h
    · cases h
  | ife t a b =>
    have e0 : evS p.cs (den p k) (.ife t a b) = fun Γ g => (blR (evE p.cs (den p k) t Γ g)).bind fun k' g => if k' then evB p.cs (den p k) a Γ g else evB p.cs (den p k) b Γ g := by funext Γ g; simp only [evS]
    rw [e0]
    simp only [chkS] at h
    split at h
    · simp only [Bool.and_eq_true] at h
      exact s_if (ie.t ok h.1.1) (ih.b ok hk h.1.2) (ih.b ok hk h.2)
    · cases h
  | for_ t it b =>
    have e0 : evS p.cs (den p k) (.for_ t it b) = fun Γ g => (evI p.cs (den p k) it Γ g).bind fun xs g => forR (fun x Γ g => (lift (setT t x Γ) g).bind fun Γ' g => evB p.cs (den p k) b Γ' g) xs Γ g := by funext Γ g; simp only [evS]
    rw [e0]
    simp only [chkS] at h
    split at h
    · simp only [Bool.and_eq_true] at h
      exact s_for ok.own ok.calm (ie.i ok h.1.1.2) ((sndT ok n).1 _ _ h.1.1.1) (ih.b ok hk h.1.2) (set_of h.2 _)
    · cases h
  | whl m t b =>
    have e0 : evS p.cs (den p k) (.whl m t b) = fun Γ g => whlR (fun Γ g => blR (evE p.cs (den p k) t Γ g)) (fun Γ g => evB p.cs (den p k) b Γ g) m Γ g := by funext Γ g; simp only [evS]
    rw [e0]
    simp only [chkS] at h
    split at h
    · simp only [Bool.and_eq_true] at h
      exact s_while m ok.own (ie.t ok h.1) (ih.b ok hk h.2)
    · cases h
  | app i e =>
    have e0 : evS p.cs (den p k) (.app i e) = appR i (evE p.cs (den p k) e) := by funext Γ g; simp only [evS, appR] <;> rfl
    rw [e0]
    simp only [chkS] at h
    split at h
    · rename_i x px m apos v cpos pos
      simp only [Bool.and_eq_true, decide_eq_true_eq] at h
      obtain ⟨⟨⟨⟨⟨rfl, h1⟩, h2⟩, h3⟩, h4⟩, h5⟩ := h
      have hN : X.N[i]? = some x := by rw [ok.N]; exact h1
      have hx := ok.nm x (List.mem_of_getElem? hN)
      exact s_app (pe_var hN (by rw [ok.sc]; exact vis_of h2) (okN1 hx) (okN2 hx)) (ie.e ok h3) h4 h5 (nCmp_of rfl _ _ _)
    · cases h
  | sto i a' b' =>
    have e0 : evS p.cs (den p k) (.sto i a' b') = stoR i (evE p.cs (den p k) a') (evE p.cs (den p k) b') := by funext Γ g; simp only [evS, stoR] <;> rfl
    rw [e0]
    simp only [chkS] at h
    split at h
    · rename_i x px a tp b pos
      simp only [Bool.and_eq_true, decide_eq_true_eq] at h
      obtain ⟨⟨⟨⟨h1, h2⟩, h3⟩, h4⟩, h5⟩ := h
      have hN : X.N[i]? = some x := by rw [ok.N]; exact h1
      have hx := ok.nm x (List.mem_of_getElem? hN)
      have pv := pe_var (X := X) (pos := px) hN (by rw [ok.sc]; exact vis_of h2) (okN1 hx) (okN2 hx)
      exact s_sto pv (ie.e ok h3) (ie.e ok h4) (by cases b <;> rfl) (by cases b <;> rfl) (pg_sub pv (ie.e ok h3) (set_O ok.un ok.w) (by cases a <;> first | (intro v; rfl) | cases h5))
    · cases h
  | pop t i =>
    have e0 : evS p.cs (den p k) (.pop t i) = popR t i := by funext Γ g; simp only [evS, popR] <;> rfl
    rw [e0]
    simp only [chkS] at h
    split at h
    · rename_i tg x px m apos cpos pos
      simp only [Bool.and_eq_true, decide_eq_true_eq] at h
      obtain ⟨⟨⟨⟨⟨⟨rfl, h1⟩, h2⟩, h3⟩, h4⟩, h5⟩, h6⟩ := h
      have hN : X.N[i]? = some x := by rw [ok.N]; exact h1
      have hx := ok.nm x (List.mem_of_getElem? hN)
      exact s_pop (pe_var hN (by rw [ok.sc]; exact vis_of h2) (okN1 hx) (okN2 hx)) ((sndT ok n).1 _ _ h4) h5 (sole_of rfl _ _) (swN_of ok.sc hk (by unfold swN at h6 ⊢; exact h6)) (asg1 h3 _)
    · cases h
  | ext i e =>
    have e0 : evS p.cs (den p k) (.ext i e) = extR i (evE p.cs (den p k) e) := by funext Γ g; simp only [evS, extR] <;> rfl
    rw [e0]
    simp only [chkS] at h
    split at h
    · rename_i x px m apos v cpos pos
      simp only [Bool.and_eq_true, decide_eq_true_eq] at h
      obtain ⟨⟨⟨⟨⟨rfl, h1⟩, h2⟩, h3⟩, h4⟩, h5⟩ := h
      have hN : X.N[i]? = some x := by rw [ok.N]; exact h1
      have hx := ok.nm x (List.mem_of_getElem? hN)
      exact s_ext (pe_var hN (by rw [ok.sc]; exact vis_of h2) (okN1 hx) (okN2 hx)) (ie.e ok h3) h4 h5 (nCmp_of rfl _ _ _)
    · cases h
  | frz i => simp only [chkS] at h; cases h
  | stop =>
    have e0 : evS p.cs (den p k) .stop = fun _ _ => .st := by funext Γ g; simp only [evS]
    rw [e0]; exact s_stop
  | pass =>
    have e0 : evS p.cs (den p k) .pass = fun Γ g => .ok (.nx Γ) g := by funext Γ g; simp only [evS]
    rw [e0]
    simp only [chkS] at h
    split at h
    · exact s_pass
    · cases h
theorem snd_b {n : Nat} (ih : SS CX W pn p k n) (ok : Ok CX W pn p k c Ew X) (hk : c.sc.kind = .function) {sts : List Stmt} {b : B} (h : chkB (n + 1) pn c sts b = true) : PSs X sts (tSt X.K W Ew Hk0 H0 (evB p.cs (den p k) b)) := by
  cases b with
  | nil =>
    simp only [chkB] at h
    cases sts with
    | nil =>
      have e0 : evB p.cs (den p k) .nil = fun Γ g => .ok (.nx Γ) g := by funext Γ g; simp only [evB]
      rw [e0]; exact s_nil
    | cons _ _ => cases h
  | cons s b =>
    have e0 : evB p.cs (den p k) (.cons s b) = seqR (evS p.cs (den p k) s) (evB p.cs (den p k) b) := by funext Γ g; simp only [evB, seqR] <;> rfl
    rw [e0]
    by_cases hf : ∃ i, s = .frz i
    · obtain ⟨i, rfl⟩ := hf
      have e1 : evS p.cs (den p k) (.frz i) = frzR i := by funext Γ g; simp only [evS, frzR] <;> rfl
      rw [e1]
      simp only [chkB] at h
      exact s_frz (ih.b ok hk h)
    · cases sts with
      | nil => cases s <;> first | (simp only [chkB] at h; cases h) | exact absurd ⟨_, rfl⟩ hf
      | cons st sts =>
        have h2 : chkS n pn c st s = true ∧ chkB n pn c sts b = true := by
          cases s <;> first | (simp only [chkB, Bool.and_eq_true] at h; exact h) | exact absurd ⟨_, rfl⟩ hf
        exact s_cons (ih.s ok hk h2.1) (ih.b ok hk h2.2)
theorem ss_all : ∀ n, SS CX W pn p k n
  | 0 => ⟨fun _ _ _ _ h => (by unfold chkS at h; cases h), fun _ _ _ _ h => (by unfold chkB at h; cases h)⟩
  | n + 1 => by
    have ih := ss_all n
    exact ⟨fun ok hk _ _ h => snd_s ih ok hk h, fun ok hk _ _ h => snd_b ih ok hk h⟩
end
end Bk

set_option Elab.async false
set_option linter.all false
set_option maxRecDepth 100000
set_option maxHeartbeats 4000000
/-! Each def keeps the evaluator's promise, to any depth. -/
namespace Bk
open PySem PySem.Spec PyProof.Rows L2
open Evl (Ex ex_l ex_t)
/-- a def of the text, held against its compact form -/
structure DefOk (pn : PrN) (K : PySem.W.Frag) (mg : Str → Option Value) (x : Str) (df : Df) (a : Addr) (fd : FuncData) (ps : List Str) : Prop where
  ex : ∃ (params : Arguments) (body : List Stmt) (scope : Scope) (N : List Str) (n : Nat), FunD K x x params body scope [] [] a fd ∧ FnScope N ps scope ∧ (∀ y ∈ N, okN y = true) ∧ chkB n pn ⟨N, scope, fun _ => true⟩ body df.body = true ∧ df.np = ps.length ∧ df.nn = N.length
  nm : okN x = true
  mg : mg x = some (.ref a)
  bd : Binds K fd ps []
structure World0 (P : Program) (w : World) (K : PySem.W.Frag) (mg : Str → Option Value) (base : Heap) (pn : PrN) (p : Pr) : Prop where
  cs : ∀ (i : Nat) (d : D) (x : Str), p.cs.lookup i = some d → pn.cs.lookup i = some x → ∃ u v, okN x = true ∧ mg x = some u ∧ RelV v u ∧ ∀ (W : Wd) H, Rp K W H d v
  ds : ∀ (f : Nat) (x : Str), pn.ds.lookup f = some x → ∃ df a fd ps, p.ds.lookup f = some df ∧ DefOk pn K mg x df a fd ps
  dr : ∃ a fd ps, mg "_law_draw" = some (.ref a) ∧ PySem.W.keepIn K (.ref a) = true ∧ Binds K fd ps [] ∧ ∀ (W : Wd), FnOkG P w K mg base CX0 2 a fd ps (spDraw W)
  bn : ∀ x ∈ bNames, mg x = none
theorem FnOkG.mono {P : Program} {w : World} {K : PySem.W.Frag} {mg : Str → Option Value} {base : Heap} {CX : CXT} {j k : Nat} {f : Addr} {fd : FuncData} {ps : List Str} {sp : Sp} (F : FnOkG P w K mg base CX j f fd ps sp) (h : j ≤ k) :
    FnOkG P w K mg base CX k f fd ps sp := ⟨F.len, fun A outer s H args us vs Q E hr => F.run A outer s H args us vs Q E (hr.mono h)⟩
section
variable {P : Program} {w : World} {K : PySem.W.Frag} {mg : Str → Option Value} {base : Heap} {pn : PrN} {p : Pr} {W : Wd}
theorem gm_no {Hk H : Hp} : ∀ m, GmR K W Hk H (List.replicate m Slot.no) (List.replicate m none) []
  | 0 => .nil
  | m + 1 => .no none (gm_no m)
theorem gm_start {Hk H : Hp} {m : Nat} : ∀ {ds : List D} {vs : List V}, RpL K W Hk ds vs → GmR K W Hk H (ds.map Slot.val ++ List.replicate m Slot.no) (vs.map some ++ List.replicate m none) []
  | [], vs, h => by
    have h : vs = [] := h
    subst h
    exact gm_no m
  | d :: ds, vs, h => by
    obtain ⟨y, ys, rfl, h1, h2⟩ := h
    exact .val h1 (gm_start h2)
theorem den_len (hd : ∀ (f : Nat) (x : Str), pn.ds.lookup f = some x → ∃ df a fd ps, p.ds.lookup f = some df ∧ DefOk pn K mg x df a fd ps) {k f : Nat} {df : Df} (e : p.ds.lookup f = some df) {ds : List D} {g : G} (h : den p k f ds g ≠ .st) : ds.length = df.np := by
  cases k with
  | zero => exact absurd rfl h
  | succ k =>
    unfold den at h
    rw [e] at h
    by_cases c : ds.length = df.np ∧ df.np ≤ df.nn
    · exact c.1
    · exact absurd (by simp only [if_neg c]) h
/-- the context of a def's body is a good one -/
theorem ok_body (w0 : World0 P w K mg base pn p) (hw : W.w = w) {k : Nat} (ih : ∀ (f : Nat) (x : Str) df a fd ps, pn.ds.lookup f = some x → p.ds.lookup f = some df → DefOk pn K mg x df a fd ps → FnOkG P w K mg base CX0 (k + 2) a fd ps (spD K W ps (den p k f)))
    {N ps : List Str} {qual : Str} {scope : Scope} {a : Addr} {cdv : Value} {A : Around} {outer : List Env} {s : Shared} {H : Hp} {E : XK} (S : FnScope N ps scope) (hN : ∀ y ∈ N, okN y = true)
    (hr : Room (k + 2) (A.deeper (envOfC qual scope s.heap.objs.size a cdv))) (hg : (A.deeper (envOfC qual scope s.heap.objs.size a cdv)).guards = some []) :
    Ok CX0 W pn p k ⟨N, scope, fun _ => true⟩ E (cxOf CX0 P w K mg base N qual scope a cdv A outer s H E) where
  N := rfl
  sc := rfl
  fn := rfl
  nd := S.nd
  nm := hN
  calm := rfl
  room := hr
  gd := hg
  pass := fun _ _ _ _ _ _ _ h => h.elim
  own := passes_of rfl
  cxf := fun _ _ _ _ _ h => h
  cs := fun i d x h1 h2 => by
    obtain ⟨u, v, q1, q2, q3, q4⟩ := w0.cs i d x h1 h2
    exact ⟨u, v, q1, q2, q3, q4 W⟩
  ds := fun f x h => by
    obtain ⟨df, a, fd, ps, e, d⟩ := w0.ds f x h
    obtain ⟨params, body, scope, N, n, F, S, hN, hc, h1, h2⟩ := d.ex
    exact ⟨a, fd, ps, d.nm, d.mg, F.kp, d.bd, ih f x df a fd ps h e d, fun ds g z => by rw [den_len w0.ds e z, h1]⟩
  dr := by
    obtain ⟨a, fd, ps, h1, h2, h3, h4⟩ := w0.dr
    exact ⟨a, fd, ps, h1, h2, h3, (h4 W).mono (Nat.le_add_left 2 k)⟩
  bn := w0.bn
  w := hw
theorem defs_ok (w0 : World0 P w K mg base pn p) (W : Wd) (hw : W.w = w) : ∀ (k f : Nat) (x : Str) df a fd ps, pn.ds.lookup f = some x → p.ds.lookup f = some df → DefOk pn K mg x df a fd ps → FnOkG P w K mg base CX0 (k + 2) a fd ps (spD K W ps (den p k f))
  | 0, f, x, df, a, fd, ps, _, _, _ => ⟨fun vs H Q E h => h.1, fun A outer s H args us vs Q E _ _ _ _ _ h => by
      obtain ⟨_, ds, g, Hk, _, _, h⟩ := h
      exact h.elim⟩
  | k + 1, f, x, df, a, fd, ps, h, e, d => by
    obtain ⟨params, body, scope, N, n, F, S, hN, hc, h1, h2⟩ := d.ex
    obtain ⟨oc, od, dV, kV, doc, pm, an, cdv, ct, osl, rfl, lk, hcd, _, _⟩ := F.ex
    refine fn_ofG lk hcd S (fun vs H Q E h => h.1) fun A outer s H vs Q E hr hg hsp => ?_
    obtain ⟨hl, ds, g, Hk, wk, rp, fin⟩ := hsp
    have ok := ok_body (W := W) (outer := outer) (H := H) (E := E) w0 hw (fun f x df a fd ps h e d => defs_ok w0 W hw k f x df a fd ps h e d) S hN hr hg
    refine ⟨_, (ss_all n).b (Hk0 := Hk) (H0 := H) ok S.kind hc, Hk, startG N.length ds, g, Hk, ⟨wk, Step.refl wk.ex, [], ?_, List.nodup_nil, fun p hp => absurd hp (by simp)⟩, Ex.refl _, ?_⟩
    · unfold startG L2.start
      rw [rp.len]
      exact gm_start rp
    · have ed : den p (k + 1) f ds g = endR (evB p.cs (den p k) df.body (startG N.length ds) g) := by
        unfold den
        rw [e]
        have hpl : ps.length ≤ N.length := by have := congrArg List.length S.pre; rw [List.length_take] at this; omega
        simp only [h1, h2]
        rw [if_pos ⟨by rw [← rp.len]; exact hl, hpl⟩]
      rw [ed] at fin
      cases er : evB p.cs (den p k) df.body (startG N.length ds) g with
      | ok fl g' =>
        rw [er] at fin
        cases fl with
        | nx Γ' => exact fun σ' Hk' H' fr _ => fin Hk' H' fr.en fr.wk.dr .non rfl
        | rt d => exact fun v Hk' H' st dr r => fin Hk' H' st dr v r
      | ex c es g' => rw [er] at fin; exact fin
      | st => rw [er] at fin; exact fin
end
end Bk

set_option Elab.async false
set_option linter.all false
set_option maxRecDepth 100000
set_option maxHeartbeats 4000000
namespace Row
open PySem L2
def top (i : Nat) : Stmt := PySem.Challenge.pw_booklimits_k81_whole_plans.main.body.getD i (.Pass ⟨0, 0, 0, 0⟩)
abbrev sMixed : Stmt := top 27
abbrev sFolded : Stmt := top 28
abbrev sDraw : Stmt := top 29
abbrev sBegun : Stmt := top 30
abbrev sLaw : Stmt := top 44
end Row

set_option Elab.async false
set_option linter.all false
set_option maxRecDepth 100000
set_option maxHeartbeats 4000000
/-! The drawing helpers. -/
namespace Bk
open PySem PySem.Spec PyProof.Rows L2 Row
open Evl (Ex ex_l ex_t)
abbrev FnP (K : PySem.W.Frag) (x : Str) (st : Stmt) (f : Addr) (fd : FuncData) : Prop := FunD K x x (defArgs st) (defBody st) (defScope st) [] [] f fd
theorem FunD.okG {P : Program} {w : World} {K : PySem.W.Frag} {mg : Str → Option Value} {base : Heap} {x qual : Str} {params : Arguments} {body : List Stmt} {scope : Scope} {dvs : List V} {kws : List (Str × V)} {f : Addr} {fd : FuncData} {CX : CXT} {N ps : List Str} {k : Nat} {sp : Sp} (F : FunD K x qual params body scope dvs kws f fd) (S : FnScope N ps scope) (len : ∀ vs H Q E, sp vs H Q E → vs.length = ps.length)
    (hbody : ∀ (cdv : Value) (A : Around) (outer : List Env) (s : Shared) (H : Hp) (vs : List V) (Q : VK) (E : XK), Room k (A.deeper (envOfC qual scope s.heap.objs.size f cdv)) → (A.deeper (envOfC qual scope s.heap.objs.size f cdv)).guards = some [] → sp vs H Q E →
      ∃ t, PSs (cxOf CX P w K mg base N qual scope f cdv A outer s H E) body t ∧ t { nx := fun _ H' => Q .non H', rt := Q } (L2.start N vs) H) : FnOkG P w K mg base CX (k + 1) f fd ps sp := by
  obtain ⟨oc, od, dV, kV, doc, pm, an, cdv, ct, osl, rfl, lk, hcd, _, _⟩ := F.ex
  exact fn_ofG lk hcd S len fun A outer s H vs Q E hr hg hsp => hbody cdv A outer s H vs Q E hr hg hsp
def spMixed : Sp := fun vs H Q _ => ∃ c n : Int, vs = [.int c, .int n] ∧ 0 ≤ n ∧ n < 2 ^ 61 ∧ Q (.int (mixed c n)) H
section
variable {P : Program} {w : World} {K : PySem.W.Frag} {mg : Str → Option Value} {base : Heap} {f fM : Addr} {fd fdM : FuncData}
theorem scM : FnScope ["_law_cell", "_law_n", "_law_blend"] ["_law_cell", "_law_n"] (defScope sMixed) := ⟨rfl, rfl, rfl, by decide +kernel, rfl, by decide +kernel, by decide +kernel⟩
theorem ok_mixed (F : FnP K "_law_mixed" sMixed f fd) (gI : mg "int" = none) : FnOkG P w K mg base CX0 1 f fd ["_law_cell", "_law_n"] spMixed := by
  refine FunD.okG F scM (fun vs H Q E h => ?_) (fun cdv A outer s H vs Q E hr hgd h => ?_)
  · obtain ⟨c, n, rfl, _⟩ := h
    rfl
  · obtain ⟨c, n, rfl, h0, h1, q⟩ := h
    refine ⟨_, pss_cons (ps_set (i := 2) scM.nd rfl (Or.inl rfl) (pe_op op_add (pe_op op_add (pe_op op_mod (pe_callTy call_int1 rfl gI boot_int (pa_cons (pe_op op_mul (pe_op op_mul (pv 0) (pe_op op_add pe_int (pe_op op_mul pe_int (pv 1)))) pe_int) pa_nil)) pe_int) (pe_op op_mul (pe_op op_mul pe_int (pv 1)) (pv 1))) (pe_op op_mul pe_int (pv 1))))
      (pss_one (ps_ret (pe_op op_fdiv (pe_op op_mod (pe_callTy call_int1 rfl gI boot_int (pa_cons (pe_op op_mul (pv 2) pe_int) pa_nil)) pe_int) pe_int))), ?_⟩
    have b1 : CMul 2 n := .inl (by decide)
    have b2 : CMul c (1 + 2 * n) := .inr (by omega)
    have b3 : ∀ x, CMul x 48271 := fun x => .inr (by decide)
    have b4 : CMul 7919 n := .inl (by decide)
    have b5 : CMul (7919 * n) n := .inr (by omega)
    have b6 : CMul 104729 n := .inl (by decide)
    have b7 : ∀ x, CMul x 69621 := fun x => .inr (by decide)
    refine ⟨_, rfl, _, rfl, _, _, rfl, rfl, b1, _, _, rfl, rfl, _, _, rfl, rfl, b2, _, _, rfl, rfl, b3 _, .inl ⟨_, rfl, _, _, rfl, rfl, (show (0:Int) < 2147483647 by decide), _, rfl, _, _, rfl, rfl, b4, _, rfl, _, _, rfl, rfl, b5, _, _, rfl, rfl, _, rfl, _, _, rfl, rfl, b6, _, _, rfl, rfl, ?_⟩⟩
    exact ⟨_, rfl, _, _, rfl, rfl, b7 _, .inl ⟨_, rfl, _, _, rfl, rfl, (show (0:Int) < 2147483629 by decide), _, _, rfl, rfl, (by constructor <;> decide), q⟩⟩
theorem bM (F : FnP K "_law_mixed" sMixed f fd) : Binds K fd ["_law_cell", "_law_n"] [] := FunD.bindsN F fun _ _ _ _ _ _ us hl => match us, hl with | [_, _], _ => rfl
theorem ixN_nat {n : Nat} {i : Int} (h0 : 0 ≤ i) (h1 : i < n) : ixN n i = some i.toNat := by
  unfold ixN
  rw [if_pos h0, if_pos h1]
theorem atI_ints {cs : List Int} {i : Int} (h0 : 0 ≤ i) (h1 : i < cs.length) : atI (cs.map V.int) i = some (.int (cs.getD i.toNat 0)) := by
  unfold atI
  rw [List.length_map, ixN_nat h0 h1]
  show (cs.map V.int)[i.toNat]? = _
  have h2 : i.toNat < cs.length := by omega
  rw [List.getElem?_map, List.getD_eq_getElem?_getD, List.getElem?_eq_getElem h2]
  rfl
theorem lim_ok {l : Int} (h0 : 0 < l) (h1 : l < 2 ^ 4000) (x : Int) : CDivW x l := wide_div (b := 4000) h0 (by
  have e : ((l.natAbs : Nat) : Int) = l := Int.natAbs_of_nonneg (by omega)
  have e2 : (((2 ^ 4000 : Nat) : Nat) : Int) = 2 ^ 4000 := by push_cast; rfl
  have : ((l.natAbs : Nat) : Int) < ((2 ^ 4000 : Nat) : Int) := by rw [e, e2]; exact h1
  exact Int.ofNat_lt.mp this) (by decide) (by decide)
theorem map_set_int (ns : List Int) (i : Nat) (x : Int) : (ns.map V.int).set i (.int x) = (ns.set i x).map V.int := by
  rw [List.map_set]
abbrev nD : List Str := ["_law_m", "_law_limit", "_law_n", "_law_lot", "_law_here", "_law_cell"]
theorem scD : FnScope nD ["_law_m", "_law_limit"] (defScope sDraw) := ⟨rfl, rfl, rfl, by decide +kernel, rfl, by decide +kernel, by decide +kernel⟩
theorem dg_spot {W : Wd} {g : G} {H : Hp} (h : H W.am = some (mDict W g)) : DGet H W.am (.str "spot") (some (.int g.spot)) := DGet.k (k := .inr "spot") h
theorem dg_great {W : Wd} {g : G} {H : Hp} (h : H W.am = some (mDict W g)) : DGet H W.am (.str "great") (some (.ref W.ag)) := DGet.k (k := .inr "great") h
theorem dg_cells {W : Wd} {g : G} {H : Hp} (h : H W.am = some (mDict W g)) : DGet H W.am (.str "cells") (some (.ref W.ac)) := DGet.k (k := .inr "cells") h
theorem dp_spot {W : Wd} {g : G} {H : Hp} (s : Int) (h : H W.am = some (mDict W g)) : DPut H W.am (.str "spot") (.int s) (upd H W.am (mDict W { g with spot := s })) := DPut.k (k := .inr "spot") (v := .int s) h (by show 3 < sizeLine; decide)
theorem dps_ints (H : Hp) : ∀ ns : List Int, DpAll K H (ns.map V.int) (ns.map PyData.int)
  | [] => .nil
  | n :: ns => .cons (.int n) (dps_ints H ns)
theorem shp : SeqAt.shaped (.list []) = true := by decide
theorem clI : ∀ ns : List Int, PyData.canLayAll0 (ns.map PyData.int) = true
  | [] => rfl
  | n :: ns => by show (true && PyData.canLayAll0 (ns.map PyData.int)) = true; rw [clI ns]; rfl
theorem dpI : ∀ ns : List Int, PyData.depthAll (ns.map PyData.int) = 0
  | [] => rfl
  | n :: ns => by show max 0 (PyData.depthAll (ns.map PyData.int)) = 0; rw [dpI ns]; rfl
theorem shI (ns : List Int) : SeqAt.shaped (.list (ns.map PyData.int)) = true := by
  show (PyData.canLayAll0 (ns.map PyData.int) && decide (PyData.depthAll (ns.map PyData.int) + 1 ≤ 64)) = true
  rw [clI, dpI]
  rfl
theorem eqvI (ns : List Int) : PyData.eqv (.list (ns.map PyData.int)) (.list []) = decide (ns = []) := by
  cases ns <;> rfl
theorem ok_draw (W : Wd) (F : FnP K "_law_draw" sDraw f fd) (FM : FnP K "_law_mixed" sMixed fM fdM) (gM : mg "_law_mixed" = some (.ref fM)) (gI : mg "int" = none) (gL : mg "len" = none) : FnOkG P w K mg base CX0 2 f fd ["_law_m", "_law_limit"] (spDraw W) := by
  have GM : FnOkG P w K mg base CX0 1 fM fdM ["_law_cell", "_law_n"] spMixed := ok_mixed FM gI
  refine FunD.okG F scD (fun vs H Q E h => ?_) (fun cdv A outer s H vs Q E hr hgd h => ?_)
  · obtain ⟨lim, g, Hk, rfl, _⟩ := h
    rfl
  · obtain ⟨lim, g, Hk, rfl, wk, l0, l1, g0, q⟩ := h
    have hu : (A.deeper (envOfC "_law_draw" (defScope sDraw) s.heap.objs.size f cdv)).units + 1 < cLine := by have := hr.un; omega
    have hu64 : (A.deeper (envOfC "_law_draw" (defScope sDraw) s.heap.objs.size f cdv)).units + 64 < cLine := by have := hr.un; omega
    refine ⟨_, pss_cons (ps_set (i := 2) scD.nd rfl (Or.inl rfl) (pe_dget hu (pv 0) pe_str fun _ _ => rfl))
      (pss_cons (ps_dput hu (pv 0) pe_str (pe_op op_add (pv 2) pe_int) rfl)
      (pss_cons (ps_if (pt_cmpR (op_neD hu64) (pe_dget hu (pv 0) pe_str fun _ _ => rfl) (pe_lst pa_nil) (nomark _))
        (pss_cons (ps_set (i := 3) scD.nd rfl (Or.inl rfl) (pe_dget hu (pv 0) pe_str fun _ _ => rfl))
        (pss_cons (ps_set (i := 4) scD.nd rfl (Or.inl rfl) (pe_op op_mod (pe_callTy call_int1 rfl gI boot_int (pa_cons (pv 2) pa_nil)) (pe_callB call_len rfl gL boot_len (pa_cons (pv 3) pa_nil))))
        (pss_cons (ps_set (i := 5) scD.nd rfl (Or.inl rfl) (pe_ix ix_list (pv 3) (pv 4) fun _ _ => rfl))
        (pss_one (ps_if (pt_cmp (pc_gt (pv 5) pe_int))
          (pss_cons (ps_asg (pe_op op_fdivW (pv 5) (pv 1)) (pg_sub (pv 3) (pv 4) set_list))
          (pss_one (ps_ret (pe_op op_mod (pe_callTy call_int1 rfl gI boot_int (pa_cons (pv 5) pa_nil)) (pv 1)))))
          pss_nil)))))
        pss_nil)
      (pss_cons (ps_set (i := 3) scD.nd rfl (Or.inl rfl) (pe_dget hu (pv 0) pe_str fun _ _ => rfl))
      (pss_one (ps_ret (pe_op op_mod (pe_callTy call_int1 rfl gI boot_int (pa_cons (pe_callG GM hr hgd rfl gM FM.kp (bM FM) .nil pass0 (pa_cons (pe_callG GM hr hgd rfl gM FM.kp (bM FM) .nil pass0 (pa_cons (pe_op op_add (pe_ix ix_list (pv 3) (pe_op op_mod (pe_callTy call_int1 rfl gI boot_int (pa_cons (pv 2) pa_nil)) pe_int) fun _ _ => rfl) (pe_op op_mul pe_int (pe_op op_fdiv (pv 2) pe_int))) (pa_cons (pv 2) pa_nil)) rfl rfl rfl) (pa_cons (pe_op op_add (pv 2) pe_int) pa_nil)) rfl rfl rfl) pa_nil)) (pv 1))))))), ?_⟩
    refine ⟨_, rfl, W.am, _, rfl, dg_spot wk.dr.m, ?_⟩
    refine ⟨_, rfl, _, _, rfl, rfl, _, rfl, W.am, _, rfl, dp_spot (g.spot + 1) wk.dr.m, ?_⟩
    refine ⟨_, rfl, W.am, _, rfl, dg_great (g := { g with spot := g.spot + 1 }) upd_same, Nat.zero_le _, fun p hp => ?_⟩
    have npm : p ≠ W.am := fun e => by rw [e, upd_same] at hp; cases hp
    have hp0 : H p = none := by rw [upd_ne npm] at hp; exact hp
    have o := ex_upd_out wk.dr hp0
    have gc : W.ac ≠ W.am := wk.dr.mc.symm
    have gg : W.ag ≠ W.am := wk.dr.mg.symm
    have d2 : DrawAt W { g with spot := g.spot + 1 } (upd (upd H W.am (mDict W { g with spot := g.spot + 1 })) p (.lst [])) := by
      refine DrawAt.upd ⟨upd_same, ?_, ?_, wk.dr.ne, wk.dr.ok.len, wk.dr.ok.cel, ?_, wk.dr.ok.gl⟩ o
      · rw [upd_ne gc]; exact wk.dr.c
      · rw [upd_ne gg]; exact wk.dr.gr
      · have := wk.dr.ok.spot
        show (0 : Int) ≤ g.spot + 1
        omega
    have s2 : Step W Hk H Hk (upd (upd H W.am (mDict W { g with spot := g.spot + 1 })) p (.lst [])) := by
      refine ⟨Ex.refl _, fun b u hb => ?_, fun b u hb ho => ?_, fun b u hb => ?_, fun b u h1 h2 => by rw [h1] at h2; cases h2⟩
      · rw [upd_ne (ne_of_none (wk.ex b u hb) hp0), upd_ne (ne_of_none hb wk.m)]
        exact wk.ex b u hb
      · rw [upd_ne (ne_of_none hb hp0), upd_ne ho.1]
        exact hb
      · by_cases e : b = W.am
        · subst e; exact ⟨_, by rw [upd_ne (Ne.symm npm)]; exact upd_same⟩
        · exact ⟨u, by rw [upd_ne (ne_of_none hb hp0), upd_ne e]; exact hb⟩
    generalize hH2 : upd (upd H W.am (mDict W { g with spot := g.spot + 1 })) p (.lst []) = H2 at d2 s2 ⊢
    have hp2 : H2 p = some (.lst []) := by rw [← hH2]; exact upd_same
    have q2 : ∀ H', Step W Hk H2 Hk H' → DrawAt W (g.draw lim).2 H' → Q (.int (g.draw lim).1) H' := fun H' st d => q H' (s2.trans st) d
    have e2 : Ex Hk H2 := s2.kh
    have k2 : Wk W { g with spot := g.spot + 1 } Hk H2 := wk.step s2 d2
    refine ⟨_, _, .lst (SqL.of d2.gr) (dps_ints H2 g.great), .lst (SqL.of hp2) .nil, shI _, shp, _, rfl, ?_⟩
    rw [eqvI]
    have sp0 := wk.dr.ok.spot
    have c1 : atI (g.cells.map V.int) (g.spot % 64) = some (.int (g.cells.getD (g.spot % 64).toNat 0)) := atI_ints (by omega) (by rw [wk.dr.ok.len]; omega)
    have m1 : CMul 31 (g.spot / 64) := .inl (by decide)
    have z1 : g.spot < 2 ^ 61 := by omega
    have z2 : g.spot + 7 < 2 ^ 61 := by omega
    have z3 : 0 ≤ g.spot + 7 := by omega
    have mr : g.draw lim = (g.mix lim, { g with spot := g.spot + 1 }) → Q (.int (g.mix lim)) H2 := fun e => by
      have := q2 H2 (Step.refl e2) (by rw [e]; exact d2)
      rw [e] at this
      exact this
    by_cases hg : g.great = []
    · have ed : g.draw lim = (g.mix lim, { g with spot := g.spot + 1 }) := by unfold G.draw; rw [if_pos hg]
      rw [decide_eq_true hg]
      refine iteF ?_
      refine ⟨_, rfl, W.am, _, rfl, dg_cells d2.m, ?_⟩
      exact ⟨_, rfl, _, rfl, .inl ⟨_, rfl, _, _, rfl, rfl, (show (0:Int) < 64 by decide), _, _, _, _, rfl, rfl, SqL.of d2.c, c1, _, rfl, _, _, rfl, rfl, (by constructor <;> decide), _, _, rfl, rfl, m1, _, _, rfl, rfl, _, rfl, ⟨_, _, rfl, sp0, z1, _, rfl, _, _, rfl, rfl, ⟨_, _, rfl, z3, z2, .inl ⟨_, rfl, _, rfl, _, _, rfl, rfl, l0, mr ed⟩⟩⟩⟩⟩
    · rw [decide_eq_false hg]
      refine iteT ?_
      have hl : 0 < g.great.length := List.length_pos_iff.mpr hg
      have hl' : (0 : Int) < (((g.great.map V.int).length : Nat) : Int) := by rw [List.length_map]; omega
      have hr0 : 0 ≤ g.spot % (((g.great.map V.int).length : Nat) : Int) := Int.emod_nonneg _ (by omega)
      have hr1 : g.spot % (((g.great.map V.int).length : Nat) : Int) < ((g.great.length : Nat) : Int) := by
        have := Int.emod_lt_of_pos g.spot hl'
        rw [List.length_map] at this
        rw [List.length_map]
        exact this
      have hh : (g.spot % (((g.great.map V.int).length : Nat) : Int)).toNat = g.here := by rw [List.length_map]; rfl
      have c2 := atI_ints hr0 hr1
      rw [hh] at c2
      refine ⟨_, rfl, W.am, _, rfl, dg_great d2.m, ?_⟩
      refine ⟨_, rfl, .inl ⟨_, rfl, _, rfl, _, _, rfl, .inl ⟨_, SqL.of d2.gr, rfl⟩, _, _, rfl, rfl, hl', ?_⟩⟩
      refine ⟨_, rfl, _, rfl, _, _, _, _, rfl, rfl, SqL.of d2.gr, c2, ?_⟩
      refine ⟨_, rfl, _, _, rfl, rfl, decide (0 < g.great.getD g.here 0), rfl, ?_⟩
      by_cases hc : 0 < g.great.getD g.here 0
      · rw [decide_eq_true hc]
        refine iteT ?_
        have ed : g.draw lim = (g.great.getD g.here 0 % lim, { g with spot := g.spot + 1, great := g.great.set g.here (g.great.getD g.here 0 / lim) }) := by unfold G.draw; rw [if_neg hg, if_pos hc]
        refine ⟨_, rfl, _, rfl, _, _, rfl, rfl, lim_ok l0 l1 _, ?_⟩
        refine ⟨_, rfl, _, rfl, _, _, _, _, rfl, rfl, d2.gr, ixN_nat hr0 (by rw [List.length_map] at hr1 ⊢; exact hr1), ?_⟩
        refine ⟨_, rfl, .inl ⟨_, rfl, _, rfl, _, _, rfl, rfl, l0, ?_⟩⟩
        rw [hh, map_set_int]
        have := q2 (upd H2 W.ag (.lst ((g.great.set g.here (g.great.getD g.here 0 / lim)).map V.int))) ?_ ?_
        · rw [ed] at this; exact this
        · refine ⟨Ex.refl _, fun b u hb => ?_, fun b u hb ho => ?_, fun b u hb => ?_, fun b u h1 h2 => by rw [h1] at h2; cases h2⟩
          · rw [upd_ne (ne_of_none hb wk.gr)]; exact e2 b u hb
          · rw [upd_ne ho.2.2]; exact hb
          · by_cases e : b = W.ag
            · subst e; exact ⟨_, upd_same⟩
            · exact ⟨u, by rw [upd_ne e]; exact hb⟩
        · rw [ed]
          exact ⟨by rw [upd_ne gg.symm]; exact d2.m, by rw [upd_ne d2.ne]; exact d2.c, upd_same, d2.ne, d2.ok.len, d2.ok.cel, d2.ok.spot, by show (g.great.set _ _).length ≤ 63; rw [List.length_set]; exact d2.ok.gl⟩
      · have ed : g.draw lim = (g.mix lim, { g with spot := g.spot + 1 }) := by unfold G.draw; rw [if_neg hg, if_neg hc]
        rw [decide_eq_false hc]
        refine iteF ?_
        refine ⟨_, rfl, W.am, _, rfl, dg_cells d2.m, ?_⟩
        exact ⟨_, rfl, _, rfl, .inl ⟨_, rfl, _, _, rfl, rfl, (show (0:Int) < 64 by decide), _, _, _, _, rfl, rfl, SqL.of d2.c, c1, _, rfl, _, _, rfl, rfl, (by constructor <;> decide), _, _, rfl, rfl, m1, _, _, rfl, rfl, _, rfl, ⟨_, _, rfl, sp0, z1, _, rfl, _, _, rfl, rfl, ⟨_, _, rfl, z3, z2, .inl ⟨_, rfl, _, rfl, _, _, rfl, rfl, l0, mr ed⟩⟩⟩⟩⟩
end
end Bk

set_option Elab.async false
set_option linter.all false
set_option maxRecDepth 100000
set_option maxHeartbeats 4000000
/-! The beginning: _law_folded, _law_begun. -/
namespace Bk
open PySem PySem.Spec PyProof.Rows L2 Row
open Evl (Ex ex_l ex_t)
def CellsOk (cs : List Int) : Prop := cs.length = 64 ∧ ∀ c ∈ cs, 0 ≤ c ∧ c < 2 ^ 31
theorem CellsOk.set {cs : List Int} (h : CellsOk cs) (i : Nat) {x : Int} (h0 : 0 ≤ x) (h1 : x < 2 ^ 31) : CellsOk (cs.set i x) := by
  refine ⟨by rw [List.length_set]; exact h.1, fun c hc => ?_⟩
  rcases List.mem_or_eq_of_mem_set hc with e | e
  · exact h.2 c e
  · subst e; exact ⟨h0, h1⟩
theorem mod31 (x : Int) : 0 ≤ x % 2147483647 ∧ x % 2147483647 < 2 ^ 31 := by omega
def spFolded (K : PySem.W.Frag) : Sp := fun vs H Q _ => ∃ (a : Addr) (ns : List Int), vs = [.ref a] ∧ SqL K H a (ns.map V.int) ∧ ns.length ≤ 63 ∧
  ∀ (H' : Hp) (p : Addr) (cs : List Int), Ex H H' → H p = none → H' p = some (.lst (cs.map V.int)) → CellsOk cs → Q (.ref p) H'
theorem none_upd {H : Hp} {a b : Addr} {o : HO} (h : upd H a o b = none) : H b = none := by
  by_cases e : b = a
  · subst e; rw [upd_same] at h; cases h
  · rw [upd_ne e] at h; exact h
theorem four {σ : L2.St} {u v : V} (s0 : σ[0]? = some (some u)) (s1 : σ[1]? = some (some v)) (sl : σ.length = 4) : ∃ o2 o3, σ = [some u, some v, o2, o3] := by
  match σ, sl with
  | [a, b, c, d], _ =>
    simp at s0 s1
    subst s0 s1
    exact ⟨c, d, rfl⟩
theorem sqL_ex {K : PySem.W.Frag} {H H' : Hp} {a : Addr} {xs : List V} (e : Ex H H') (h : SqL K H a xs) : SqL K H' a xs := ex_l e h
section
variable {P : Program} {w : World} {K : PySem.W.Frag} {mg : Str → Option Value} {base : Heap} {f fF : Addr} {fd fdF : FuncData}
abbrev nF : List Str := ["_law_script", "_law_found", "_law_n", "_law_cell"]
theorem scF : FnScope nF ["_law_script"] (defScope sFolded) := ⟨rfl, rfl, rfl, by decide +kernel, rfl, by decide +kernel, by decide +kernel⟩
/-- the list at p, all else of H as it was -/
def FInv (H : Hp) (a p : Addr) (σ : L2.St) (H' : Hp) : Prop := σ[0]? = some (some (.ref a)) ∧ σ[1]? = some (some (.ref p)) ∧ σ.length = 4 ∧ H p = none ∧ Ex H H' ∧ ∃ cs, H' p = some (.lst (cs.map V.int)) ∧ CellsOk cs
theorem FInv.put {H H' : Hp} {a p : Addr} {σ : L2.St} {cs : List Int} (h0 : σ[0]? = some (some (.ref a))) (h1 : σ[1]? = some (some (.ref p))) (hl : σ.length = 4) (hp : H p = none) (e : Ex H H') (hc : CellsOk cs) : FInv H a p σ (upd H' p (.lst (cs.map V.int))) :=
  ⟨h0, h1, hl, hp, fun b u hb => by rw [upd_ne (ne_of_none hb hp)]; exact e b u hb, cs, upd_same, hc⟩
theorem ok_folded (F : FnP K "_law_folded" sFolded f fd) (gI : mg "int" = none) (gR : mg "range" = none) (gE : mg "enumerate" = none) : FnOkG P w K mg base CX0 1 f fd ["_law_script"] (spFolded K) := by
  refine FunD.okG F scF (fun vs H Q E h => ?_) (fun cdv A outer s H vs Q E hr hgd h => ?_)
  · obtain ⟨a, ns, rfl, _⟩ := h
    rfl
  · obtain ⟨a, ns, rfl, hS, hl, q⟩ := h
    have bo : BlkOk nF (defScope sFolded) ⟨.function, [(Str.ofString ".0", .local), (Str.ofString "_law_n", .local)], false, false, []⟩ [("_law_n", 2)] := blkOk_by (by decide +kernel)
    refine ⟨_, pss_cons (ps_setLc (i := 1) (own := [("_law_n", 2)]) rfl scF.nd rfl rfl (sw_true rfl rfl rfl (by decide +kernel)) (pi_range1 rfl gR (pa_cons pe_int pa_nil)) bo (fun _ _ _ _ _ => pg_name (i := 2) scF.nd rfl (Or.inl rfl) (Or.inr rfl)) (fun _ _ _ _ _ => pts_nil) (fun _ _ _ _ _ => pe_op op_add pe_int (pv 2)))
      (pss_cons (ps_for (passes_of rfl) rfl (pi_enum rfl gE (pa_cons (pv 0) pa_nil)) (pg_tup rfl (pgs_cons (pg_name (i := 2) scF.nd rfl (Or.inl rfl) (Or.inr rfl)) (pgs_cons (pg_name (i := 3) scF.nd rfl (Or.inl rfl) (Or.inr rfl)) pgs_nil)))
          (pss_one (ps_asg (pe_op op_mod (pe_callTy call_int1 rfl gI boot_int (pa_cons (pe_op op_add (pe_op op_mul (pe_ix ix_list (pv 1) (pe_op op_mod (pe_callTy call_int1 rfl gI boot_int (pa_cons (pv 2) pa_nil)) pe_int) fun _ _ => rfl) pe_int) (pv 3)) pa_nil)) pe_int)
            (pg_sub (pv 1) (pe_op op_mod (pe_callTy call_int1 rfl gI boot_int (pa_cons (pv 2) pa_nil)) pe_int) set_list))))
      (pss_cons (ps_for (passes_of rfl) rfl (pi_range2 rfl gR (pa_cons pe_int (pa_cons pe_int pa_nil))) (pg_name (i := 2) scF.nd rfl (Or.inl rfl) (Or.inr rfl))
          (pss_one (ps_asg (pe_op op_mod (pe_callTy call_int1 rfl gI boot_int (pa_cons (pe_op op_add (pe_ix ix_list (pv 1) (pv 2) fun _ _ => rfl) (pe_op op_mul (pe_ix ix_list (pv 1) (pe_op op_sub (pv 2) pe_int) fun _ _ => rfl) pe_int)) pa_nil)) pe_int)
            (pg_sub (pv 1) (pv 2) set_list))))
      (pss_one (ps_ret (pv 1))))), ?_⟩
    refine ⟨64, rfl, by decide, by decide, fun p hp => lc_range (fun i H' => ∃ cs : List Int, H' = upd H p (.lst (cs.map V.int)) ∧ cs.length = i ∧ ∀ c ∈ cs, 0 ≤ c ∧ c < 2 ^ 31) ⟨[], rfl, rfl, by simp⟩ (fun i H' hi ⟨cs, e, h1, h2⟩ => ?_) fun H' ⟨cs, e, h1, h2⟩ => ?_⟩
    · refine ⟨rfl, ?_⟩
      unfold tYes
      simp only [if_true]
      refine ⟨_, rfl, _, _, rfl, rfl, cs.map V.int, by rw [e]; exact upd_same, size_lt (by rw [List.length_map, h1]; omega), cs ++ [17 + (0 + (i : Int))], ?_, by simp [h1], fun c hc => ?_⟩
      · rw [e, upd_upd]
        congr 2
        rw [List.map_append]
        rfl
      · rcases List.mem_append.mp hc with z | z
        · exact h2 c z
        · have := List.mem_singleton.mp z
          omega
    · subst e
      refine ⟨_, rfl, a, ns.map V.int, rfl, ?_, for_it walk_enum (fun _ => FInv H a p) (FInv.put rfl rfl rfl hp (Ex.refl _) ⟨h1, h2⟩) (fun i σ H2 _ iv => sqL_ex iv.2.2.2.2.1 hS) (fun i x σ H2 H3 hi iv y => ?_) fun σ H2 iv => ?_⟩
      · exact sqL_ex (Evl.Ex.new hp) hS
      · obtain ⟨T, x1, x2, rfl, hT, rfl, e1, e2⟩ := y
        obtain ⟨s0, s1, sl, hp, ex, cs2, hc, ok⟩ := iv
        have nTp : p ≠ T := ne_of_none hc hT
        have hc3 : upd H2 T (.tup [x1, x2]) p = some (.lst (cs2.map V.int)) := by rw [upd_ne nTp]; exact hc
        have ex3 : Ex H (upd H2 T (.tup [x1, x2])) := ex.trans (Evl.Ex.new hT)
        cases e1
        have e2 : (ns.map V.int)[i]? = some x2 := e2
        rw [List.getElem?_map] at e2
        obtain ⟨n, _, rfl⟩ := Option.map_eq_some_iff.mp e2
        obtain ⟨o2, o3, rfl⟩ := four s0 s1 sl
        have hT3 : SqT K (upd H2 T (.tup [V.int (i : Nat), V.int n])) T [V.int (i : Nat), V.int n] := SqT.of upd_same
        generalize upd H2 T (.tup [V.int (i : Nat), V.int n]) = H3 at hc3 ex3 hT3 ⊢
        have r0 : 0 ≤ ((i : Nat) : Int) % 64 := by omega
        have r1 : ((i : Nat) : Int) % 64 < cs2.length := by rw [ok.1]; omega
        refine ⟨T, _, rfl, hT3, rfl, _, _, rfl, _, _, rfl, rfl, ?_⟩
        refine ⟨_, rfl, _, rfl, .inl ⟨_, rfl, _, _, rfl, rfl, (show (0:Int) < 64 by decide), _, _, _, _, rfl, rfl, SqL.of hc3, atI_ints r0 r1, _, _, rfl, rfl, .inr (by decide), _, rfl, _, _, rfl, rfl, .inl ⟨_, rfl, _, _, rfl, rfl, (show (0:Int) < 2147483647 by decide), ?_⟩⟩⟩
        refine ⟨_, rfl, _, rfl, .inl ⟨_, rfl, _, _, rfl, rfl, (show (0:Int) < 64 by decide), _, _, _, _, rfl, rfl, hc3, ixN_nat r0 (by rw [List.length_map]; exact r1), ?_⟩⟩
        rw [map_set_int]
        exact FInv.put rfl rfl rfl hp ex3 (ok.set _ (mod31 _).1 (mod31 _).2)
      · refine ⟨_, _, rfl, by decide, for_it walk_range (fun _ => FInv H a p) iv (fun _ _ _ _ _ => trivial) (fun i x σ H2 H3 hi iv y => ?_) fun σ H2 iv => ?_⟩
        · obtain ⟨rfl, rfl⟩ := y
          obtain ⟨s0, s1, sl, hp, ex, cs2, hc, ok⟩ := iv
          obtain ⟨o2, o3, rfl⟩ := four s0 s1 sl
          have hi : i < 63 := hi
          have r0 : 0 ≤ 1 + ((i : Nat) : Int) := by omega
          have r1 : 1 + ((i : Nat) : Int) < cs2.length := by rw [ok.1]; omega
          have t0 : 0 ≤ 1 + ((i : Nat) : Int) - 1 := by omega
          have t1 : 1 + ((i : Nat) : Int) - 1 < cs2.length := by rw [ok.1]; omega
          refine ⟨_, rfl, _, rfl, _, _, _, _, rfl, rfl, SqL.of hc, atI_ints r0 r1, _, rfl, _, rfl, _, _, rfl, rfl, _, _, _, _, rfl, rfl, SqL.of hc, atI_ints t0 t1, _, _, rfl, rfl, .inr (by decide), _, _, rfl, rfl, .inl ⟨_, rfl, _, _, rfl, rfl, (show (0:Int) < 2147483647 by decide), ?_⟩⟩
          refine ⟨_, rfl, _, rfl, _, _, _, _, rfl, rfl, hc, ixN_nat r0 (by rw [List.length_map]; exact r1), ?_⟩
          rw [map_set_int]
          exact FInv.put rfl rfl rfl hp ex (ok.set _ (mod31 _).1 (mod31 _).2)
        · obtain ⟨s0, s1, sl, hp, ex, cs2, hc, ok⟩ := iv
          exact ⟨_, s1, q H2 p cs2 ex hp hc ok⟩
theorem bF (F : FnP K "_law_folded" sFolded f fd) : Binds K fd ["_law_script"] [] := FunD.bindsN F fun _ _ _ _ _ _ us hl => match us, hl with | [_], _ => rfl
def spBegun (K : PySem.W.Frag) : Sp := fun vs H Q _ => ∃ (a : Addr) (ns : List Int), vs = [.ref a] ∧ SqL K H a (ns.map V.int) ∧ ns.length ≤ 63 ∧
  ∀ (H' : Hp) (W : Wd) (g : G), Ex H H' → H W.am = none → H W.ac = none → H W.ag = none → DrawAt W g H' → g.spot = 0 → Q (.ref W.am) H'
abbrev nB : List Str := ["_law_script", "_law_m", "_law_cell"]
theorem scB : FnScope nB ["_law_script"] (defScope sBegun) := ⟨rfl, rfl, rfl, by decide +kernel, rfl, by decide +kernel, by decide +kernel⟩
theorem ok_begun (F : FnP K "_law_begun" sBegun f fd) (FF : FnP K "_law_folded" sFolded fF fdF) (gF : mg "_law_folded" = some (.ref fF)) (gI : mg "int" = none) (gR : mg "range" = none) (gE : mg "enumerate" = none) : FnOkG P w K mg base CX0 2 f fd ["_law_script"] (spBegun K) := by
  have GF : FnOkG P w K mg base CX0 1 fF fdF ["_law_script"] (spFolded K) := ok_folded FF gI gR gE
  refine FunD.okG F scB (fun vs H Q E h => ?_) (fun cdv A outer s H vs Q E hr hgd h => ?_)
  · obtain ⟨a, ns, rfl, _⟩ := h
    rfl
  · obtain ⟨a, ns, rfl, hS, hl, q⟩ := h
    have hu : (A.deeper (envOfC "_law_begun" (defScope sBegun) s.heap.objs.size f cdv)).units + 1 < cLine := by have := hr.un; omega
    have bo : BlkOk nB (defScope sBegun) ⟨.function, [(Str.ofString ".0", .local), (Str.ofString "_law_cell", .local)], false, false, []⟩ [("_law_cell", 2)] := blkOk_by (by decide +kernel)
    refine ⟨_, pss_cons (ps_set (i := 1) scB.nd rfl (Or.inl rfl) (pe_disp (pps_cons pe_str (pe_callG GF hr hgd rfl gF FF.kp (bF FF) .nil pass0 (pa_cons (pv 0) pa_nil) rfl rfl rfl) (pps_cons pe_str (pe_lst pa_nil) (pps_cons pe_str pe_int pps_nil))) rfl rfl (by simp) (by decide)))
      (pss_cons (ps_dput hu (pv 1) pe_str (pe_lc (own := [("_law_cell", 2)]) rfl scB.nd (pi_list (pv 0)) bo (fun _ _ _ _ _ => pg_name (i := 2) scB.nd rfl (Or.inl rfl) (Or.inr rfl)) (fun _ _ _ _ _ => pts_nil) (fun _ _ _ _ _ => pe_ifExp (pt_cmp (pc_ge (pv 2) (pe_op op_pow pe_int pe_int))) (pv 2) pe_int)) rfl)
      (pss_one (ps_ret (pv 1)))), ?_⟩
    intro m hm
    refine ⟨_, rfl, a, ns, rfl, sqL_ex (Evl.Ex.new hm) hS, hl, fun H2 c cs ex hc h2 ok => ?_⟩
    have m2 : H2 m = some (.dK []) := ex m _ upd_same
    have ex0 : Ex H H2 := (Evl.Ex.new hm).trans ex
    refine ⟨Nat.zero_le _, fun gr hgr => ⟨?_, [(.inr "cells", .ref c), (.inr "great", .ref gr), (.inr "spot", .int 0)], rfl, (show 3 ≤ 15 by decide), ?_⟩⟩
    · rw [upd_ne (ne_of_none m2 hgr)]; exact m2
    have nmg : m ≠ gr := ne_of_none m2 hgr
    have ncg : c ≠ gr := ne_of_none h2 hgr
    have hc0 : H c = none := none_upd hc
    have nmc : m ≠ c := fun e => by rw [← e, upd_same] at hc; cases hc
    have hg0 : H gr = none := by
      cases z : H gr with
      | none => rfl
      | some o => rw [ex0 gr o z] at hgr; cases hgr
    have exm : Ex H (upd (upd H2 gr (.lst [])) m (.dK [(.inr "cells", .ref c), (.inr "great", .ref gr), (.inr "spot", .int 0)])) := fun b u hb => by
      rw [upd_ne (ne_of_none hb hm), upd_ne (ne_of_none hb hg0)]
      exact ex0 b u hb
    refine ⟨_, rfl, a, rfl, ⟨ns.map V.int, sqL_ex exm hS⟩, fun D hD => ?_⟩
    have hD : upd (upd H2 gr (.lst [])) m (.dK [(.inr "cells", .ref c), (.inr "great", .ref gr), (.inr "spot", .int 0)]) D = none := hD
    generalize hH4 : upd (upd H2 gr (.lst [])) m (.dK [(.inr "cells", .ref c), (.inr "great", .ref gr), (.inr "spot", .int 0)]) = H4 at exm hD
    have c4 : H4 c = some (.lst (cs.map V.int)) := by rw [← hH4, upd_ne (Ne.symm nmc), upd_ne ncg]; exact h2
    have m4 : H4 m = some (.dK [(.inr "cells", .ref c), (.inr "great", .ref gr), (.inr "spot", .int 0)]) := by rw [← hH4]; exact upd_same
    have hD0 : H D = none := by
      cases z : H D with
      | none => rfl
      | some o => rw [exm D o z] at hD; cases hD
    have nmD : m ≠ D := ne_of_none m4 hD
    have ncD : c ≠ D := ne_of_none c4 hD
    have hu4 : upd (upd H2 gr (.lst [])) m (.dK (mergeK [] [(.inr "cells", .ref c), (.inr "great", .ref gr), (.inr "spot", .int 0)])) = H4 := hH4
    rw [hu4]
    refine lc_list (xs := ns.map V.int) (fun i H' => ∃ xs : List Int, H' = upd H4 D (.lst (xs.map V.int)) ∧ xs.length = i) ⟨[], rfl, rfl⟩ (fun i H' _ ⟨xs, e, _⟩ => by rw [e]; exact sqL_ex (exm.trans (Evl.Ex.new hD)) hS) (fun i x H' hx ⟨xs, e, h1⟩ => ?_) fun H' ⟨xs, e, h1⟩ => ?_
    · rw [List.getElem?_map] at hx
      obtain ⟨n, hn, rfl⟩ := Option.map_eq_some_iff.mp hx
      have hi : i < ns.length := (List.getElem?_eq_some_iff.mp hn).1
      refine ⟨rfl, ?_⟩
      unfold tYes
      simp only [if_true]
      have last : ∀ y : Int, ∃ acc, H' D = some (.lst acc) ∧ acc.length < sizeLine ∧ ∃ ys : List Int, upd H' D (.lst (acc ++ [V.int y])) = upd H4 D (.lst (ys.map V.int)) ∧ ys.length = i + 1 := fun y => ⟨xs.map V.int, by rw [e]; exact upd_same, size_lt (by rw [List.length_map, h1]; omega), xs ++ [y], by rw [e, upd_upd, List.map_append]; rfl, by simp [h1]⟩
      refine ⟨_, rfl, _, _, rfl, rfl, by unfold CPow; decide, _, _, rfl, rfl, decide ((10 : Int) ^ (18 : Int).toNat ≤ n), rfl, ?_⟩
      by_cases hq : (10 : Int) ^ (18 : Int).toNat ≤ n
      · rw [decide_eq_true hq]
        refine iteT ?_
        exact ⟨_, rfl, last n⟩
      · rw [decide_eq_false hq]
        refine iteF ?_
        exact last 0
    · subst e
      have exD : Ex H (upd H4 D (.lst (xs.map V.int))) := exm.trans (Evl.Ex.new hD)
      refine ⟨_, rfl, m, _, rfl, DPut.k (k := .inr "great") (by rw [upd_ne nmD]; exact m4) (by show 3 < sizeLine; decide), ?_⟩
      refine ⟨_, rfl, ?_⟩
      refine q _ ⟨m, c, D, w⟩ ⟨cs, xs, 0⟩ (fun b u hb => ?_) hm hc0 hD0 ⟨upd_same, ?_, ?_, ncD, ok.1, ok.2, Int.le_refl _, ?_⟩ rfl
      · rw [upd_ne (ne_of_none hb hm)]
        exact exD b u hb
      · rw [upd_ne (Ne.symm nmc), upd_ne ncD]; exact c4
      · rw [upd_ne (Ne.symm nmD)]; exact upd_same
      · rw [List.length_map] at h1
        show xs.length ≤ 63
        omega
end
end Bk

set_option Elab.async false
set_option linter.all false
set_option maxRecDepth 100000
set_option maxHeartbeats 4000000
/-! The law's def, and its call behind the top (as the library's law_call, for promises that know the guards). -/
namespace Bk
open PySem PySem.Spec PyProof.Rows L2 Row
open Evl (Ex ex_l ex_t)
theorem law_callG {P : Program} {w : World} {K : PySem.W.Frag} {mg mb : Str → Option Value} {CX : CXT} {k : Nat} {fa a : Addr} {fd : FuncData} {x : Str} {sp : Sp} {s₁ : Shared} {vs : List Value} {ns : List Int}
    (KX : K.In s₁.heap) (hns : s₁.heap.Ns mainGlobals mg) (hb : s₁.heap.Ns builtinsNs mb) (hbb : ∀ x : Str, x ≠ "__name__" → mb x = bootBuiltins x) (hlim : s₁.heap.NoLimit) (hg : s₁.gens = #[])
    (ha : s₁.heap.get? a = some { cls := .type "list", data := .seq vs.toArray }) (hi : IntsAre vs ns) (hl : ns.length ≤ sizeLine) (hr : Room k callerA)
    (F : ∀ base : Heap, K.In base → base.Ns mainGlobals mg → FnOkG P w K mg base CX k fa fd [x] sp) (hbind : ∀ (s : Shared) (u : Value), BindsTo s fd ⟨[u], []⟩ [(x, u)])
    (hsp : ∀ H : Hp, Only H → SqL K H a (ns.map V.int) → sp [.ref a] H (fun v _ => v = .bl true) fun _ _ _ => False)
    (hCX : ∀ H e s', CX [] H s₁ (fun _ _ _ => False) e s' → False) :
    codeAny (model P w) callerA (.call (.ref fa) ⟨[.ref a], []⟩) (fun r s' => r = .ok (.ret (.bool true)) ∧ OldK s₁.heap s'.heap ∧ s'.os = s₁.os ∧ AllBare s'.gens) s₁ := by
  have core : ∀ H : Hp, Only H → SqL K H a (ns.map V.int) → HOk P w H s₁.heap → (∀ b, H b ≠ none → b = a) → (H a ≠ none → K.lookup a = none) →
      codeAny (model P w) callerA (.call (.ref fa) ⟨[.ref a], []⟩) (fun r s' => r = .ok (.ret (.bool true)) ∧ OldK s₁.heap s'.heap ∧ s'.os = s₁.os ∧ AllBare s'.gens) s₁ := by
    intro H hO hS hok hA hK
    have out : ∀ {b : Addr}, (H b ≠ none → b = a → False) → H b = none := fun {b} h => by
      cases q : H b with
      | none => rfl
      | some u => exact (h (by rw [q]; simp) (hA b (by rw [q]; simp))).elim
    have nsK : ∀ {b : Addr} {m : Str → Option Value}, s₁.heap.Ns b m → (hidT s₁.heap H).Ns b m := fun {b m} ⟨o, es, ep, e, d, r⟩ => ⟨o, es, ep, hidT_get e (out fun _ z => by
      subst z
      rw [ha] at e
      cases e
      have d' : Data.seq vs.toArray _ = Data.dict es ep := d
      cases d'), d, r⟩
    have hKb : K.In (hidT s₁.heap H) := fun b o e => hidT_get (KX b o e) (out fun z1 z => by
      subst z
      rw [hK z1] at e
      cases e)
    have hM : Mod K mg (hidT s₁.heap H) := ⟨hKb, nsK hns, ⟨mb, nsK hb, hbb⟩, let ⟨mc, h1, h2⟩ := hlim; ⟨mc, nsK h1, h2⟩⟩
    have e0 : Env0 P w K mg (hidT s₁.heap H) callerA [] s₁ H := ⟨rfl, hM, fun b o e => of_hidT e, Nat.le_of_eq (hidT_size _ _), trivial, fun b hb => absurd (show b ∈ ([] : List Addr) from hb) (by simp), hok, .of_eq hg⟩
    refine codeAny_mono ((F _ hKb (nsK hns)).run callerA [] s₁ H ⟨[.ref a], []⟩ [.ref a] [.ref a] _ _ hr rfl e0 (hbind s₁ (.ref a)) (.cons rfl .nil) (hsp H hO hS)) fun r s' h => ?_
    cases r with
    | error e => exact (hCX H e s' h).elim
    | ok fl =>
      cases fl with
      | next => exact False.elim h
      | brk => exact False.elim h
      | cont => exact False.elim h
      | ret u =>
        obtain ⟨v, H', os, bare, un, hok', r', q⟩ := h
        have q' : v = .bl true := q
        subst q'
        obtain rfl : u = Value.bool true := r'
        refine ⟨rfl, OldK.of_keep fun b o e => ?_, os, bare⟩
        rcases hO b with z | ⟨ob, xs, z⟩
        · exact un.keep b o e z (by intro z; exact absurd (show b ∈ ([] : List Addr) from z) (by simp)) (by simp)
        · obtain ⟨e1, _⟩ := hok b _ z
          obtain ⟨e2, _⟩ := hok' b _ (un.frzs b ob _ z)
          rw [e] at e1
          cases e1
          exact e2
  have rv := vals_ints hi
  cases hk : K.lookup a with
  | some o =>
    have e := KX a o hk
    rw [ha] at e
    cases e
    exact core (fun _ => none) (fun _ => .inl rfl) (.inr ⟨_, vs.toArray, _, hk, rfl, rfl, rfl, by rw [List.size_toArray, hi.length]; exact hl, by simpa using rv⟩) (fun b u z => nomatch (show (none : Option HO) = some u from z)) (fun b z => absurd rfl z) fun z => absurd rfl z
  | none =>
    have at_ : ∀ b, b ≠ a → (fun b => if b = a then some (HO.frz { cls := .type "list", data := .seq vs.toArray } (.lst (ns.map V.int))) else none) b = none := fun b hb => if_neg hb
    have aa : (fun b => if b = a then some (HO.frz { cls := .type "list", data := .seq vs.toArray } (.lst (ns.map V.int))) else none) a = some (HO.frz { cls := .type "list", data := .seq vs.toArray } (.lst (ns.map V.int))) := if_pos rfl
    generalize (fun b => if b = a then some (HO.frz { cls := .type "list", data := .seq vs.toArray } (.lst (ns.map V.int))) else none) = H at at_ aa
    refine core H (fun b => ?_) (.inl (.inr ⟨_, aa⟩)) (fun b u z => ?_) (fun b z => ?_) fun _ => hk
    · by_cases hb : b = a
      · subst hb; exact .inr ⟨_, _, aa⟩
      · exact .inl (at_ b hb)
    · by_cases hb : b = a
      · subst hb
        rw [aa] at z
        cases z
        exact ⟨ha, by rw [List.length_map]; exact hl, vs, _, rv, ha⟩
      · rw [at_ b hb] at z; cases z
    · by_cases hb : b = a
      · exact hb
      · exact absurd (at_ b hb) z
theorem walk_G {l : PySem.W.OpenLaw} {n k : Nat} {q : Program} {loose : List Str} {XP : (Str → Option Value) → Heap → Prop} {YP : World → Heap → Prop} {d : DefRec} {CX : CXT} {x : Str}
    (hn : l.most = some n) (hn2 : n ≤ sizeLine) (hdf : d.params.defaults = []) (hr : Room k callerA)
    (F : ∀ (w : World) (mg : Str → Option Value) (fa : Addr) (h : Heap), YP w h → h.Ns mainGlobals mg → mg d.name = some (.ref fa) →
      ∃ (K : PySem.W.Frag) (fd : FuncData) (sp : Sp), K.In h ∧ (∀ (s : Shared) (u : Value), BindsTo s fd ⟨[u], []⟩ [(x, u)]) ∧
        (∀ (H : Hp) (a : Addr) (ns : List Int), ns.length ≤ n → Only H → SqL K H a (ns.map V.int) → sp [.ref a] H (fun v _ => v = .bl true) fun _ _ _ => False) ∧
        ∀ base : Heap, K.In base → base.Ns mainGlobals mg → FnOkG l.prog w K mg base CX k fa fd [x] sp)
    (hCX : ∀ (H : Hp) (s : Shared) (e : Value) (s' : Shared), CX [] H s (fun _ _ _ => False) e s' → False) :
    PySem.W.WalkO q loose XP YP l.row.toRowW d [] (fun f vs => PySem.call f vs) := by
  refine Att.attach_call hn hdf fun w s₀ s₁ mg mb fa o pm cd doc a vs ns G Y ho hd hcd hmg hobj hints hlen hg => ?_
  obtain ⟨K, fd, sp, KX, hb, hsp, hF⟩ := F w mg fa _ Y G.T.g hmg
  exact law_callG KX G.T.g G.T.b G.T.builtins G.T.nolimit hg hobj hints (Nat.le_trans hlen hn2) hr hF hb (fun H hO hS => hsp H a ns hlen hO hS) fun H e s' => hCX H s₁ e s'
/-! ### the law's def -/
def spLaw (K : PySem.W.Frag) : Sp := fun vs H Q _ => ∃ (a : Addr) (ns : List Int), vs = [.ref a] ∧ SqL K H a (ns.map V.int) ∧ ns.length ≤ 63 ∧ ∀ H', Q (.bl true) H'
def gm0 (m : Nat) (ns : List Int) : Gm := .val (.scr ns) :: .val .m :: List.replicate m .no
section
variable {P : Program} {w : World} {K : PySem.W.Frag} {mg : Str → Option Value} {base : Heap} {pn : PrN} {p : Pr} {f fB : Addr} {fd fdB : FuncData}
theorem pss_ex {α : Type} {X : Cx} {st : List Stmt} {t : α → TS} (h : ∀ a, PSs X st (t a)) : PSs X st (fun D σ H => ∃ a, t a D σ H) := ⟨fun pins s σ H D I ⟨a, q⟩ => (h a).run pins s σ H D I q⟩
theorem ok_law (w0 : World0 P w K mg base pn p) {params : Arguments} {scope : Scope} {N : List Str} {n k : Nat} {lawB : B} {st0 : Stmt} {rest : List Stmt} {y : Str} {p1 p2 p3 p4 pos : Pos} (F : FunD K "law" "law" params (st0 :: rest) scope [] [] f fd) (S : FnScope ("_law_script" :: y :: N) ["_law_script"] scope) (hN : ∀ z ∈ (("_law_script" : Str) :: y :: N), okN z = true)
    (e0 : st0 = .Assign [.Name y p1] (.Call (.Name "_law_begun" p2) [.Name "_law_script" p3] [] p4) pos) (hy : locB ⟨[], scope, fun _ => true⟩ y = true) (hgb : scope.names.lookup ("_law_begun" : Str) = some .globalImplicit)
    (gB : mg "_law_begun" = some (.ref fB)) (kB : PySem.W.keepIn K (.ref fB) = true) (bB : Binds K fdB ["_law_script"] []) (GB : FnOkG P w K mg base CX0 2 fB fdB ["_law_script"] (spBegun K))
    (hc : chkB n pn ⟨"_law_script" :: y :: N, scope, fun _ => true⟩ rest lawB = true)
    (hlaw : ∀ (ns : List Int) (g : G), ns.length ≤ 63 → GOk g → g.spot = 0 → ∃ g', evB p.cs (den p k) lawB (gm0 N.length ns) g = .ok (.rt (.bl true)) g') :
    FnOkG P w K mg base CX0 (k + 3) f fd ["_law_script"] (spLaw K) := by
  refine FunD.okG F S (fun vs H Q E h => ?_) (fun cdv A outer s H vs Q E hr hgd h => ?_)
  · obtain ⟨a, ns, rfl, _⟩ := h
    rfl
  · obtain ⟨a, ns, rfl, hS, hl, q⟩ := h
    subst e0
    have hy' : Loc scope y := by
      unfold locB at hy
      split at hy
      · rename_i e; exact .inl e
      · rename_i e; exact .inr e
      · cases hy
    have vs0 : Vis scope "_law_script" := by
      rcases S.par "_law_script" (by simp) with z | z
      · exact .inl z
      · exact .inr (.inl z)
    have ok := fun (W : Wd) (hw : W.w = w) => ok_body (W := W) (outer := outer) (H := H) (E := E) w0 hw (fun f x df a fd ps h e d => defs_ok w0 W hw k f x df a fd ps h e d) S hN hr hgd
    refine ⟨_, pss_cons (ps_set (i := 1) S.nd rfl hy' (pe_callG (GB.mono (Nat.le_add_left 2 k)) hr hgd hgb gB kB bB .nil pass0 (pa_cons (pe_var (i := 0) rfl vs0) pa_nil) rfl rfl rfl) rfl (Or.inl rfl)) (pss_ex fun (z : { W : Wd // W.w = w } × Hp × Hp) => (ss_all n).b (Hk0 := z.2.1) (H0 := z.2.2) (ok z.1.1 z.1.2) S.kind hc), ?_⟩
    refine ⟨_, rfl, a, ns, rfl, hS, hl, fun H' W g ex h1 h2 h3 dr0 sp0 => ?_⟩
    have dr : DrawAt { W with w := w } g H' := ⟨dr0.m, dr0.c, dr0.gr, dr0.ne, dr0.ok⟩
    obtain ⟨g', eg⟩ := hlaw ns g hl dr.ok sp0
    refine ⟨(⟨{ W with w := w }, rfl⟩, H, H'), H, gm0 N.length ns, g, H, ⟨⟨ex, h1, h2, h3, dr⟩, Step.refl ex, [], ?_, List.nodup_nil, fun p hp => absurd hp (by simp)⟩, Ex.refl _, ?_⟩
    · have es : (L2.start (("_law_script" : Str) :: y :: N) [V.ref a]).set 1 (some (V.ref W.am)) = some (V.ref a) :: some (V.ref W.am) :: List.replicate N.length none := by
        unfold L2.start
        simp
        rfl
      rw [es]
      exact .val ⟨a, rfl, hS⟩ (.val rfl (gm_no _))
    · rw [eg]
      intro v Hk' H'' _ _ r
      have r : v = .bl true := r
      subst r
      exact q H''
end
end Bk

set_option Elab.async false
set_option linter.all false
namespace Bk
open PySem
/-! ### the compact program -/
def FUEL : Nat := 10 ^ 200
def n__law_like : List Str := ["_law_answer", "_law_due"]
def b__law_like : B := (.cons (.ret (.cmp .eq (.bi .repr (.cons (.var 0) .nil)) (.bi .repr (.cons (.var 1) .nil)))) .nil)
abbrev f__law_like : Nat × Df := (17, ⟨2, 2, b__law_like⟩)
def n__law_hall : List Str := ["_law_m", "_law_seats", "_law_fares_here"]
def b__law_hall : B := (.cons (.ret (.tup (.cons (.bin .add (.cst (.int 1)) (.draw (.var 0) (.var 1))) (.cons (.call 1 (.cons (.var 0) (.cons (.var 2) .nil))) .nil)))) .nil)
abbrev f__law_hall : Nat × Df := (86, ⟨3, 3, b__law_hall⟩)
def n__law_rule : List Str := ["_law_m", "_law_hall_so", "_law_some", "_law_k", "_law_other"]
def b__law_rule : B := (.cons (.asg (.var 2) (.call 88 (.cons (.var 0) (.cons (.var 1) .nil)))) (.cons (.for_ (.var 3) (.rng1 (.draw (.var 0) (.cst (.int 3)))) (.cons (.asg (.var 4) (.call 88 (.cons (.var 0) (.cons (.var 1) .nil)))) (.cons (.asg (.var 2) (.call 9 (.cons (.var 0) (.cons (.lst (.cons (.tup (.cons (.cst (.str "all")) (.cons (.var 2) (.cons (.var 4) .nil)))) (.cons (.tup (.cons (.cst (.str "any")) (.cons (.var 2) (.cons (.var 4) .nil)))) (.cons (.tup (.cons (.cst (.str "any")) (.cons (.var 4) (.cons (.var 2) .nil)))) .nil)))) .nil)))) .nil))) (.cons (.ret (.ife (.cmp .eq (.draw (.var 0) (.cst (.int 3))) (.cst (.int 0))) (.tup (.cons (.cst (.str "oust")) (.cons (.var 2) (.cons (.call 9 (.cons (.var 0) (.cons (.lst (.cons (.cst (.int 0)) (.cons (.cst (.int 1)) (.cons (.cst (.int 5)) (.cons (.cst (.int 99)) .nil))))) .nil))) .nil)))) (.var 2))) .nil)))
abbrev f__law_rule : Nat × Df := (87, ⟨2, 5, b__law_rule⟩)
def n__law_near : List Str := ["_law_m", "_law_hall_so", "_law_some", "_law_pick", "_law_far"]
def b__law_near : B := (.cons (.asg (.var 3) (.draw (.var 0) (.cst (.int 5)))) (.cons (.ife (.cmp .eq (.var 3) (.cst (.int 0))) (.cons (.ret (.call 87 (.cons (.var 0) (.cons (.var 1) .nil)))) .nil) .nil) (.cons (.ife (.and (.cmp .isin (.idx (.var 2) (.cst (.int 0))) (.tup (.cons (.cst (.str "all")) (.cons (.cst (.str "any")) .nil)))) (.cmp .lt (.var 3) (.cst (.int 4)))) (.cons (.ret (.tup (.cons (.idx (.var 2) (.cst (.int 0))) (.cons (.ife (.cmp .eq (.var 3) (.cst (.int 1))) (.idx (.var 2) (.cst (.int 2))) (.idx (.var 2) (.cst (.int 1)))) (.cons (.ife (.cmp .eq (.var 3) (.cst (.int 1))) (.idx (.var 2) (.cst (.int 1))) (.call 88 (.cons (.var 0) (.cons (.var 1) .nil)))) .nil))))) .nil) .nil) (.cons (.ife (.cmp .eq (.idx (.var 2) (.cst (.int 0))) (.cst (.str "oust"))) (.cons (.ret (.ife (.cmp .lt (.var 3) (.cst (.int 3))) (.tup (.cons (.cst (.str "oust")) (.cons (.idx (.var 2) (.cst (.int 1))) (.cons (.call 9 (.cons (.var 0) (.cons (.lst (.cons (.cst (.int 0)) (.cons (.cst (.int 1)) (.cons (.cst (.int 5)) (.cons (.cst (.int 99)) .nil))))) .nil))) .nil)))) (.idx (.var 2) (.cst (.int 1))))) .nil) .nil) (.cons (.ife (.cmp .isin (.idx (.var 2) (.cst (.int 0))) (.tup (.cons (.cst (.str "all")) (.cons (.cst (.str "any")) .nil)))) (.cons (.ret (.call 9 (.cons (.var 0) (.cons (.sl (.var 2) (some (.cst (.int 1))) none) .nil)))) .nil) .nil) (.cons (.asg (.var 4) (.call 88 (.cons (.var 0) (.cons (.var 1) .nil)))) (.cons (.ret (.call 9 (.cons (.var 0) (.cons (.lst (.cons (.tup (.cons (.cst (.str "all")) (.cons (.var 2) (.cons (.var 2) .nil)))) (.cons (.tup (.cons (.cst (.str "any")) (.cons (.var 2) (.cons (.var 2) .nil)))) (.cons (.tup (.cons (.cst (.str "all")) (.cons (.var 2) (.cons (.var 4) .nil)))) .nil)))) .nil)))) .nil)))))))
abbrev f__law_near : Nat × Df := (89, ⟨3, 5, b__law_near⟩)
def n__law_parting : List Str := ["_law_hall_so", "_law_some", "_law_other", "_law_none", "_law_known", "_law_layer", "_law_further", "_law_found", "_law_sold_so", "_law_row_so", "_law_k", "_law_fresh", "_law_paid_so", "_law_deed"]
def b__law_parting : B := (.cons (.asg (.var 3) (.bin .mul (.tup (.cons (.cst (.int 0)) .nil)) (.bi .len (.cons (.idx (.var 0) (.cst (.int 1))) .nil)))) (.cons (.par [(4, true), (5, false)] (.cons (.done (.var 3) (.cst (.bl true))) (.cons (.lst (.cons (.tup (.cons (.var 3) (.cons (.tup .nil) .nil))) .nil)) .nil))) (.cons (.whl FUEL (.cmp .ne (.var 5) (.lst .nil)) (.cons (.par [(6, true), (7, true)] (.cons (.lst .nil) (.cons (.lst .nil) .nil))) (.cons (.for_ (.tup [(.var 8), (.var 9)]) (.seq (.var 5)) (.cons (.for_ (.var 10) (.rng1 (.bi .len (.cons (.var 3) .nil))) (.cons (.asg (.tup [(.var 11), (.var 12), (.var 13)]) (.call 80 (.cons (.var 0) (.cons (.var 1) (.cons (.var 8) (.cons (.cst (.int 0)) (.cons (.var 10) .nil))))))) (.cons (.ife (.cmp .ne (.var 13) (.idx (.call 80 (.cons (.var 0) (.cons (.var 2) (.cons (.var 8) (.cons (.cst (.int 0)) (.cons (.var 10) .nil)))))) (.cst (.int 2)))) (.cons (.app 7 (.bin .add (.var 9) (.tup (.cons (.var 10) .nil)))) .nil) (.cons (.ife (.inO true (.var 11) 4) (.cons (.sto 4 (.var 11) (.cst (.bl true))) (.cons (.app 6 (.tup (.cons (.var 11) (.cons (.bin .add (.var 9) (.tup (.cons (.var 10) .nil))) .nil)))) .nil)) .nil) .nil)) .nil))) .nil)) (.cons (.frz 7) (.cons (.ife (.cmp .ne (.var 7) (.lst .nil)) (.cons (.frz 7) (.cons (.ret (.bi .mind (.cons (.var 7) .nil))) .nil)) .nil) (.cons (.frz 6) (.cons (.asg (.var 5) (.bi .list (.cons (.var 6) .nil))) .nil))))))) (.cons (.ret (.cst .non)) .nil))))
abbrev f__law_parting : Nat × Df := (90, ⟨3, 14, b__law_parting⟩)
def n_parting_row : List Str := ["hall", "rule", "other", "layer", "known", "further", "sold", "row", "fare", "fresh", "paid", "deed"]
def b_parting_row : B := (.cons (.expr (.call 64 (.cons (.var 0) (.cons (.var 1) .nil)))) (.cons (.expr (.call 64 (.cons (.var 0) (.cons (.var 2) .nil)))) (.cons (.par [(3, false), (4, true)] (.cons (.lst (.cons (.tup (.cons (.call 67 (.cons (.var 0) .nil)) (.cons (.tup .nil) .nil))) .nil)) (.cons (.done (.call 67 (.cons (.var 0) .nil)) (.cst (.bl true))) .nil))) (.cons (.whl FUEL (.cmp .ne (.var 3) (.lst .nil)) (.cons (.own 5 (.lst .nil)) (.cons (.for_ (.tup [(.var 6), (.var 7)]) (.seq (.var 3)) (.cons (.for_ (.var 8) (.seq (.call 92 (.cons (.var 0) (.cons (.glb 12) (.cons (.tup (.cons (.var 6) (.cons (.cst (.int 0)) (.cons (.var 6) (.cons (.neg (.cst (.int 1))) .nil))))) .nil))))) (.cons (.asg (.tup [(.var 9), (.var 10), (.var 11)]) (.call 71 (.cons (.var 0) (.cons (.var 1) (.cons (.var 6) (.cons (.cst (.int 0)) (.cons (.var 8) .nil))))))) (.cons (.ife (.cmp .ne (.var 11) (.idx (.call 71 (.cons (.var 0) (.cons (.var 2) (.cons (.var 6) (.cons (.cst (.int 0)) (.cons (.var 8) .nil)))))) (.cst (.int 2)))) (.cons (.ret (.tupS (.star (.var 7) (.cons (.var 8) .nil)))) .nil) .nil) (.cons (.ife (.inO true (.var 9) 4) (.cons (.sto 4 (.var 9) (.cst (.bl true))) (.cons (.app 5 (.tup (.cons (.var 9) (.cons (.tupS (.star (.var 7) (.cons (.var 8) .nil))) .nil)))) .nil)) .nil) .nil)))) .nil)) (.cons (.frz 5) (.cons (.asg (.var 3) (.bi .list (.cons (.var 5) .nil))) .nil))))) (.cons (.ret (.cst .non)) .nil)))))
abbrev f_parting_row : Nat × Df := (91, ⟨3, 12, b_parting_row⟩)
def n__law_fares : List Str := ["_law_m", "_law_most", "_law_k", "_law_found", "_law_last"]
def b__law_fares : B := (.cons (.asg (.tup [(.var 3), (.var 4)]) (.tup (.cons (.tup .nil) (.cons (.cst (.int 0)) .nil)))) (.cons (.for_ (.var 2) (.rng1 (.bin .add (.cst (.int 1)) (.draw (.var 0) (.var 1)))) (.cons (.asg (.var 4) (.bin .add (.bin .add (.var 4) (.cst (.int 1))) (.draw (.var 0) (.idx (.lst (.cons (.cst (.int 3)) (.cons (.cst (.int 24)) .nil))) (.draw (.var 0) (.cst (.int 2))))))) (.cons (.asg (.var 3) (.bin .add (.var 3) (.tup (.cons (.var 4) .nil)))) .nil))) (.cons (.ret (.var 3)) .nil)))
abbrev f__law_fares : Nat × Df := (1, ⟨2, 5, b__law_fares⟩)
def n__law_plain : List Str := ["_law_m", "_law_hall_so", "_law_word", "_law_limits", "_law_k"]
def b__law_plain : B := (.cons (.asg (.var 2) (.call 9 (.cons (.var 0) (.cons (.lst (.cons (.cst (.str "nested")) (.cons (.cst (.str "nested")) (.cons (.cst (.str "apart")) (.cons (.cst (.str "kept")) .nil))))) .nil)))) (.cons (.asg (.var 3) (.lc (.draw (.var 0) (.bin .add (.idx (.var 1) (.cst (.int 0))) (.cst (.int 1)))) (.var 4) (.seq (.idx (.var 1) (.cst (.int 1)))) none)) (.cons (.ret (.tup (.cons (.var 2) (.cons (.bi .tuple (.cons (.ife (.cmp .eq (.var 2) (.cst (.str "nested"))) (.bi .sorted (.cons (.var 3) .nil)) (.var 3)) .nil)) .nil)))) .nil)))
abbrev f__law_plain : Nat × Df := (88, ⟨2, 5, b__law_plain⟩)
def n__law_of : List Str := ["_law_m", "_law_some"]
def b__law_of : B := (.cons (.ret (.idx (.var 1) (.draw (.var 0) (.bi .len (.cons (.var 1) .nil))))) .nil)
abbrev f__law_of : Nat × Df := (9, ⟨2, 2, b__law_of⟩)
def n__law_deal : List Str := ["_law_hall_so", "_law_some", "_law_sold_so", "_law_paid_so", "_law_k", "_law_cheap", "_law_j"]
def b__law_deal : B := (.cons (.ife (.and (.cmp .lt (.bi .sum (.cons (.var 2) .nil)) (.idx (.var 0) (.cst (.int 0)))) (.call 84 (.cons (.idx (.var 0) (.cst (.int 0))) (.cons (.var 1) (.cons (.var 2) (.cons (.var 4) .nil)))))) (.cons (.ret (.tup (.cons (.call 85 (.cons (.var 2) (.cons (.var 4) (.cons (.cst (.int 1)) .nil)))) (.cons (.var 3) (.cons (.cst (.str "taken")) .nil))))) .nil) .nil) (.cons (.asg (.var 5) (.lc (.var 6) (.var 6) (.rng1 (.var 4)) (some (.cmp .gt (.idx (.var 2) (.var 6)) (.cst (.int 0)))))) (.cons (.ife (.and (.cmp .eq (.idx (.var 1) (.cst (.int 0))) (.cst (.str "oust"))) (.and (.cmp .ne (.var 5) (.lst .nil)) (.cmp .gt (.bin .sub (.idx (.idx (.var 0) (.cst (.int 1))) (.var 4)) (.idx (.idx (.var 0) (.cst (.int 1))) (.idx (.var 5) (.cst (.int 0))))) (.idx (.var 1) (.cst (.int 2)))))) (.cons (.ret (.tup (.cons (.call 85 (.cons (.call 85 (.cons (.var 2) (.cons (.idx (.var 5) (.cst (.int 0))) (.cons (.neg (.cst (.int 1))) .nil)))) (.cons (.var 4) (.cons (.cst (.int 1)) .nil)))) (.cons (.bin .add (.var 3) (.idx (.var 1) (.cst (.int 2)))) (.cons (.cst (.str "ousted")) .nil))))) .nil) .nil) (.cons (.ret (.tup (.cons (.var 2) (.cons (.var 3) (.cons (.cst (.str "refused")) .nil))))) .nil))))
abbrev f__law_deal : Nat × Df := (80, ⟨5, 7, b__law_deal⟩)
def n_need_rule : List Str := ["hall", "rule", "waiting", "many", "here", "path", "spot"]
def b_need_rule : B := (.cons (.expr (.call 61 (.cons (.var 0) .nil))) (.cons (.par [(2, true), (3, false)] (.cons (.lst (.cons (.tup (.cons (.var 1) (.cons (.tup .nil) .nil))) .nil)) (.cons (.cst (.int 0)) .nil))) (.cons (.whl FUEL (.emO true 2) (.cons (.pop (.tup [(.var 4), (.var 5)]) 2) (.cons (.aug 3 (.cst (.int 1))) (.cons (.ife (.or (.cmp .gt (.var 3) (.glb 8)) (.or (.cmp .gt (.bi .len (.cons (.var 5) .nil)) (.glb 7)) (.not (.call 69 (.cons (.var 0) (.cons (.var 4) (.cons (.cmp .eq (.var 5) (.tup .nil)) .nil))))))) (.cons .stop .nil) .nil) (.cons (.ext 2 (.lc (.tup (.cons (.idx (.var 4) (.var 6)) (.cons (.tupS (.star (.var 5) (.cons (.var 6) .nil))) .nil))) (.var 6) (.seq (.rev (.call 70 (.cons (.var 4) .nil)))) none)) .nil))))) (.cons (.ret (.var 1)) .nil))))
abbrev f_need_rule : Nat × Df := (64, ⟨2, 7, b_need_rule⟩)
def n_none_of : List Str := ["hall"]
def b_none_of : B := (.cons (.ret (.bin .mul (.tup (.cons (.cst (.int 0)) .nil)) (.bi .len (.cons (.idx (.var 0) (.cst (.int 1))) .nil)))) .nil)
abbrev f_none_of : Nat × Df := (67, ⟨1, 1, b_none_of⟩)
def n_fares_at : List Str := ["hall", "kind", "state", "first"]
def b_fares_at : B := (.cons (.asg (.var 3) (.ife (.cmp .eq (.var 1) (.glb 19)) (.bi .max2 (.cons (.cst (.int 0)) (.cons (.idx (.var 2) (.cst (.int 3))) .nil))) (.cst (.int 0)))) (.cons (.ret (.lrng2 (.var 3) (.bi .len (.cons (.idx (.var 0) (.cst (.int 1))) .nil)))) .nil))
abbrev f_fares_at : Nat × Df := (92, ⟨3, 4, b_fares_at⟩)
def n_step_of : List Str := ["hall", "rule", "sold", "paid", "fare", "least"]
def b_step_of : B := (.cons (.ife (.and (.cmp .lt (.bi .sum (.cons (.var 2) .nil)) (.idx (.var 0) (.cst (.int 0)))) (.call 75 (.cons (.var 0) (.cons (.var 1) (.cons (.var 2) (.cons (.var 4) .nil)))))) (.cons (.ret (.tup (.cons (.call 72 (.cons (.var 2) (.cons (.var 4) (.cons (.cst (.int 1)) .nil)))) (.cons (.var 3) (.cons (.glb 16) .nil))))) .nil) .nil) (.cons (.asg (.var 5) (.call 73 (.cons (.var 2) .nil))) (.cons (.ife (.and (.cmp .eq (.idx (.var 1) (.cst (.int 0))) (.glb 15)) (.and (.cmp .notN (.var 5) (.cst .non)) (.and (.cmp .lt (.var 5) (.var 4)) (.cmp .gt (.bin .sub (.idx (.idx (.var 0) (.cst (.int 1))) (.var 4)) (.idx (.idx (.var 0) (.cst (.int 1))) (.var 5))) (.idx (.var 1) (.cst (.int 2))))))) (.cons (.ret (.tup (.cons (.call 72 (.cons (.call 72 (.cons (.var 2) (.cons (.var 5) (.cons (.neg (.cst (.int 1))) .nil)))) (.cons (.var 4) (.cons (.cst (.int 1)) .nil)))) (.cons (.bin .add (.var 3) (.idx (.var 1) (.cst (.int 2)))) (.cons (.glb 17) .nil))))) .nil) .nil) (.cons (.ret (.tup (.cons (.var 2) (.cons (.var 3) (.cons (.glb 18) .nil))))) .nil))))
abbrev f_step_of : Nat × Df := (71, ⟨5, 6, b_step_of⟩)
def n__law_lets_84 : List Str := ["_law_seats_so", "_law_some", "_law_sold_so", "_law_k", "_law_j"]
def b__law_lets_84 : B := (.cons (.ife (.cmp .eq (.idx (.var 1) (.cst (.int 0))) (.cst (.str "all"))) (.cons (.ret (.and (.call 84 (.cons (.var 0) (.cons (.idx (.var 1) (.cst (.int 1))) (.cons (.var 2) (.cons (.var 3) .nil))))) (.call 84 (.cons (.var 0) (.cons (.idx (.var 1) (.cst (.int 2))) (.cons (.var 2) (.cons (.var 3) .nil))))))) .nil) .nil) (.cons (.ife (.cmp .eq (.idx (.var 1) (.cst (.int 0))) (.cst (.str "any"))) (.cons (.ret (.or (.call 84 (.cons (.var 0) (.cons (.idx (.var 1) (.cst (.int 1))) (.cons (.var 2) (.cons (.var 3) .nil))))) (.call 84 (.cons (.var 0) (.cons (.idx (.var 1) (.cst (.int 2))) (.cons (.var 2) (.cons (.var 3) .nil))))))) .nil) .nil) (.cons (.ife (.cmp .eq (.idx (.var 1) (.cst (.int 0))) (.cst (.str "oust"))) (.cons (.ret (.call 84 (.cons (.var 0) (.cons (.idx (.var 1) (.cst (.int 1))) (.cons (.var 2) (.cons (.var 3) .nil)))))) .nil) .nil) (.cons (.ife (.cmp .eq (.idx (.var 1) (.cst (.int 0))) (.cst (.str "apart"))) (.cons (.ret (.cmp .lt (.idx (.var 2) (.var 3)) (.idx (.idx (.var 1) (.cst (.int 1))) (.var 3)))) .nil) .nil) (.cons (.ife (.cmp .eq (.idx (.var 1) (.cst (.int 0))) (.cst (.str "kept"))) (.cons (.ret (.cmp .gt (.bin .sub (.var 0) (.bi .sum (.cons (.var 2) .nil))) (.idx (.idx (.var 1) (.cst (.int 1))) (.var 3)))) .nil) .nil) (.cons (.for_ (.var 4) (.rng2 (.var 3) (.bi .len (.cons (.var 2) .nil))) (.cons (.ife (.cmp .ge (.bi .sum (.cons (.sl (.var 2) none (some (.bin .add (.var 4) (.cst (.int 1))))) .nil)) (.idx (.idx (.var 1) (.cst (.int 1))) (.var 4))) (.cons (.ret (.cst (.bl false))) .nil) .nil) .nil)) (.cons (.ret (.cst (.bl true))) .nil)))))))
abbrev f__law_lets_84 : Nat × Df := (84, ⟨4, 5, b__law_lets_84⟩)
def n__law_more : List Str := ["_law_counts", "_law_k", "_law_more_here"]
def b__law_more : B := (.cons (.ret (.bin .add (.bin .add (.sl (.var 0) none (some (.var 1))) (.tup (.cons (.bin .add (.idx (.var 0) (.var 1)) (.var 2)) .nil))) (.sl (.var 0) (some (.bin .add (.var 1) (.cst (.int 1)))) none))) .nil)
abbrev f__law_more : Nat × Df := (85, ⟨3, 3, b__law_more⟩)
def n_need_hall : List Str := ["hall", "fare", "one", "other"]
def b_need_hall : B := (.cons (.ife (.or (.not (.isi (.var 0) [.tuple])) (.cmp .ne (.bi .len (.cons (.var 0) .nil)) (.cst (.int 2)))) (.cons .stop .nil) .nil) (.cons (.ife (.not (.call 21 (.cons (.idx (.var 0) (.cst (.int 0))) (.cons (.cst (.int 1)) (.cons (.glb 5) .nil))))) (.cons .stop .nil) .nil) (.cons (.ife (.or (.not (.isi (.idx (.var 0) (.cst (.int 1))) [.tuple])) (.not (.chn .le .le (.cst (.int 1)) (.bi .len (.cons (.idx (.var 0) (.cst (.int 1))) .nil)) (.glb 2)))) (.cons .stop .nil) .nil) (.cons (.ife (.not (.bi .all (.cons (.lc (.call 21 (.cons (.var 1) (.cons (.cst (.int 1)) (.cons (.glb 3) .nil)))) (.var 1) (.seq (.idx (.var 0) (.cst (.int 1)))) none) .nil))) (.cons .stop .nil) .nil) (.cons (.ife (.not (.bi .all (.cons (.lc (.cmp .lt (.var 2) (.var 3)) (.tup [(.var 2), (.var 3)]) (.zip (.idx (.var 0) (.cst (.int 1))) (.sl (.idx (.var 0) (.cst (.int 1))) (some (.cst (.int 1))) none)) none) .nil))) (.cons .stop .nil) .nil) (.cons (.ret (.var 0)) .nil))))))
abbrev f_need_hall : Nat × Df := (61, ⟨1, 4, b_need_hall⟩)
def n_is_word : List Str := ["hall", "value", "is_outside"]
def b_is_word : B := (.cons (.ife (.or (.not (.isi (.var 1) [.tuple])) (.or (.cmp .eq (.var 1) (.tup .nil)) (.not (.isi (.idx (.var 1) (.cst (.int 0))) [.str])))) (.cons (.ret (.cst (.bl false))) .nil) .nil) (.cons (.ife (.cmp .isin (.idx (.var 1) (.cst (.int 0))) (.tup (.cons (.glb 11) (.cons (.glb 10) (.cons (.glb 9) .nil))))) (.cons (.ret (.call 74 (.cons (.var 0) (.cons (.var 1) .nil)))) .nil) .nil) (.cons (.ife (.cmp .isin (.idx (.var 1) (.cst (.int 0))) (.tup (.cons (.glb 13) (.cons (.glb 12) .nil)))) (.cons (.ret (.cmp .eq (.bi .len (.cons (.var 1) .nil)) (.cst (.int 3)))) .nil) .nil) (.cons (.ret (.and (.cmp .eq (.idx (.var 1) (.cst (.int 0))) (.glb 15)) (.and (.var 2) (.and (.cmp .eq (.bi .len (.cons (.var 1) .nil)) (.cst (.int 3))) (.call 21 (.cons (.idx (.var 1) (.cst (.int 2))) (.cons (.cst (.int 0)) (.cons (.glb 14) .nil)))))))) .nil))))
abbrev f_is_word : Nat × Df := (69, ⟨3, 3, b_is_word⟩)
def n_parts_of : List Str := ["rule"]
def b_parts_of : B := (.cons (.ret (.ife (.cmp .isin (.idx (.var 0) (.cst (.int 0))) (.tup (.cons (.glb 13) (.cons (.glb 12) .nil)))) (.lst (.cons (.cst (.int 1)) (.cons (.cst (.int 2)) .nil))) (.ife (.cmp .eq (.idx (.var 0) (.cst (.int 0))) (.glb 15)) (.lst (.cons (.cst (.int 1)) .nil)) (.lst .nil)))) .nil)
abbrev f_parts_of : Nat × Df := (70, ⟨1, 1, b_parts_of⟩)
def n_cheapest_sold : List Str := ["sold", "some", "number", "many"]
def b_cheapest_sold : B := (.cons (.asg (.var 1) (.lc (.var 2) (.tup [(.var 2), (.var 3)]) (.enum (.var 0)) (some (.cmp .gt (.var 3) (.cst (.int 0)))))) (.cons (.ret (.ife (.cmp .ne (.var 1) (.lst .nil)) (.idx (.var 1) (.cst (.int 0))) (.cst .non))) .nil))
abbrev f_cheapest_sold : Nat × Df := (73, ⟨1, 4, b_cheapest_sold⟩)
def n_lets_of : List Str := ["hall", "rule", "sold", "fare"]
def b_lets_of : B := (.cons (.ife (.cmp .eq (.idx (.var 1) (.cst (.int 0))) (.glb 13)) (.cons (.ret (.and (.call 75 (.cons (.var 0) (.cons (.idx (.var 1) (.cst (.int 1))) (.cons (.var 2) (.cons (.var 3) .nil))))) (.call 75 (.cons (.var 0) (.cons (.idx (.var 1) (.cst (.int 2))) (.cons (.var 2) (.cons (.var 3) .nil))))))) .nil) .nil) (.cons (.ife (.cmp .eq (.idx (.var 1) (.cst (.int 0))) (.glb 12)) (.cons (.ret (.or (.call 75 (.cons (.var 0) (.cons (.idx (.var 1) (.cst (.int 1))) (.cons (.var 2) (.cons (.var 3) .nil))))) (.call 75 (.cons (.var 0) (.cons (.idx (.var 1) (.cst (.int 2))) (.cons (.var 2) (.cons (.var 3) .nil))))))) .nil) .nil) (.cons (.ret (.ife (.cmp .eq (.idx (.var 1) (.cst (.int 0))) (.glb 15)) (.call 75 (.cons (.var 0) (.cons (.idx (.var 1) (.cst (.int 1))) (.cons (.var 2) (.cons (.var 3) .nil))))) (.call 77 (.cons (.var 0) (.cons (.var 1) (.cons (.var 2) (.cons (.var 3) .nil))))))) .nil)))
abbrev f_lets_of : Nat × Df := (75, ⟨4, 4, b_lets_of⟩)
def n_with_more : List Str := ["counts", "number", "more"]
def b_with_more : B := (.cons (.ret (.bin .add (.bin .add (.sl (.var 0) none (some (.var 1))) (.tup (.cons (.bin .add (.idx (.var 0) (.var 1)) (.var 2)) .nil))) (.sl (.var 0) (some (.bin .add (.var 1) (.cst (.int 1)))) none))) .nil)
abbrev f_with_more : Nat × Df := (72, ⟨3, 3, b_with_more⟩)
def n_is_whole : List Str := ["value", "least", "most"]
def b_is_whole : B := (.cons (.ret (.and (.isi (.var 0) [.int]) (.and (.not (.isi (.var 0) [.bool])) (.chn .le .le (.var 1) (.var 0) (.var 2))))) .nil)
abbrev f_is_whole : Nat × Df := (21, ⟨3, 3, b_is_whole⟩)
def n_is_plain : List Str := ["hall", "value", "one", "other"]
def b_is_plain : B := (.cons (.ife (.or (.cmp .ne (.bi .len (.cons (.var 1) .nil)) (.cst (.int 2))) (.not (.call 76 (.cons (.var 0) (.cons (.idx (.var 1) (.cst (.int 1))) .nil))))) (.cons (.ret (.cst (.bl false))) .nil) .nil) (.cons (.ret (.or (.cmp .ne (.idx (.var 1) (.cst (.int 0))) (.glb 10)) (.bi .all (.cons (.lc (.cmp .le (.var 2) (.var 3)) (.tup [(.var 2), (.var 3)]) (.zip (.idx (.var 1) (.cst (.int 1))) (.sl (.idx (.var 1) (.cst (.int 1))) (some (.cst (.int 1))) none)) none) .nil)))) .nil))
abbrev f_is_plain : Nat × Df := (74, ⟨2, 4, b_is_plain⟩)
def n_lets_plain : List Str := ["hall", "rule", "sold", "fare", "word", "limits", "last"]
def b_lets_plain : B := (.cons (.asg (.tup [(.var 4), (.var 5)]) (.var 1)) (.cons (.ife (.cmp .eq (.var 4) (.glb 11)) (.cons (.ret (.cmp .lt (.idx (.var 2) (.var 3)) (.idx (.var 5) (.var 3)))) .nil) .nil) (.cons (.ife (.cmp .eq (.var 4) (.glb 9)) (.cons (.ret (.cmp .gt (.bin .sub (.idx (.var 0) (.cst (.int 0))) (.bi .sum (.cons (.var 2) .nil))) (.idx (.var 5) (.var 3)))) .nil) .nil) (.cons (.ret (.bi .all (.cons (.lc (.cmp .lt (.bi .sum (.cons (.sl (.var 2) none (some (.bin .add (.var 6) (.cst (.int 1))))) .nil)) (.idx (.var 5) (.var 6))) (.var 6) (.rng2 (.var 3) (.bi .len (.cons (.var 2) .nil))) none) .nil))) .nil))))
abbrev f_lets_plain : Nat × Df := (77, ⟨4, 7, b_lets_plain⟩)
def n_are_limits : List Str := ["hall", "value", "limit"]
def b_are_limits : B := (.cons (.ife (.or (.not (.isi (.var 1) [.tuple])) (.cmp .ne (.bi .len (.cons (.var 1) .nil)) (.bi .len (.cons (.idx (.var 0) (.cst (.int 1))) .nil)))) (.cons (.ret (.cst (.bl false))) .nil) .nil) (.cons (.ret (.bi .all (.cons (.lc (.call 21 (.cons (.var 2) (.cons (.cst (.int 0)) (.cons (.idx (.var 0) (.cst (.int 0))) .nil)))) (.var 2) (.seq (.var 1)) none) .nil))) .nil))
abbrev f_are_limits : Nat × Df := (76, ⟨2, 3, b_are_limits⟩)
def n__law_plan : List Str := ["_law_m", "_law_fares_here", "_law_most", "_law_fares_so", "_law_whole", "_law_one"]
def b__law_plan : B := (.cons (.asg (.tup [(.var 3), (.var 4)]) (.tup (.cons (.call 1 (.cons (.var 0) (.cons (.var 1) .nil))) (.cons (.bin .add (.cst (.int 1)) (.draw (.var 0) (.var 2))) .nil)))) (.cons (.ret (.tup (.cons (.var 3) (.cons (.var 4) (.cons (.bi .tuple (.cons (.bi .sorted (.cons (.lc (.draw (.var 0) (.bin .add (.var 4) (.cst (.int 1)))) (.var 5) (.seq (.var 3)) none) .nil)) .nil)) .nil))))) .nil))
abbrev f__law_plan : Nat × Df := (0, ⟨3, 6, b__law_plan⟩)
def n_best_plan : List Str := ["fares", "times", "fare", "divisor", "one", "part", "whole", "found", "last", "near", "far"]
def b_best_plan : B := (.cons (.asg (.tup [(.var 5), (.var 6)]) (.call 3 (.cons (.var 0) .nil))) (.cons (.asg (.var 1) (.cst (.int 1))) (.cons (.for_ (.var 2) (.seq (.sl (.var 0) (some (.cst (.int 1))) none)) (.cons (.asg (.var 1) (.bin .mul (.var 1) (.var 2))) .nil)) (.cons (.par [(7, true), (8, false)] (.cons (.lst (.cons (.bin .mul (.var 5) (.var 1)) .nil)) (.cons (.bin .mul (.var 5) (.var 1)) .nil))) (.cons (.for_ (.tup [(.var 9), (.var 10)]) (.zip (.var 0) (.sl (.var 0) (some (.cst (.int 1))) none)) (.cons (.aug 8 (.bin .mul (.bin .div (.bin .mul (.var 5) (.var 1)) (.var 10)) (.bin .sub (.var 10) (.var 9)))) (.cons (.app 7 (.var 8)) .nil))) (.cons (.asg (.var 3) (.bin .mul (.var 6) (.var 1))) (.cons (.frz 7) (.cons (.for_ (.var 4) (.seq (.var 7)) (.cons (.asg (.var 3) (.call 4 (.cons (.var 3) (.cons (.var 4) .nil)))) .nil)) (.cons (.frz 7) (.cons (.ret (.tup (.cons (.var 0) (.cons (.bin .div (.bin .mul (.var 6) (.var 1)) (.var 3)) (.cons (.bi .tuple (.cons (.lc (.bin .div (.var 4) (.var 3)) (.var 4) (.seq (.var 7)) none) .nil)) .nil))))) .nil))))))))))
abbrev f_best_plan : Nat × Df := (2, ⟨1, 11, b_best_plan⟩)
def n_regret_of : List Str := ["plan", "seats"]
def b_regret_of : B := (.cons (.expr (.call 6 (.cons (.var 0) .nil))) (.cons (.expr (.call 7 (.cons (.var 1) .nil))) (.cons (.ret (.bi .max (.cons (.call 8 (.cons (.var 0) (.cons (.var 1) .nil))) .nil))) .nil)))
abbrev f_regret_of : Nat × Df := (5, ⟨2, 2, b_regret_of⟩)
def n_share_of : List Str := ["plan", "seats", "gains", "gain", "fare"]
def b_share_of : B := (.cons (.expr (.call 6 (.cons (.var 0) .nil))) (.cons (.expr (.call 7 (.cons (.var 1) .nil))) (.cons (.asg (.var 2) (.call 11 (.cons (.idx (.var 0) (.cst (.int 0))) (.cons (.call 12 (.cons (.var 0) (.cons (.var 1) .nil))) .nil)))) (.cons (.ret (.call 13 (.cons (.lc (.tup (.cons (.var 3) (.cons (.bin .mul (.var 1) (.var 4)) .nil))) (.tup [(.var 3), (.var 4)]) (.zip (.var 2) (.idx (.var 0) (.cst (.int 0)))) none) .nil))) .nil))))
abbrev f_share_of : Nat × Df := (10, ⟨2, 5, b_share_of⟩)
def n_limits_of : List Str := ["plan", "seats"]
def b_limits_of : B := (.cons (.expr (.call 6 (.cons (.var 0) .nil))) (.cons (.expr (.call 7 (.cons (.var 1) .nil))) (.cons (.ret (.call 12 (.cons (.var 0) (.cons (.var 1) .nil)))) .nil)))
abbrev f_limits_of : Nat × Df := (14, ⟨2, 2, b_limits_of⟩)
def n_long_share : List Str := ["plan"]
def b_long_share : B := (.cons (.ret (.call 16 (.cons (.call 6 (.cons (.var 0) .nil)) .nil))) .nil)
abbrev f_long_share : Nat × Df := (15, ⟨1, 1, b_long_share⟩)
def n_best_share : List Str := ["fares"]
def b_best_share : B := (.cons (.ret (.call 18 (.cons (.call 20 (.cons (.var 0) .nil)) (.cons (.call 19 (.cons (.var 0) .nil)) .nil)))) .nil)
abbrev f_best_share : Nat × Df := (3, ⟨1, 1, b_best_share⟩)
def n_common : List Str := ["one", "other"]
def b_common : B := (.cons (.whl FUEL (.cmp .ne (.var 1) (.cst (.int 0))) (.cons (.par [(0, false), (1, false)] (.cons (.var 1) (.cons (.bin .mod (.bi .int (.cons (.var 0) .nil)) (.var 1)) .nil))) .nil)) (.cons (.ret (.var 0)) .nil))
abbrev f_common : Nat × Df := (4, ⟨2, 2, b_common⟩)
def n_need_plan : List Str := ["plan", "part"]
def b_need_plan : B := (.cons (.ife (.or (.not (.isi (.var 0) [.tuple])) (.cmp .ne (.bi .len (.cons (.var 0) .nil)) (.cst (.int 3)))) (.cons .stop .nil) .nil) (.cons (.expr (.call 20 (.cons (.idx (.var 0) (.cst (.int 0))) .nil))) (.cons (.ife (.not (.call 21 (.cons (.idx (.var 0) (.cst (.int 1))) (.cons (.cst (.int 1)) (.cons (.glb 0) .nil))))) (.cons .stop .nil) .nil) (.cons (.ife (.or (.not (.isi (.idx (.var 0) (.cst (.int 2))) [.tuple])) (.cmp .ne (.bi .len (.cons (.idx (.var 0) (.cst (.int 2))) .nil)) (.bi .len (.cons (.idx (.var 0) (.cst (.int 0))) .nil)))) (.cons .stop .nil) .nil) (.cons (.ife (.or (.not (.bi .all (.cons (.lc (.call 21 (.cons (.var 1) (.cons (.cst (.int 0)) (.cons (.idx (.var 0) (.cst (.int 1))) .nil)))) (.var 1) (.seq (.idx (.var 0) (.cst (.int 2)))) none) .nil))) (.not (.call 22 (.cons (.idx (.var 0) (.cst (.int 2))) .nil)))) (.cons .stop .nil) .nil) (.cons (.ret (.var 0)) .nil))))))
abbrev f_need_plan : Nat × Df := (6, ⟨1, 2, b_need_plan⟩)
def n_need_room : List Str := ["seats"]
def b_need_room : B := (.cons (.ife (.not (.call 21 (.cons (.var 0) (.cons (.cst (.int 1)) (.cons (.glb 1) .nil))))) (.cons .stop .nil) .nil) .nil)
abbrev f_need_room : Nat × Df := (7, ⟨1, 1, b_need_room⟩)
def n_regrets_at : List Str := ["plan", "seats", "gains", "fare", "gain"]
def b_regrets_at : B := (.cons (.asg (.var 2) (.call 11 (.cons (.idx (.var 0) (.cst (.int 0))) (.cons (.call 12 (.cons (.var 0) (.cons (.var 1) .nil))) .nil)))) (.cons (.ret (.lc (.bin .sub (.bin .mul (.var 1) (.var 3)) (.var 4)) (.tup [(.var 3), (.var 4)]) (.zip (.idx (.var 0) (.cst (.int 0))) (.var 2)) none)) .nil))
abbrev f_regrets_at : Nat × Df := (8, ⟨2, 5, b_regrets_at⟩)
def n_gains_by : List Str := ["fares", "limits", "found", "ahead", "whole", "fare", "limit"]
def b_gains_by : B := (.cons (.par [(2, true), (3, false), (4, false)] (.cons (.lst .nil) (.cons (.cst (.int 0)) (.cons (.cst (.int 0)) .nil)))) (.cons (.for_ (.tup [(.var 5), (.var 6)]) (.zip (.var 0) (.var 1)) (.cons (.aug 4 (.bin .mul (.var 5) (.bin .sub (.var 6) (.var 3)))) (.cons (.asg (.var 3) (.var 6)) (.cons (.app 2 (.var 4)) .nil)))) (.cons (.frz 2) (.cons (.ret (.var 2)) .nil))))
abbrev f_gains_by : Nat × Df := (11, ⟨2, 7, b_gains_by⟩)
def n_lesser_share : List Str := ["pairs", "best", "one"]
def b_lesser_share : B := (.cons (.asg (.var 1) (.idx (.var 0) (.cst (.int 0)))) (.cons (.for_ (.var 2) (.seq (.sl (.var 0) (some (.cst (.int 1))) none)) (.cons (.ife (.cmp .lt (.bin .mul (.idx (.var 2) (.cst (.int 0))) (.idx (.var 1) (.cst (.int 1)))) (.bin .mul (.idx (.var 1) (.cst (.int 0))) (.idx (.var 2) (.cst (.int 1))))) (.cons (.asg (.var 1) (.var 2)) .nil) .nil) .nil)) (.cons (.ret (.call 23 (.cons (.idx (.var 1) (.cst (.int 0))) (.cons (.idx (.var 1) (.cst (.int 1))) .nil)))) .nil)))
abbrev f_lesser_share : Nat × Df := (13, ⟨1, 3, b_lesser_share⟩)
def n_limits_in : List Str := ["plan", "seats", "part"]
def b_limits_in : B := (.cons (.ret (.bi .tuple (.cons (.lc (.bin .div (.bin .mul (.var 2) (.var 1)) (.idx (.var 0) (.cst (.int 1)))) (.var 2) (.seq (.idx (.var 0) (.cst (.int 2)))) none) .nil))) .nil)
abbrev f_limits_in : Nat × Df := (12, ⟨2, 3, b_limits_in⟩)
def n_long_in : List Str := ["plan", "gains", "gain", "fare"]
def b_long_in : B := (.cons (.asg (.var 1) (.call 11 (.cons (.idx (.var 0) (.cst (.int 0))) (.cons (.idx (.var 0) (.cst (.int 2))) .nil)))) (.cons (.ret (.call 13 (.cons (.lc (.tup (.cons (.var 2) (.cons (.bin .mul (.idx (.var 0) (.cst (.int 1))) (.var 3)) .nil))) (.tup [(.var 2), (.var 3)]) (.zip (.var 1) (.idx (.var 0) (.cst (.int 0)))) none) .nil))) .nil))
abbrev f_long_in : Nat × Df := (16, ⟨1, 4, b_long_in⟩)
def n_bar_value : List Str := ["fares", "weights", "most", "number", "fare", "weight"]
def b_bar_value : B := (.cons (.asg (.var 2) (.bi .max (.cons (.lc (.bin .mul (.var 4) (.bi .sum (.cons (.sl (.var 1) (some (.var 3)) none) .nil))) (.tup [(.var 3), (.var 4)]) (.enum (.var 0)) none) .nil))) (.cons (.ret (.call 23 (.cons (.var 2) (.cons (.bi .sum (.cons (.lc (.bin .mul (.var 4) (.var 5)) (.tup [(.var 4), (.var 5)]) (.zip (.var 0) (.var 1)) none) .nil)) .nil)))) .nil))
abbrev f_bar_value : Nat × Df := (18, ⟨2, 6, b_bar_value⟩)
def n_need_fares : List Str := ["fares"]
def b_need_fares : B := (.cons (.ife (.not (.call 24 (.cons (.var 0) .nil))) (.cons .stop .nil) .nil) (.cons (.ret (.var 0)) .nil))
abbrev f_need_fares : Nat × Df := (20, ⟨1, 1, b_need_fares⟩)
def n_weights_of : List Str := ["fares", "whole", "fare", "parts", "found", "divisor", "one", "other"]
def b_weights_of : B := (.cons (.asg (.var 1) (.cst (.int 1))) (.cons (.for_ (.var 2) (.seq (.var 0)) (.cons (.asg (.var 1) (.bin .mul (.var 1) (.var 2))) .nil)) (.cons (.asg (.var 3) (.bin .add (.lc (.bin .div (.var 1) (.var 2)) (.var 2) (.seq (.var 0)) none) (.lst (.cons (.cst (.int 0)) .nil)))) (.cons (.asg (.var 4) (.lc (.bin .sub (.var 6) (.var 7)) (.tup [(.var 6), (.var 7)]) (.zip (.var 3) (.sl (.var 3) (some (.cst (.int 1))) none)) none)) (.cons (.asg (.var 5) (.cst (.int 0))) (.cons (.for_ (.var 6) (.seq (.var 4)) (.cons (.asg (.var 5) (.ife (.cmp .gt (.var 5) (.cst (.int 0))) (.call 4 (.cons (.var 6) (.cons (.var 5) .nil))) (.var 6))) .nil)) (.cons (.ret (.lc (.bin .div (.var 6) (.var 5)) (.var 6) (.seq (.var 4)) none)) .nil)))))))
abbrev f_weights_of : Nat × Df := (19, ⟨1, 8, b_weights_of⟩)
def n_are_rising : List Str := ["value", "one", "other"]
def b_are_rising : B := (.cons (.ret (.bi .all (.cons (.lc (.cmp .le (.var 1) (.var 2)) (.tup [(.var 1), (.var 2)]) (.zip (.var 0) (.sl (.var 0) (some (.cst (.int 1))) none)) none) .nil))) .nil)
abbrev f_are_rising : Nat × Df := (22, ⟨1, 3, b_are_rising⟩)
def n_fraction : List Str := ["one", "other", "divisor"]
def b_fraction : B := (.cons (.ife (.cmp .eq (.var 1) (.cst (.int 0))) (.cons (.ret (.tup (.cons (.cst (.int 1)) (.cons (.cst (.int 1)) .nil)))) .nil) .nil) (.cons (.asg (.var 2) (.call 4 (.cons (.var 0) (.cons (.var 1) .nil)))) (.cons (.ret (.tup (.cons (.bin .div (.var 0) (.var 2)) (.cons (.bin .div (.var 1) (.var 2)) .nil)))) .nil)))
abbrev f_fraction : Nat × Df := (23, ⟨2, 3, b_fraction⟩)
def n_are_fares : List Str := ["value", "fare", "one", "other"]
def b_are_fares : B := (.cons (.ife (.or (.not (.isi (.var 0) [.tuple])) (.not (.chn .le .le (.cst (.int 1)) (.bi .len (.cons (.var 0) .nil)) (.glb 2)))) (.cons (.ret (.cst (.bl false))) .nil) .nil) (.cons (.ife (.not (.bi .all (.cons (.lc (.call 21 (.cons (.var 1) (.cons (.cst (.int 1)) (.cons (.glb 3) .nil)))) (.var 1) (.seq (.var 0)) none) .nil))) (.cons (.ret (.cst (.bl false))) .nil) .nil) (.cons (.ret (.bi .all (.cons (.lc (.cmp .lt (.var 2) (.var 3)) (.tup [(.var 2), (.var 3)]) (.zip (.var 0) (.sl (.var 0) (some (.cst (.int 1))) none)) none) .nil))) .nil)))
abbrev f_are_fares : Nat × Df := (24, ⟨1, 4, b_are_fares⟩)
def n__law_yard : List Str := ["_law_m", "_law_most", "_law_many", "_law_k", "_law_fares", "_law_last"]
def b__law_yard : B := (.cons (.par [(4, true), (5, false)] (.cons (.lst .nil) (.cons (.cst (.int 0)) .nil))) (.cons (.for_ (.var 3) (.rng1 (.bin .add (.cst (.int 1)) (.draw (.var 0) (.var 2)))) (.cons (.asg (.var 5) (.bin .add (.bin .add (.var 5) (.cst (.int 1))) (.idx (.lst (.cons (.draw (.var 0) (.cst (.int 3))) (.cons (.draw (.var 0) (.cst (.int 24))) (.cons (.cst (.int 0)) .nil)))) (.draw (.var 0) (.cst (.int 3)))))) (.cons (.app 4 (.var 5)) .nil))) (.cons (.frz 4) (.cons (.ret (.tup (.cons (.bin .add (.cst (.int 1)) (.draw (.var 0) (.var 1))) (.cons (.bi .tuple (.cons (.var 4) .nil)) .nil)))) .nil))))
abbrev f__law_yard : Nat × Df := (46, ⟨3, 6, b__law_yard⟩)
def n__law_book : List Str := ["_law_m", "_law_yard_here", "_law_pick", "_law_found"]
def b__law_book : B := (.cons (.asg (.var 2) (.draw (.var 0) (.cst (.int 6)))) (.cons (.asg (.var 3) (.call 48 (.cons (.var 0) (.cons (.var 1) .nil)))) (.cons (.ife (.cmp .isin (.var 2) (.tup (.cons (.cst (.int 2)) (.cons (.cst (.int 3)) (.cons (.cst (.int 5)) .nil))))) (.cons (.asg (.var 3) (.tup (.cons (.idx (.lst (.cons (.cst (.str "all")) (.cons (.cst (.str "any")) .nil))) (.draw (.var 0) (.cst (.int 2)))) (.cons (.var 3) (.cons (.call 48 (.cons (.var 0) (.cons (.var 1) .nil))) .nil))))) .nil) .nil) (.cons (.ife (.cmp .eq (.var 2) (.cst (.int 3))) (.cons (.asg (.var 3) (.tup (.cons (.idx (.lst (.cons (.cst (.str "all")) (.cons (.cst (.str "any")) .nil))) (.draw (.var 0) (.cst (.int 2)))) (.cons (.call 48 (.cons (.var 0) (.cons (.var 1) .nil))) (.cons (.var 3) .nil))))) .nil) .nil) (.cons (.ret (.ife (.cmp .gt (.var 2) (.cst (.int 3))) (.tup (.cons (.cst (.str "oust")) (.cons (.var 3) (.cons (.idx (.lst (.cons (.cst (.int 0)) (.cons (.cst (.int 1)) (.cons (.draw (.var 0) (.cst (.int 12))) (.cons (.cst (.int 99)) .nil))))) (.draw (.var 0) (.cst (.int 4)))) .nil)))) (.var 3))) .nil)))))
abbrev f__law_book : Nat × Df := (47, ⟨2, 4, b__law_book⟩)
def n__law_dearest : List Str := ["_law_yard_here", "_law_some", "_law_best", "_law_k", "_law_one"]
def b__law_dearest : B := (.cons (.asg (.var 2) (.sl (.rev (.bi .sorted (.cons (.var 1) .nil))) none (some (.idx (.var 0) (.cst (.int 0)))))) (.cons (.ret (.bi .tuple (.cons (.lc (.bi .len (.cons (.lc (.var 4) (.var 4) (.seq (.var 2)) (some (.cmp .eq (.var 4) (.var 3)))) .nil)) (.var 3) (.rng1 (.bi .len (.cons (.idx (.var 0) (.cst (.int 1))) .nil))) none) .nil))) .nil))
abbrev f__law_dearest : Nat × Df := (49, ⟨2, 5, b__law_dearest⟩)
def n__law_like_50 : List Str := ["_law_heard", "_law_due"]
def b__law_like_50 : B := (.cons (.ret (.cmp .eq (.bi .repr (.cons (.var 0) .nil)) (.bi .repr (.cons (.var 1) .nil)))) .nil)
abbrev f__law_like_50 : Nat × Df := (50, ⟨2, 2, b__law_like_50⟩)
def n_regret : List Str := ["hall", "rule", "row", "gained"]
def b_regret : B := (.cons (.asg (.var 3) (.call 52 (.cons (.var 0) (.cons (.var 1) (.cons (.var 2) .nil))))) (.cons (.ret (.bin .sub (.call 53 (.cons (.var 0) (.cons (.var 2) .nil))) (.var 3))) .nil))
abbrev f_regret : Nat × Df := (51, ⟨3, 4, b_regret⟩)
def n_share : List Str := ["hall", "rule", "row"]
def b_share : B := (.cons (.ret (.call 23 (.cons (.call 52 (.cons (.var 0) (.cons (.var 1) (.cons (.var 2) .nil)))) (.cons (.call 53 (.cons (.var 0) (.cons (.var 2) .nil))) .nil)))) .nil)
abbrev f_share : Nat × Df := (54, ⟨3, 3, b_share⟩)
def n__law_step : List Str := ["_law_yard_here", "_law_book_here", "_law_sold", "_law_spent", "_law_call_so", "_law_many", "_law_less", "_law_k"]
def b__law_step : B := (.cons (.own 5 (.bi .list (.cons (.var 2) .nil))) (.cons (.ife (.and (.cmp .lt (.bi .sum (.cons (.var 2) .nil)) (.idx (.var 0) (.cst (.int 0)))) (.call 56 (.cons (.var 0) (.cons (.var 1) (.cons (.var 2) (.cons (.var 4) .nil)))))) (.cons (.sto 5 (.var 4) (.bin .add (.idxO 5 (.var 4)) (.cst (.int 1)))) (.cons (.frz 5) (.cons (.ret (.tup (.cons (.bi .tuple (.cons (.var 5) .nil)) (.cons (.var 3) (.cons (.cst (.str "taken")) .nil))))) .nil))) .nil) (.cons (.asg (.var 6) (.lc (.var 7) (.var 7) (.rng1 (.var 4)) (some (.cmp .gt (.idx (.var 2) (.var 7)) (.cst (.int 0)))))) (.cons (.ife (.and (.cmp .eq (.idx (.var 1) (.cst (.int 0))) (.cst (.str "oust"))) (.and (.cmp .ne (.var 6) (.lst .nil)) (.cmp .gt (.idx (.idx (.var 0) (.cst (.int 1))) (.var 4)) (.bin .add (.idx (.idx (.var 0) (.cst (.int 1))) (.idx (.var 6) (.cst (.int 0)))) (.idx (.var 1) (.cst (.int 2))))))) (.cons (.sto 5 (.idx (.var 6) (.cst (.int 0))) (.bin .sub (.idxO 5 (.idx (.var 6) (.cst (.int 0)))) (.cst (.int 1)))) (.cons (.sto 5 (.var 4) (.bin .add (.idxO 5 (.var 4)) (.cst (.int 1)))) (.cons (.frz 5) (.cons (.ret (.tup (.cons (.bi .tuple (.cons (.var 5) .nil)) (.cons (.bin .add (.var 3) (.idx (.var 1) (.cst (.int 2)))) (.cons (.cst (.str "ousted")) .nil))))) .nil)))) .nil) (.cons (.ret (.tup (.cons (.var 2) (.cons (.var 3) (.cons (.cst (.str "refused")) .nil))))) .nil)))))
abbrev f__law_step : Nat × Df := (55, ⟨5, 8, b__law_step⟩)
def n__law_sum : List Str := ["_law_yard_here", "_law_many", "_law_k"]
def b__law_sum : B := (.cons (.ret (.bi .sum (.cons (.lc (.bin .mul (.idx (.idx (.var 0) (.cst (.int 1))) (.var 2)) (.idx (.var 1) (.var 2))) (.var 2) (.rng1 (.bi .len (.cons (.var 1) .nil))) none) .nil))) .nil)
abbrev f__law_sum : Nat × Df := (57, ⟨2, 3, b__law_sum⟩)
def n_got : List Str := ["hall", "rule", "row", "sold", "paid", "deeds"]
def b_got : B := (.cons (.asg (.tup [(.var 3), (.var 4), (.var 5)]) (.call 58 (.cons (.var 0) (.cons (.var 1) (.cons (.var 2) .nil))))) (.cons (.ret (.bin .sub (.call 59 (.cons (.var 0) (.cons (.var 3) .nil))) (.var 4))) .nil))
abbrev f_got : Nat × Df := (52, ⟨3, 6, b_got⟩)
def n_seen : List Str := ["hall", "row"]
def b_seen : B := (.cons (.expr (.call 61 (.cons (.var 0) .nil))) (.cons (.ret (.call 62 (.cons (.var 0) (.cons (.call 63 (.cons (.var 0) (.cons (.var 1) .nil))) .nil)))) .nil))
abbrev f_seen : Nat × Df := (60, ⟨2, 2, b_seen⟩)
def n_hindsight : List Str := ["hall", "row"]
def b_hindsight : B := (.cons (.ret (.call 59 (.cons (.var 0) (.cons (.call 60 (.cons (.var 0) (.cons (.var 1) .nil))) .nil)))) .nil)
abbrev f_hindsight : Nat × Df := (53, ⟨2, 2, b_hindsight⟩)
def n_went : List Str := ["hall", "rule", "row", "sold", "paid", "found"]
def b_went : B := (.cons (.expr (.call 64 (.cons (.var 0) (.cons (.var 1) .nil)))) (.cons (.asg (.tup [(.var 3), (.var 4), (.var 5)]) (.call 65 (.cons (.var 0) (.cons (.var 1) (.cons (.call 63 (.cons (.var 0) (.cons (.var 2) .nil))) .nil))))) (.cons (.ret (.tup (.cons (.var 3) (.cons (.var 4) (.cons (.bi .tuple (.cons (.var 5) .nil)) .nil))))) .nil)))
abbrev f_went : Nat × Df := (58, ⟨3, 6, b_went⟩)
def n__law_lowest : List Str := ["_law_one", "_law_other", "_law_some", "_law_k"]
def b__law_lowest : B := (.cons (.ife (.cmp .eq (.var 1) (.cst (.int 0))) (.cons (.ret (.tup (.cons (.cst (.int 1)) (.cons (.cst (.int 1)) .nil)))) .nil) .nil) (.cons (.asg (.var 2) (.lc (.var 3) (.var 3) (.rng2 (.cst (.int 1)) (.bin .add (.var 1) (.cst (.int 1)))) (some (.and (.cmp .eq (.bin .mod (.bi .int (.cons (.var 0) .nil)) (.var 3)) (.cst (.int 0))) (.cmp .eq (.bin .mod (.bi .int (.cons (.var 1) .nil)) (.var 3)) (.cst (.int 0))))))) (.cons (.ret (.tup (.cons (.bin .div (.var 0) (.idx (.var 2) (.neg (.cst (.int 1))))) (.cons (.bin .div (.var 1) (.idx (.var 2) (.neg (.cst (.int 1))))) .nil)))) .nil)))
abbrev f__law_lowest : Nat × Df := (66, ⟨2, 4, b__law_lowest⟩)
def n__law_bare : List Str := ["_law_m", "_law_yard_here", "_law_word", "_law_some", "_law_fare"]
def b__law_bare : B := (.cons (.asg (.var 2) (.idx (.lst (.cons (.cst (.str "apart")) (.cons (.cst (.str "nested")) (.cons (.cst (.str "kept")) .nil)))) (.draw (.var 0) (.cst (.int 3))))) (.cons (.own 3 (.lc (.draw (.var 0) (.bin .add (.idx (.var 1) (.cst (.int 0))) (.cst (.int 1)))) (.var 4) (.seq (.idx (.var 1) (.cst (.int 1)))) none)) (.cons (.ife (.cmp .eq (.var 2) (.cst (.str "nested"))) (.cons (.frz 3) (.cons (.own 3 (.bi .sorted (.cons (.var 3) .nil))) (.cons (.sto 3 (.neg (.cst (.int 1))) (.idx (.lst (.cons (.idxO 3 (.neg (.cst (.int 1)))) (.cons (.idx (.var 1) (.cst (.int 0))) .nil))) (.draw (.var 0) (.cst (.int 2))))) .nil))) .nil) (.cons (.frz 3) (.cons (.ret (.tup (.cons (.var 2) (.cons (.bi .tuple (.cons (.var 3) .nil)) .nil)))) .nil)))))
abbrev f__law_bare : Nat × Df := (48, ⟨2, 5, b__law_bare⟩)
def n__law_lets : List Str := ["_law_yard_here", "_law_book_here", "_law_sold", "_law_call_so", "_law_more", "_law_over", "_law_k"]
def b__law_lets : B := (.cons (.ife (.cmp .eq (.idx (.var 1) (.cst (.int 0))) (.cst (.str "all"))) (.cons (.ret (.and (.call 56 (.cons (.var 0) (.cons (.idx (.var 1) (.cst (.int 1))) (.cons (.var 2) (.cons (.var 3) .nil))))) (.call 56 (.cons (.var 0) (.cons (.idx (.var 1) (.cst (.int 2))) (.cons (.var 2) (.cons (.var 3) .nil))))))) .nil) .nil) (.cons (.ife (.cmp .eq (.idx (.var 1) (.cst (.int 0))) (.cst (.str "any"))) (.cons (.ret (.or (.call 56 (.cons (.var 0) (.cons (.idx (.var 1) (.cst (.int 1))) (.cons (.var 2) (.cons (.var 3) .nil))))) (.call 56 (.cons (.var 0) (.cons (.idx (.var 1) (.cst (.int 2))) (.cons (.var 2) (.cons (.var 3) .nil))))))) .nil) .nil) (.cons (.ife (.cmp .eq (.idx (.var 1) (.cst (.int 0))) (.cst (.str "oust"))) (.cons (.ret (.call 56 (.cons (.var 0) (.cons (.idx (.var 1) (.cst (.int 1))) (.cons (.var 2) (.cons (.var 3) .nil)))))) .nil) .nil) (.cons (.ife (.cmp .eq (.idx (.var 1) (.cst (.int 0))) (.cst (.str "apart"))) (.cons (.ret (.cmp .le (.bin .add (.idx (.var 2) (.var 3)) (.cst (.int 1))) (.idx (.idx (.var 1) (.cst (.int 1))) (.var 3)))) .nil) .nil) (.cons (.ife (.cmp .eq (.idx (.var 1) (.cst (.int 0))) (.cst (.str "kept"))) (.cons (.ret (.cmp .lt (.bin .add (.bi .sum (.cons (.var 2) .nil)) (.idx (.idx (.var 1) (.cst (.int 1))) (.var 3))) (.idx (.var 0) (.cst (.int 0))))) .nil) .nil) (.cons (.asg (.var 4) (.lc (.bin .add (.idx (.var 2) (.var 6)) (.bi .int (.cons (.cmp .eq (.var 6) (.var 3)) .nil))) (.var 6) (.rng1 (.bi .len (.cons (.var 2) .nil))) none)) (.cons (.asg (.var 5) (.lc (.var 6) (.var 6) (.rng2 (.var 3) (.bi .len (.cons (.var 2) .nil))) (some (.cmp .gt (.bi .sum (.cons (.sl (.var 4) none (some (.bin .add (.var 6) (.cst (.int 1))))) .nil)) (.idx (.idx (.var 1) (.cst (.int 1))) (.var 6)))))) (.cons (.ret (.cmp .eq (.var 5) (.lst .nil))) .nil))))))))
abbrev f__law_lets : Nat × Df := (56, ⟨4, 7, b__law_lets⟩)
def n_worth_of : List Str := ["hall", "counts", "fare", "many"]
def b_worth_of : B := (.cons (.ret (.bi .sum (.cons (.lc (.bin .mul (.var 2) (.var 3)) (.tup [(.var 2), (.var 3)]) (.zip (.idx (.var 0) (.cst (.int 1))) (.var 1)) none) .nil))) .nil)
abbrev f_worth_of : Nat × Df := (59, ⟨2, 4, b_worth_of⟩)
def n_seen_of : List Str := ["hall", "row", "seen", "fare"]
def b_seen_of : B := (.cons (.asg (.var 2) (.call 67 (.cons (.var 0) .nil))) (.cons (.for_ (.var 3) (.seq (.var 1)) (.cons (.asg (.var 2) (.call 68 (.cons (.var 0) (.cons (.var 2) (.cons (.var 3) .nil))))) .nil)) (.cons (.ret (.var 2)) .nil)))
abbrev f_seen_of : Nat × Df := (62, ⟨2, 4, b_seen_of⟩)
def n_need_calls : List Str := ["hall", "row", "number", "fare"]
def b_need_calls : B := (.cons (.ife (.or (.not (.isi (.var 1) [.list, .tuple])) (.cmp .gt (.bi .len (.cons (.var 1) .nil)) (.glb 6))) (.cons .stop .nil) .nil) (.cons (.for_ (.tup [(.var 2), (.var 3)]) (.enum (.var 1)) (.cons (.ife (.not (.call 21 (.cons (.var 3) (.cons (.cst (.int 0)) (.cons (.bin .sub (.bi .len (.cons (.idx (.var 0) (.cst (.int 1))) .nil)) (.cst (.int 1))) .nil))))) (.cons .stop .nil) .nil) .nil)) (.cons (.ret (.bi .tuple (.cons (.var 1) .nil))) .nil)))
abbrev f_need_calls : Nat × Df := (63, ⟨2, 4, b_need_calls⟩)
def n_went_of : List Str := ["hall", "rule", "row", "fare", "sold", "paid", "found", "deed"]
def b_went_of : B := (.cons (.par [(4, false), (5, false), (6, true)] (.cons (.call 67 (.cons (.var 0) .nil)) (.cons (.cst (.int 0)) (.cons (.lst .nil) .nil)))) (.cons (.for_ (.var 3) (.seq (.var 2)) (.cons (.asg (.tup [(.var 4), (.var 5), (.var 7)]) (.call 71 (.cons (.var 0) (.cons (.var 1) (.cons (.var 4) (.cons (.var 5) (.cons (.var 3) .nil))))))) (.cons (.app 6 (.var 7)) .nil))) (.cons (.frz 6) (.cons (.ret (.tup (.cons (.var 4) (.cons (.var 5) (.cons (.var 6) .nil))))) .nil))))
abbrev f_went_of : Nat × Df := (65, ⟨3, 8, b_went_of⟩)
def n_seen_with : List Str := ["hall", "seen", "fare", "more"]
def b_seen_with : B := (.cons (.asg (.var 3) (.call 72 (.cons (.var 1) (.cons (.var 2) (.cons (.cst (.int 1)) .nil))))) (.cons (.ret (.ife (.cmp .le (.bi .sum (.cons (.var 3) .nil)) (.idx (.var 0) (.cst (.int 0)))) (.var 3) (.call 72 (.cons (.var 3) (.cons (.call 73 (.cons (.var 3) .nil)) (.cons (.neg (.cst (.int 1))) .nil)))))) .nil))
abbrev f_seen_with : Nat × Df := (68, ⟨3, 4, b_seen_with⟩)
def n__law_row : List Str := ["_law_m", "_law_hall_so", "_law_many", "_law_k"]
def b__law_row : B := (.cons (.ret (.bi .tuple (.cons (.lc (.draw (.var 0) (.bi .len (.cons (.idx (.var 1) (.cst (.int 1))) .nil))) (.var 3) (.rng1 (.draw (.var 0) (.bin .add (.var 2) (.cst (.int 1))))) none) .nil))) .nil)
abbrev f__law_row : Nat × Df := (78, ⟨3, 4, b__law_row⟩)
def n__law_nets : List Str := ["_law_hall_so", "_law_limits", "_law_row_so", "_law_sold_so", "_law_k"]
def b__law_nets : B := (.cons (.asg (.var 3) (.bin .mul (.tup (.cons (.cst (.int 0)) .nil)) (.bi .len (.cons (.idx (.var 0) (.cst (.int 1))) .nil)))) (.cons (.for_ (.var 4) (.seq (.var 2)) (.cons (.asg (.var 3) (.idx (.call 80 (.cons (.var 0) (.cons (.tup (.cons (.cst (.str "nested")) (.cons (.var 1) .nil))) (.cons (.var 3) (.cons (.cst (.int 0)) (.cons (.var 4) .nil)))))) (.cst (.int 0)))) .nil)) (.cons (.ret (.tup (.cons (.call 82 (.cons (.var 0) (.cons (.var 3) .nil))) (.cons (.call 81 (.cons (.var 0) (.cons (.var 2) .nil))) .nil)))) .nil)))
abbrev f__law_nets : Nat × Df := (79, ⟨3, 5, b__law_nets⟩)
def n__law_least : List Str := ["_law_part", "_law_of_here", "_law_one", "_law_two"]
def b__law_least : B := (.cons (.par [(2, false), (3, false)] (.cons (.var 0) (.cons (.var 1) .nil))) (.cons (.whl FUEL (.cmp .ne (.var 3) (.cst (.int 0))) (.cons (.par [(2, false), (3, false)] (.cons (.var 3) (.cons (.bin .mod (.bi .int (.cons (.var 2) .nil)) (.var 3)) .nil))) .nil)) (.cons (.ret (.tup (.cons (.bin .div (.var 0) (.var 2)) (.cons (.bin .div (.var 1) (.var 2)) .nil)))) .nil)))
abbrev f__law_least : Nat × Df := (27, ⟨2, 4, b__law_least⟩)
def n__law_is_less : List Str := ["_law_one", "_law_other"]
def b__law_is_less : B := (.cons (.ret (.cmp .lt (.bin .mul (.idx (.var 0) (.cst (.int 0))) (.idx (.var 1) (.cst (.int 1)))) (.bin .mul (.idx (.var 1) (.cst (.int 0))) (.idx (.var 0) (.cst (.int 1)))))) .nil)
abbrev f__law_is_less : Nat × Df := (83, ⟨2, 2, b__law_is_less⟩)
def n__law_worth : List Str := ["_law_hall_so", "_law_counts", "_law_k"]
def b__law_worth : B := (.cons (.ret (.bi .sum (.cons (.lc (.bin .mul (.idx (.idx (.var 0) (.cst (.int 1))) (.var 2)) (.idx (.var 1) (.var 2))) (.var 2) (.rng1 (.bi .len (.cons (.var 1) .nil))) none) .nil))) .nil)
abbrev f__law_worth : Nat × Df := (82, ⟨2, 3, b__law_worth⟩)
def n__law_best : List Str := ["_law_hall_so", "_law_calls_so", "_law_k"]
def b__law_best : B := (.cons (.ret (.bi .sum (.cons (.sl (.rev (.bi .sorted (.cons (.lc (.idx (.idx (.var 0) (.cst (.int 1))) (.var 2)) (.var 2) (.seq (.var 1)) none) .nil))) none (some (.idx (.var 0) (.cst (.int 0))))) .nil))) .nil)
abbrev f__law_best : Nat × Df := (81, ⟨2, 3, b__law_best⟩)
def n__law_long : List Str := ["_law_plan_so", "_law_found", "_law_k", "_law_near", "_law_far"]
def b__law_long : B := (.cons (.asg (.var 1) (.tup (.cons (.cst (.int 1)) (.cons (.cst (.int 1)) .nil)))) (.cons (.for_ (.var 2) (.rng1 (.bi .len (.cons (.idx (.var 0) (.cst (.int 0))) .nil))) (.cons (.par [(3, false), (4, false)] (.cons (.call 26 (.cons (.idx (.var 0) (.cst (.int 0))) (.cons (.idx (.var 0) (.cst (.int 2))) (.cons (.var 2) .nil)))) (.cons (.bin .mul (.idx (.var 0) (.cst (.int 1))) (.idx (.idx (.var 0) (.cst (.int 0))) (.var 2))) .nil))) (.cons (.ife (.cmp .lt (.bin .mul (.var 3) (.idx (.var 1) (.cst (.int 1)))) (.bin .mul (.idx (.var 1) (.cst (.int 0))) (.var 4))) (.cons (.asg (.var 1) (.call 27 (.cons (.var 3) (.cons (.var 4) .nil)))) .nil) .nil) .nil))) (.cons (.ret (.var 1)) .nil)))
abbrev f__law_long : Nat × Df := (25, ⟨1, 5, b__law_long⟩)
def n_seats_from : List Str := ["plan", "share", "last", "rest", "line", "number"]
def b_seats_from : B := (.cons (.expr (.call 29 (.cons (.var 0) .nil))) (.cons (.ife (.not (.call 30 (.cons (.var 1) .nil))) (.cons .stop .nil) .nil) (.cons (.asg (.var 2) (.cst (.int 0))) (.cons (.for_ (.var 3) (.rng1 (.idx (.var 0) (.cst (.int 1)))) (.cons (.for_ (.var 4) (.seq (.call 31 (.cons (.var 0) (.cons (.var 1) (.cons (.var 3) .nil))))) (.cons (.asg (.var 5) (.call 32 (.cons (.var 4) .nil))) (.cons (.ife (.cmp .isN (.var 5) (.cst .non)) (.cons (.ret (.cst .non)) .nil) .nil) (.cons (.asg (.var 2) (.bi .max2 (.cons (.var 2) (.cons (.ife (.cmp .ge (.var 5) (.cst (.int 0))) (.bin .add (.bin .mul (.var 5) (.idx (.var 0) (.cst (.int 1)))) (.var 3)) (.cst (.int 0))) .nil)))) .nil)))) .nil)) (.cons (.ret (.bin .add (.var 2) (.cst (.int 1)))) .nil)))))
abbrev f_seats_from : Nat × Df := (28, ⟨2, 6, b_seats_from⟩)
def n__law_from_right : List Str := ["_law_plan_so", "_law_share_so", "_law_many", "_law_spot"]
def b__law_from_right : B := (.cons (.ife (.cmp .isN (.var 2) (.cst .non)) (.cons (.ret (.call 34 (.cons (.var 0) (.cons (.var 1) .nil)))) .nil) .nil) (.cons (.ife (.or (.not (.isi (.var 2) [.int])) (.or (.cmp .lt (.var 2) (.cst (.int 1))) (.call 34 (.cons (.var 0) (.cons (.var 1) .nil))))) (.cons (.ret (.cst (.bl false))) .nil) .nil) (.cons (.ife (.and (.cmp .gt (.var 2) (.cst (.int 1))) (.cmp .ge (.bi .min (.cons (.call 35 (.cons (.var 0) (.cons (.var 1) (.cons (.bin .sub (.var 2) (.cst (.int 1))) .nil)))) .nil)) (.cst (.int 0)))) (.cons (.ret (.cst (.bl false))) .nil) .nil) (.cons (.for_ (.var 3) (.rng1 (.idx (.var 0) (.cst (.int 1)))) (.cons (.ife (.cmp .lt (.bi .min (.cons (.call 35 (.cons (.var 0) (.cons (.var 1) (.cons (.bin .add (.var 2) (.var 3)) .nil)))) .nil)) (.cst (.int 0))) (.cons (.ret (.cst (.bl false))) .nil) .nil) .nil)) (.cons (.ret (.cst (.bl true))) .nil)))))
abbrev f__law_from_right : Nat × Df := (33, ⟨3, 4, b__law_from_right⟩)
def n__law_gain : List Str := ["_law_fares_so", "_law_limits_here", "_law_k", "_law_found", "_law_j"]
def b__law_gain : B := (.cons (.asg (.var 3) (.bin .mul (.idx (.var 0) (.cst (.int 0))) (.idx (.var 1) (.cst (.int 0))))) (.cons (.for_ (.var 4) (.rng2 (.cst (.int 1)) (.bin .add (.var 2) (.cst (.int 1)))) (.cons (.asg (.var 3) (.bin .add (.var 3) (.bin .mul (.idx (.var 0) (.var 4)) (.bin .sub (.idx (.var 1) (.var 4)) (.idx (.var 1) (.bin .sub (.var 4) (.cst (.int 1)))))))) .nil)) (.cons (.ret (.var 3)) .nil)))
abbrev f__law_gain : Nat × Df := (26, ⟨3, 5, b__law_gain⟩)
def n_need_few : List Str := ["plan"]
def b_need_few : B := (.cons (.ife (.cmp .gt (.idx (.call 6 (.cons (.var 0) .nil)) (.cst (.int 1))) (.glb 4)) (.cons .stop .nil) .nil) (.cons (.ret (.var 0)) .nil))
abbrev f_need_few : Nat × Df := (29, ⟨1, 1, b_need_few⟩)
def n_is_share : List Str := ["value"]
def b_is_share : B := (.cons (.ife (.or (.not (.isi (.var 0) [.tuple])) (.or (.cmp .ne (.bi .len (.cons (.var 0) .nil)) (.cst (.int 2))) (.not (.call 21 (.cons (.idx (.var 0) (.cst (.int 1))) (.cons (.cst (.int 1)) (.cons (.glb 1) .nil))))))) (.cons (.ret (.cst (.bl false))) .nil) .nil) (.cons (.ret (.and (.call 21 (.cons (.idx (.var 0) (.cst (.int 0))) (.cons (.cst (.int 0)) (.cons (.idx (.var 0) (.cst (.int 1))) .nil)))) (.cmp .eq (.call 4 (.cons (.idx (.var 0) (.cst (.int 0))) (.cons (.idx (.var 0) (.cst (.int 1))) .nil))) (.cst (.int 1))))) .nil))
abbrev f_is_share : Nat × Df := (30, ⟨1, 1, b_is_share⟩)
def n_surplus_lines : List Str := ["plan", "share", "rest", "found", "seats", "gains", "near", "far", "gain", "fare"]
def b_surplus_lines : B := (.cons (.own 3 (.lst .nil)) (.cons (.for_ (.var 4) (.seq (.tup (.cons (.var 2) (.cons (.bin .add (.var 2) (.idx (.var 0) (.cst (.int 1)))) .nil)))) (.cons (.asg (.var 5) (.call 11 (.cons (.idx (.var 0) (.cst (.int 0))) (.cons (.call 12 (.cons (.var 0) (.cons (.var 4) .nil))) .nil)))) (.cons (.app 3 (.lc (.bin .sub (.bin .mul (.var 8) (.idx (.var 1) (.cst (.int 1)))) (.bin .mul (.bin .mul (.idx (.var 1) (.cst (.int 0))) (.var 4)) (.var 9))) (.tup [(.var 8), (.var 9)]) (.zip (.var 5) (.idx (.var 0) (.cst (.int 0)))) none)) .nil))) (.cons (.frz 3) (.cons (.ret (.lc (.tup (.cons (.bin .sub (.var 7) (.var 6)) (.cons (.var 6) .nil))) (.tup [(.var 6), (.var 7)]) (.zip (.idx (.var 3) (.cst (.int 0))) (.idx (.var 3) (.cst (.int 1)))) none)) .nil))))
abbrev f_surplus_lines : Nat × Df := (31, ⟨3, 10, b_surplus_lines⟩)
def n_last_below : List Str := ["line", "slope", "base"]
def b_last_below : B := (.cons (.asg (.tup [(.var 1), (.var 2)]) (.var 0)) (.cons (.ife (.or (.cmp .lt (.var 1) (.cst (.int 0))) (.and (.cmp .eq (.var 1) (.cst (.int 0))) (.cmp .lt (.var 2) (.cst (.int 0))))) (.cons (.ret (.cst .non)) .nil) .nil) (.cons (.ret (.ife (.cmp .ge (.var 2) (.cst (.int 0))) (.neg (.cst (.int 1))) (.bin .div (.bin .sub (.bin .sub (.cst (.int 0)) (.var 2)) (.cst (.int 1))) (.var 1)))) .nil)))
abbrev f_last_below : Nat × Df := (32, ⟨1, 3, b_last_below⟩)
def n__law_ever_falls : List Str := ["_law_plan_so", "_law_share_so", "_law_rest", "_law_begin", "_law_later", "_law_k"]
def b__law_ever_falls : B := (.cons (.for_ (.var 2) (.rng1 (.idx (.var 0) (.cst (.int 1)))) (.cons (.asg (.var 3) (.call 35 (.cons (.var 0) (.cons (.var 1) (.cons (.var 2) .nil))))) (.cons (.asg (.var 4) (.call 35 (.cons (.var 0) (.cons (.var 1) (.cons (.bin .add (.var 2) (.idx (.var 0) (.cst (.int 1)))) .nil))))) (.cons (.for_ (.var 5) (.rng1 (.bi .len (.cons (.var 3) .nil))) (.cons (.ife (.or (.cmp .lt (.idx (.var 4) (.var 5)) (.idx (.var 3) (.var 5))) (.and (.cmp .eq (.idx (.var 4) (.var 5)) (.idx (.var 3) (.var 5))) (.cmp .lt (.idx (.var 3) (.var 5)) (.cst (.int 0))))) (.cons (.ret (.cst (.bl true))) .nil) .nil) .nil)) .nil)))) (.cons (.ret (.cst (.bl false))) .nil))
abbrev f__law_ever_falls : Nat × Df := (34, ⟨2, 6, b__law_ever_falls⟩)
def n__law_surplus : List Str := ["_law_plan_so", "_law_share_so", "_law_many", "_law_k", "_law_limits_here", "_law_found", "_law_gain_here"]
def b__law_surplus : B := (.cons (.par [(4, false), (5, true)] (.cons (.call 36 (.cons (.var 0) (.cons (.var 2) .nil))) (.cons (.lst .nil) .nil))) (.cons (.for_ (.var 3) (.rng1 (.bi .len (.cons (.idx (.var 0) (.cst (.int 0))) .nil))) (.cons (.asg (.var 6) (.call 26 (.cons (.idx (.var 0) (.cst (.int 0))) (.cons (.var 4) (.cons (.var 3) .nil))))) (.cons (.app 5 (.bin .sub (.bin .mul (.var 6) (.idx (.var 1) (.cst (.int 1)))) (.bin .mul (.bin .mul (.idx (.var 1) (.cst (.int 0))) (.var 2)) (.idx (.idx (.var 0) (.cst (.int 0))) (.var 3))))) .nil))) (.cons (.frz 5) (.cons (.ret (.var 5)) .nil))))
abbrev f__law_surplus : Nat × Df := (35, ⟨3, 7, b__law_surplus⟩)
def n__law_limits : List Str := ["_law_plan_so", "_law_many", "_law_found", "_law_part"]
def b__law_limits : B := (.cons (.asg (.var 2) (.tup .nil)) (.cons (.for_ (.var 3) (.seq (.idx (.var 0) (.cst (.int 2)))) (.cons (.asg (.var 2) (.bin .add (.var 2) (.tup (.cons (.bin .div (.bi .int (.cons (.bin .sub (.bin .mul (.var 3) (.var 1)) (.bin .mod (.bi .int (.cons (.bin .mul (.var 3) (.var 1)) .nil)) (.idx (.var 0) (.cst (.int 1))))) .nil)) (.idx (.var 0) (.cst (.int 1)))) .nil)))) .nil)) (.cons (.ret (.var 2)) .nil)))
abbrev f__law_limits : Nat × Df := (36, ⟨2, 4, b__law_limits⟩)
def n_regret_lines : List Str := ["plan", "rest"]
def b_regret_lines : B := (.cons (.expr (.call 29 (.cons (.var 0) .nil))) (.cons (.ret (.bi .tuple (.cons (.lc (.call 38 (.cons (.var 0) (.cons (.var 1) .nil))) (.var 1) (.rng1 (.idx (.var 0) (.cst (.int 1)))) none) .nil))) .nil))
abbrev f_regret_lines : Nat × Df := (37, ⟨1, 2, b_regret_lines⟩)
def n__law_pieces_right : List Str := ["_law_m", "_law_plan_so", "_law_rest", "_law_pieces", "_law_k", "_law_far", "_law_last", "_law_spot", "_law_n", "_law_slope", "_law_base", "_law_before"]
def b__law_pieces_right : B := (.cons (.ife (.or (.cmp .eq (.var 3) (.tup .nil)) (.cmp .ne (.idx (.idx (.var 3) (.cst (.int 0))) (.cst (.int 0))) (.bi .int (.cons (.cmp .eq (.var 2) (.cst (.int 0))) .nil)))) (.cons (.ret (.cst (.bl false))) .nil) .nil) (.cons (.for_ (.var 4) (.rng1 (.bi .len (.cons (.var 3) .nil))) (.cons (.asg (.tup [(.var 8), (.var 9), (.var 10)]) (.idx (.var 3) (.var 4))) (.cons (.asg (.var 6) (.bin .add (.bin .add (.var 8) (.cst (.int 1))) (.draw (.var 0) (.bin .pow (.cst (.int 10)) (.cst (.int 9)))))) (.cons (.ife (.cmp .lt (.bin .add (.var 4) (.cst (.int 1))) (.bi .len (.cons (.var 3) .nil))) (.cons (.asg (.var 6) (.bin .sub (.idx (.idx (.var 3) (.bin .add (.var 4) (.cst (.int 1)))) (.cst (.int 0))) (.cst (.int 1)))) .nil) .nil) (.cons (.for_ (.var 7) (.seq (.tup (.cons (.var 8) (.cons (.var 6) (.cons (.bin .div (.bin .add (.var 8) (.var 6)) (.cst (.int 2))) .nil))))) (.cons (.ife (.cmp .ne (.bin .add (.bin .mul (.var 9) (.var 7)) (.var 10)) (.call 40 (.cons (.var 1) (.cons (.bin .add (.bin .mul (.var 7) (.idx (.var 1) (.cst (.int 1)))) (.var 2)) .nil)))) (.cons (.ret (.cst (.bl false))) .nil) .nil) .nil)) (.cons (.ife (.cmp .ne (.var 9) (.call 41 (.cons (.var 1) (.cons (.bin .add (.bin .mul (.var 8) (.idx (.var 1) (.cst (.int 1)))) (.var 2)) .nil)))) (.cons (.ret (.cst (.bl false))) .nil) .nil) (.cons (.ife (.cmp .gt (.var 4) (.cst (.int 0))) (.cons (.asg (.var 11) (.idx (.var 3) (.bin .sub (.var 4) (.cst (.int 1))))) (.cons (.ife (.cmp .ge (.bin .add (.bin .mul (.idx (.var 11) (.cst (.int 1))) (.var 8)) (.idx (.var 11) (.cst (.int 2)))) (.bin .add (.bin .mul (.var 9) (.var 8)) (.var 10))) (.cons (.ret (.cst (.bl false))) .nil) .nil) .nil)) .nil) .nil))))))) (.cons (.asg (.var 5) (.bin .add (.bin .mul (.bin .pow (.cst (.int 10)) (.cst (.int 20))) (.idx (.var 1) (.cst (.int 1)))) (.var 2))) (.cons (.asg (.tup [(.var 8), (.var 9), (.var 10)]) (.idx (.var 3) (.neg (.cst (.int 1))))) (.cons (.ife (.cmp .ne (.bin .add (.bin .mul (.var 9) (.bin .pow (.cst (.int 10)) (.cst (.int 20)))) (.var 10)) (.call 40 (.cons (.var 1) (.cons (.var 5) .nil)))) (.cons (.ret (.cst (.bl false))) .nil) .nil) (.cons (.ret (.cmp .eq (.var 9) (.call 41 (.cons (.var 1) (.cons (.var 5) .nil))))) .nil))))))
abbrev f__law_pieces_right : Nat × Df := (39, ⟨4, 12, b__law_pieces_right⟩)
def n__law_regret : List Str := ["_law_plan_so", "_law_many", "_law_k", "_law_limits_here", "_law_found"]
def b__law_regret : B := (.cons (.par [(3, false), (4, false)] (.cons (.call 36 (.cons (.var 0) (.cons (.var 1) .nil))) (.cons (.cst (.int 0)) .nil))) (.cons (.for_ (.var 2) (.rng1 (.bi .len (.cons (.idx (.var 0) (.cst (.int 0))) .nil))) (.cons (.asg (.var 4) (.bi .max2 (.cons (.var 4) (.cons (.bin .sub (.bin .mul (.var 1) (.idx (.idx (.var 0) (.cst (.int 0))) (.var 2))) (.call 26 (.cons (.idx (.var 0) (.cst (.int 0))) (.cons (.var 3) (.cons (.var 2) .nil))))) .nil)))) .nil)) (.cons (.ret (.var 4)) .nil)))
abbrev f__law_regret : Nat × Df := (40, ⟨2, 5, b__law_regret⟩)
def n_pieces_at : List Str := ["plan", "rest", "found", "lines", "number", "here"]
def b_pieces_at : B := (.cons (.par [(3, false), (4, false)] (.cons (.call 42 (.cons (.var 0) (.cons (.var 1) .nil))) (.cons (.ife (.cmp .gt (.var 1) (.cst (.int 0))) (.cst (.int 0)) (.cst (.int 1))) .nil))) (.cons (.own 2 (.lst .nil)) (.cons (.whl FUEL (.cmp .notN (.var 4) (.cst .non)) (.cons (.asg (.var 5) (.call 43 (.cons (.var 3) (.cons (.var 4) .nil)))) (.cons (.app 2 (.tup (.cons (.var 4) (.cons (.idx (.var 5) (.cst (.int 0))) (.cons (.idx (.var 5) (.cst (.int 1))) .nil))))) (.cons (.asg (.var 4) (.call 44 (.cons (.var 3) (.cons (.var 5) (.cons (.var 4) .nil))))) .nil)))) (.cons (.frz 2) (.cons (.ret (.bi .tuple (.cons (.var 2) .nil))) .nil)))))
abbrev f_pieces_at : Nat × Df := (38, ⟨2, 6, b_pieces_at⟩)
def n__law_steepest : List Str := ["_law_plan_so", "_law_many", "_law_k", "_law_whole", "_law_found", "_law_values", "_law_here", "_law_limits_here"]
def b__law_steepest : B := (.cons (.par [(3, false), (4, true)] (.cons (.call 40 (.cons (.var 0) (.cons (.var 1) .nil))) (.cons (.lst .nil) .nil))) (.cons (.for_ (.var 2) (.rng1 (.bi .len (.cons (.idx (.var 0) (.cst (.int 0))) .nil))) (.cons (.own 5 (.lst .nil)) (.cons (.for_ (.var 6) (.seq (.tup (.cons (.var 1) (.cons (.bin .add (.var 1) (.idx (.var 0) (.cst (.int 1)))) .nil)))) (.cons (.asg (.var 7) (.call 36 (.cons (.var 0) (.cons (.var 6) .nil)))) (.cons (.app 5 (.bin .sub (.bin .mul (.var 6) (.idx (.idx (.var 0) (.cst (.int 0))) (.var 2))) (.call 26 (.cons (.idx (.var 0) (.cst (.int 0))) (.cons (.var 7) (.cons (.var 2) .nil)))))) .nil))) (.cons (.frz 5) (.cons (.ife (.cmp .eq (.idx (.var 5) (.cst (.int 0))) (.var 3)) (.cons (.frz 5) (.cons (.app 4 (.bin .sub (.idx (.var 5) (.cst (.int 1))) (.idx (.var 5) (.cst (.int 0))))) .nil)) .nil) .nil))))) (.cons (.frz 4) (.cons (.ret (.bi .max (.cons (.var 4) .nil))) .nil))))
abbrev f__law_steepest : Nat × Df := (41, ⟨2, 8, b__law_steepest⟩)
def n_lines_at : List Str := ["plan", "rest", "begin", "later", "near", "far"]
def b_lines_at : B := (.cons (.par [(2, false), (3, false)] (.cons (.call 8 (.cons (.var 0) (.cons (.var 1) .nil))) (.cons (.call 8 (.cons (.var 0) (.cons (.bin .add (.var 1) (.idx (.var 0) (.cst (.int 1)))) .nil))) .nil))) (.cons (.ret (.lc (.tup (.cons (.bin .sub (.var 5) (.var 4)) (.cons (.var 4) .nil))) (.tup [(.var 4), (.var 5)]) (.zip (.var 2) (.var 3)) none)) .nil))
abbrev f_lines_at : Nat × Df := (42, ⟨2, 6, b_lines_at⟩)
def n_best_line : List Str := ["lines", "number", "line"]
def b_best_line : B := (.cons (.ret (.idx (.bi .maxd (.cons (.lc (.tup (.cons (.call 45 (.cons (.var 2) (.cons (.var 1) .nil))) (.cons (.idx (.var 2) (.cst (.int 0))) (.cons (.var 2) .nil)))) (.var 2) (.seq (.var 0)) none) .nil)) (.cst (.int 2)))) .nil)
abbrev f_best_line : Nat × Df := (43, ⟨2, 3, b_best_line⟩)
def n_next_turn : List Str := ["lines", "here", "number", "found", "slope", "base", "turn"]
def b_next_turn : B := (.cons (.asg (.var 3) (.cst .non)) (.cons (.for_ (.tup [(.var 4), (.var 5)]) (.seq (.var 0)) (.cons (.ife (.cmp .gt (.var 4) (.idx (.var 1) (.cst (.int 0)))) (.cons (.asg (.var 6) (.bi .max2 (.cons (.bin .add (.var 2) (.cst (.int 1))) (.cons (.bin .add (.bin .div (.bin .sub (.idx (.var 1) (.cst (.int 1))) (.var 5)) (.bin .sub (.var 4) (.idx (.var 1) (.cst (.int 0))))) (.cst (.int 1))) .nil)))) (.cons (.asg (.var 3) (.ife (.cmp .isN (.var 3) (.cst .non)) (.var 6) (.bi .min2 (.cons (.var 3) (.cons (.var 6) .nil))))) .nil)) .nil) .nil)) (.cons (.ret (.var 3)) .nil)))
abbrev f_next_turn : Nat × Df := (44, ⟨3, 7, b_next_turn⟩)
def n_value_at : List Str := ["line", "number"]
def b_value_at : B := (.cons (.ret (.bin .add (.bin .mul (.idx (.var 0) (.cst (.int 0))) (.var 1)) (.idx (.var 0) (.cst (.int 1))))) .nil)
abbrev f_value_at : Nat × Df := (45, ⟨2, 2, b_value_at⟩)
def n__law_ends : List Str := ["_law_hall_so", "_law_some", "_law_none", "_law_known", "_law_layer", "_law_further", "_law_sold_so", "_law_counts", "_law_k", "_law_after_so", "_law_fresh"]
def b__law_ends : B := (.cons (.asg (.var 2) (.bin .mul (.tup (.cons (.cst (.int 0)) .nil)) (.bi .len (.cons (.idx (.var 0) (.cst (.int 1))) .nil)))) (.cons (.par [(3, true), (4, false)] (.cons (.done (.tup (.cons (.var 2) (.cons (.var 2) .nil))) (.cst (.bl true))) (.cons (.lst (.cons (.tup (.cons (.var 2) (.cons (.var 2) .nil))) .nil)) .nil))) (.cons (.whl FUEL (.cmp .ne (.var 4) (.lst .nil)) (.cons (.own 5 (.lst .nil)) (.cons (.for_ (.tup [(.var 6), (.var 7)]) (.seq (.var 4)) (.cons (.for_ (.var 8) (.rng1 (.bi .len (.cons (.var 2) .nil))) (.cons (.asg (.var 9) (.idx (.call 80 (.cons (.var 0) (.cons (.var 1) (.cons (.var 6) (.cons (.cst (.int 0)) (.cons (.var 8) .nil)))))) (.cst (.int 0)))) (.cons (.asg (.var 10) (.tup (.cons (.var 9) (.cons (.call 94 (.cons (.var 0) (.cons (.var 7) (.cons (.var 8) .nil)))) .nil)))) (.cons (.ife (.inO true (.var 10) 3) (.cons (.sto 3 (.var 10) (.cst (.bl true))) (.cons (.app 5 (.var 10)) .nil)) .nil) .nil)))) .nil)) (.cons (.frz 5) (.cons (.asg (.var 4) (.var 5)) .nil))))) (.cons (.frz 3) (.cons (.ret (.lc (.tup (.cons (.call 82 (.cons (.var 0) (.cons (.var 6) .nil))) (.cons (.call 82 (.cons (.var 0) (.cons (.var 7) .nil))) .nil))) (.tup [(.var 6), (.var 7)]) (.seq (.var 3)) none)) .nil)))))
abbrev f__law_ends : Nat × Df := (93, ⟨2, 11, b__law_ends⟩)
def n__law_share_least : List Str := ["_law_pairs", "_law_best", "_law_near", "_law_far"]
def b__law_share_least : B := (.cons (.asg (.var 1) (.tup (.cons (.cst (.int 1)) (.cons (.cst (.int 1)) .nil)))) (.cons (.for_ (.tup [(.var 2), (.var 3)]) (.seq (.var 0)) (.cons (.ife (.and (.cmp .gt (.var 3) (.cst (.int 0))) (.cmp .lt (.bin .mul (.var 2) (.idx (.var 1) (.cst (.int 1)))) (.bin .mul (.idx (.var 1) (.cst (.int 0))) (.var 3)))) (.cons (.asg (.var 1) (.call 27 (.cons (.var 2) (.cons (.var 3) .nil)))) .nil) .nil) .nil)) (.cons (.ret (.var 1)) .nil)))
abbrev f__law_share_least : Nat × Df := (95, ⟨1, 4, b__law_share_least⟩)
def n__law_seen_with : List Str := ["_law_hall_so", "_law_counts", "_law_k", "_law_more_here", "_law_j"]
def b__law_seen_with : B := (.cons (.asg (.var 3) (.call 85 (.cons (.var 1) (.cons (.var 2) (.cons (.cst (.int 1)) .nil))))) (.cons (.ife (.cmp .le (.bi .sum (.cons (.var 3) .nil)) (.idx (.var 0) (.cst (.int 0)))) (.cons (.ret (.var 3)) .nil) .nil) (.cons (.ret (.call 85 (.cons (.var 3) (.cons (.idx (.lc (.var 4) (.var 4) (.rng1 (.bi .len (.cons (.var 3) .nil))) (some (.cmp .gt (.idx (.var 3) (.var 4)) (.cst (.int 0))))) (.cst (.int 0))) (.cons (.neg (.cst (.int 1))) .nil))))) .nil)))
abbrev f__law_seen_with : Nat × Df := (94, ⟨3, 5, b__law_seen_with⟩)
end Bk

set_option Elab.async false
set_option linter.all false
namespace Bk
open PySem
def n_law : List Str := ["_law_script", "_law_m", "_law_turn", "_law_plan_here", "_law_told_so", "_law_due", "_law_many", "_law_pairs", "_law_limits_here", "_law_hall_so", "_law_near", "_law_far"]
def b_law : B := (.cons (.for_ (.var 2) (.rng1 (.bin .add (.cst (.int 3)) (.bi .min2 (.cons (.cst (.int 5)) (.cons (.bi .len (.cons (.var 0) .nil)) .nil))))) (.cons (.asg (.var 3) (.call 0 (.cons (.var 1) (.cons (.cst (.int 3)) (.cons (.call 9 (.cons (.var 1) (.cons (.lst (.cons (.cst (.int 3)) (.cons (.cst (.int 7)) (.cons (.cst (.int 12)) .nil)))) .nil))) .nil))))) (.cons (.asg (.var 6) (.bin .add (.cst (.int 1)) (.draw (.var 1) (.cst (.int 4))))) (.cons (.par [(8, false), (9, false)] (.cons (.call 36 (.cons (.var 3) (.cons (.var 6) .nil))) (.cons (.tup (.cons (.var 6) (.cons (.idx (.var 3) (.cst (.int 0))) .nil))) .nil))) (.cons (.own 4 (.lst (.cons (.call 14 (.cons (.var 3) (.cons (.var 6) .nil))) (.cons (.call 14 (.cons (.var 3) (.cons (.var 6) .nil))) (.cons (.call 6 (.cons (.var 3) .nil)) .nil))))) (.cons (.frz 4) (.cons (.ife (.not (.call 17 (.cons (.var 4) (.cons (.lst (.cons (.var 8) (.cons (.var 8) (.cons (.var 3) .nil)))) .nil)))) (.cons (.ret (.cst (.bl false))) .nil) .nil) (.cons (.asg (.var 7) (.call 93 (.cons (.var 9) (.cons (.tup (.cons (.cst (.str "nested")) (.cons (.var 8) .nil))) .nil)))) (.cons (.asg (.var 5) (.lst (.cons (.bi .max (.cons (.lc (.bin .sub (.var 11) (.var 10)) (.tup [(.var 10), (.var 11)]) (.seq (.var 7)) none) .nil)) (.cons (.call 95 (.cons (.var 7) .nil)) .nil)))) (.cons (.own 4 (.lst (.cons (.call 5 (.cons (.var 3) (.cons (.var 6) .nil))) (.cons (.call 10 (.cons (.var 3) (.cons (.var 6) .nil))) .nil)))) (.cons (.frz 4) (.cons (.ife (.not (.call 17 (.cons (.lst (.cons (.var 4) (.cons (.lst (.cons (.call 5 (.cons (.var 3) (.cons (.var 6) .nil))) (.cons (.call 10 (.cons (.var 3) (.cons (.var 6) .nil))) .nil))) .nil))) (.cons (.lst (.cons (.var 5) (.cons (.var 5) .nil))) .nil)))) (.cons (.ret (.cst (.bl false))) .nil) .nil) .nil)))))))))))) (.cons (.asg (.var 3) (.tup (.cons (.tup (.cons (.cst (.int 1)) (.cons (.cst (.int 3)) .nil))) (.cons (.cst (.int 3)) (.cons (.tup (.cons (.cst (.int 2)) (.cons (.cst (.int 3)) .nil))) .nil))))) (.cons (.own 4 (.lst (.cons (.call 14 (.cons (.var 3) (.cons (.bin .pow (.cst (.int 10)) (.cst (.int 30))) .nil))) (.cons (.call 5 (.cons (.var 3) (.cons (.bin .mul (.cst (.int 3)) (.bin .pow (.cst (.int 10)) (.cst (.int 29)))) .nil))) (.cons (.call 10 (.cons (.var 3) (.cons (.cst (.int 3)) .nil))) .nil))))) (.cons (.app 4 (.call 10 (.cons (.var 3) (.cons (.cst (.int 1)) .nil)))) (.cons (.asg (.var 5) (.lst (.cons (.tup (.cons (.bin .div (.bin .mul (.cst (.int 2)) (.bin .pow (.cst (.int 10)) (.cst (.int 30)))) (.cst (.int 3))) (.cons (.bin .pow (.cst (.int 10)) (.cst (.int 30))) .nil))) (.cons (.bin .mul (.cst (.int 4)) (.bin .pow (.cst (.int 10)) (.cst (.int 29)))) (.cons (.tup (.cons (.cst (.int 5)) (.cons (.cst (.int 9)) .nil))) (.cons (.tup (.cons (.cst (.int 0)) (.cons (.cst (.int 1)) .nil))) .nil)))))) (.cons (.frz 4) (.cons (.ret (.call 17 (.cons (.var 4) (.cons (.var 5) .nil)))) .nil)))))))
def p : Pr := ⟨[(0, (.int 1000000000)), (1, (.int 1000000000000000000000000000000)), (2, (.int 4)), (3, (.int 99)), (7, (.int 3)), (8, (.int 7)), (6, (.int 400)), (5, (.int 6)), (9, (.str "kept")), (10, (.str "nested")), (11, (.str "apart")), (12, (.str "any")), (13, (.str "all")), (14, (.int 99)), (15, (.str "oust")), (16, (.str "taken")), (17, (.str "ousted")), (18, (.str "refused")), (19, (.str "rising"))], [f__law_like, f__law_plan, f__law_ends, f_limits_of, f_regret_of, f_share_of, f__law_of, f__law_limits, f_need_plan, f__law_share_least, f__law_fares, f__law_worth, f__law_deal, f__law_seen_with, f_need_room, f_limits_in, f_regrets_at, f_gains_by, f_lesser_share, f_need_fares, f_is_whole, f_are_rising, f__law_least, f__law_lets_84, f__law_more, f_fraction, f_are_fares, f_common, f_long_share, f_long_in, f_regret, f_got, f_hindsight, f_went, f_worth_of, f_seen, f_need_rule, f_went_of, f_need_calls, f_need_hall, f_seen_of, f_is_word, f_parts_of, f_none_of, f_step_of, f_seen_with, f_is_plain, f_cheapest_sold, f_lets_of, f_with_more, f_are_limits, f_lets_plain, f_share, f__law_nets, f__law_best, f__law_row, f__law_is_less, f_parting_row, f_fares_at, f__law_parting, f__law_near, f__law_plain, f__law_rule, f__law_hall]⟩
end Bk

set_option Elab.async false
set_option linter.all false
namespace Pk
open PySem Bk
class HP (p : Bk.Pr) : Prop where
  c_MOST_OF : p.cs.lookup 0 = some (.int 1000000000)
  c_MOST_ROOM : p.cs.lookup 1 = some (.int 1000000000000000000000000000000)
  c_MOST_FARES : p.cs.lookup 2 = some (.int 4)
  c_MOST_FARE : p.cs.lookup 3 = some (.int 99)
  h_limits_of : p.ds.lookup 14 = some Bk.f_limits_of.2
  h_need_plan : p.ds.lookup 6 = some Bk.f_need_plan.2
  h_need_room : p.ds.lookup 7 = some Bk.f_need_room.2
  h_limits_in : p.ds.lookup 12 = some Bk.f_limits_in.2
  h_need_fares : p.ds.lookup 20 = some Bk.f_need_fares.2
  h_is_whole : p.ds.lookup 21 = some Bk.f_is_whole.2
  h_are_rising : p.ds.lookup 22 = some Bk.f_are_rising.2
  h_are_fares : p.ds.lookup 24 = some Bk.f_are_fares.2
  h_regret_of : p.ds.lookup 5 = some Bk.f_regret_of.2
  h_regrets_at : p.ds.lookup 8 = some Bk.f_regrets_at.2
  h_gains_by : p.ds.lookup 11 = some Bk.f_gains_by.2
  h_share_of : p.ds.lookup 10 = some Bk.f_share_of.2
  h_lesser_share : p.ds.lookup 13 = some Bk.f_lesser_share.2
  h_fraction : p.ds.lookup 23 = some Bk.f_fraction.2
  h_common : p.ds.lookup 4 = some Bk.f_common.2
  h_long_share : p.ds.lookup 15 = some Bk.f_long_share.2
  h_long_in : p.ds.lookup 16 = some Bk.f_long_in.2
  h__law_plan : p.ds.lookup 0 = some Bk.f__law_plan.2
  h__law_fares : p.ds.lookup 1 = some Bk.f__law_fares.2
  h__law_of : p.ds.lookup 9 = some Bk.f__law_of.2
end Pk

set_option Elab.async false
set_option linter.all false
set_option maxRecDepth 100000
/-! The evaluator, step by step. -/
namespace Pk
open PySem Bk
@[simp] theorem r_ok {α β : Type} (a : α) (g : G) (k : α → G → R β) : (R.ok a g).bind k = k a g := rfl
@[simp] theorem r_st {α β : Type} (k : α → G → R β) : (R.st : R α).bind k = .st := rfl
@[simp] theorem r_ex {α β : Type} (c : Nat) (ds : List D) (g : G) (k : α → G → R β) : (R.ex c ds g : R α).bind k = .ex c ds g := rfl
@[simp] theorem l_some {α : Type} (a : α) (g : G) : lift (some a) g = .ok a g := rfl
@[simp] theorem l_none {α : Type} (g : G) : lift (none : Option α) g = .st := rfl
@[simp] theorem b_ok (b : Bool) (g : G) : blR (.ok (.bl b) g) = .ok b g := rfl
@[simp] theorem e_nx (Γ : Gm) (g : G) : endR (.ok (.nx Γ) g) = .ok .non g := rfl
@[simp] theorem e_rt (d : D) (g : G) : endR (.ok (.rt d) g) = .ok d g := rfl
section
variable (cs : List (Nat × D)) (call : Nat → List D → G → R D) (Γ : Gm) (g : G)
@[simp] theorem x_cst (d : D) : evE cs call (.cst d) Γ g = .ok d g := by simp only [evE]
@[simp] theorem x_var (i : Nat) : evE cs call (.var i) Γ g = match Γ[i]? with | some (.val d) => .ok d g | _ => .st := by simp only [evE] <;> rfl
@[simp] theorem x_glb (i : Nat) : evE cs call (.glb i) Γ g = lift (cs.lookup i) g := by simp only [evE]
@[simp] theorem x_bin (o : Op) (a b : E) : evE cs call (.bin o a b) Γ g = (evE cs call a Γ g).bind fun x g => (evE cs call b Γ g).bind fun y g => lift (opD o x y) g := by simp only [evE]
@[simp] theorem x_neg (a : E) : evE cs call (.neg a) Γ g = (evE cs call a Γ g).bind fun x g => match x with | .int i => .ok (.int (-i)) g | _ => .st := by simp only [evE] <;> rfl
@[simp] theorem x_cmp (o : Cm) (a b : E) : evE cs call (.cmp o a b) Γ g = (evE cs call a Γ g).bind fun x g => (evE cs call b Γ g).bind fun y g => lift ((cmpD o x y).map .bl) g := by simp only [evE]
@[simp] theorem x_chn (o q : Cm) (a b c : E) : evE cs call (.chn o q a b c) Γ g = (evE cs call a Γ g).bind fun x g => (evE cs call b Γ g).bind fun y g => (lift (cmpD o x y) g).bind fun k g =>
      if k then (evE cs call c Γ g).bind fun z g => lift ((cmpD q y z).map .bl) g else .ok (.bl false) g := by simp only [evE]
@[simp] theorem x_and (a b : E) : evE cs call (.and a b) Γ g = (blR (evE cs call a Γ g)).bind fun k g => if k then (blR (evE cs call b Γ g)).bind fun j g => .ok (.bl j) g else .ok (.bl false) g := by simp only [evE]
@[simp] theorem x_or (a b : E) : evE cs call (.or a b) Γ g = (blR (evE cs call a Γ g)).bind fun k g => if k then .ok (.bl true) g else (blR (evE cs call b Γ g)).bind fun j g => .ok (.bl j) g := by simp only [evE]
@[simp] theorem x_not (a : E) : evE cs call (.not a) Γ g = (blR (evE cs call a Γ g)).bind fun k g => .ok (.bl (!k)) g := by simp only [evE]
@[simp] theorem x_ife (c a b : E) : evE cs call (.ife c a b) Γ g = (blR (evE cs call c Γ g)).bind fun k g => if k then evE cs call a Γ g else evE cs call b Γ g := by simp only [evE]
@[simp] theorem x_tup (as : A) : evE cs call (.tup as) Γ g = (evA cs call as Γ g).bind fun xs g => .ok (.tup xs) g := by simp only [evE]
@[simp] theorem x_lst (as : A) : evE cs call (.lst as) Γ g = (evA cs call as Γ g).bind fun xs g => .ok (.lst xs) g := by simp only [evE]
@[simp] theorem x_idx (a b : E) : evE cs call (.idx a b) Γ g = (evE cs call a Γ g).bind fun x g => (evE cs call b Γ g).bind fun y g => lift (idxD x y) g := by simp only [evE]
@[simp] theorem x_sl (a : E) (lo hi : Option E) : evE cs call (.sl a lo hi) Γ g = (evE cs call a Γ g).bind fun x g => (evO cs call lo Γ g).bind fun l g => (evO cs call hi Γ g).bind fun h g => lift (slD x l h) g := by simp only [evE]
@[simp] theorem x_call (f : Nat) (as : A) : evE cs call (.call f as) Γ g = (evA cs call as Γ g).bind fun xs g => call f xs g := by simp only [evE]
@[simp] theorem x_bi (b : Bi) (as : A) : evE cs call (.bi b as) Γ g = (evA cs call as Γ g).bind fun xs g => lift (biD b xs) g := by simp only [evE]
@[simp] theorem x_isi (a : E) (ts : List Ty) : evE cs call (.isi a ts) Γ g = (evE cs call a Γ g).bind fun x g => lift ((isiD ts x).map .bl) g := by simp only [evE]
@[simp] theorem x_draw (a b : E) : evE cs call (.draw a b) Γ g = (evE cs call a Γ g).bind fun x g => (evE cs call b Γ g).bind fun y g => match x, y with
      | .m, .int lim => if 0 < lim ∧ lim < 2 ^ 4000 ∧ g.spot < 2 ^ 60 then .ok (.int (g.draw lim).1) (g.draw lim).2 else .st
      | _, _ => .st := by simp only [evE] <;> rfl
@[simp] theorem x_cat (a b : E) : evE cs call (.cat a b) Γ g = (evE cs call a Γ g).bind fun x g => (evE cs call b Γ g).bind fun y g => match x, y with
      | .lst xs, .lst ys => if xs.length + ys.length ≤ 1000000 then .ok (.lst (xs ++ ys)) g else .st
      | _, _ => .st := by simp only [evE] <;> rfl
@[simp] theorem x_rev (a : E) : evE cs call (.rev a) Γ g = (evE cs call a Γ g).bind fun x g => match x with
      | .lst xs => .ok (.lst xs.reverse) g
      | _ => .st := by simp only [evE] <;> rfl
@[simp] theorem x_idxO (i : Nat) (b : E) : evE cs call (.idxO i b) Γ g = match Γ[i]? with
      | some (.own d) => (evE cs call b Γ g).bind fun y g => lift (idxD d y) g
      | _ => .st := by simp only [evE] <;> rfl
@[simp] theorem x_dnil : evE cs call .dnil Γ g = .ok (.dct [] []) g := by simp only [evE]
@[simp] theorem x_done (a b : E) : evE cs call (.done a b) Γ g = (evE cs call a Γ g).bind fun k g => (evE cs call b Γ g).bind fun v g => if okK k then .ok (.dct [k] [v]) g else .st := by simp only [evE]
@[simp] theorem x_inO (neg : Bool) (a : E) (i : Nat) : evE cs call (.inO neg a i) Γ g = (evE cs call a Γ g).bind fun k g => match Γ[i]? with
      | some (.own (.dct ks vs)) => if okK k then .ok (.bl (if neg then !(getK (keyD k) ks vs).isSome else (getK (keyD k) ks vs).isSome)) g else .st
      | _ => .st := by simp only [evE] <;> rfl
@[simp] theorem x_lenO (i : Nat) : evE cs call (.lenO i) Γ g = match Γ[i]? with
      | some (.own (.dct ks vs)) => if ks.length ≤ 1000000 then .ok (.int ks.length) g else .st
      | _ => .st := by simp only [evE] <;> rfl
@[simp] theorem x_lrng1 (a : E) : evE cs call (.lrng1 a) Γ g = (evE cs call a Γ g).bind fun x g => match x with | .int i => if -1000000 ≤ i ∧ i ≤ 1000000 then .ok (.lst (rngD 0 i.toNat)) g else .st | _ => .st := by simp only [evE] <;> rfl
@[simp] theorem x_lrng2 (a b : E) : evE cs call (.lrng2 a b) Γ g = (evE cs call a Γ g).bind fun x g => (evE cs call b Γ g).bind fun y g => match x, y with
      | .int i, .int j => if (-1000000 ≤ i ∧ i ≤ 1000000) ∧ -1000000 ≤ j ∧ j ≤ 1000000 then .ok (.lst (rngD i (j - i).toNat)) g else .st
      | _, _ => .st := by simp only [evE] <;> rfl
@[simp] theorem x_emO (neg : Bool) (i : Nat) : evE cs call (.emO neg i) Γ g = match Γ[i]? with
      | some (.own (.lst xs)) => .ok (.bl (if neg then !xs.isEmpty else xs.isEmpty)) g
      | _ => .st := by simp only [evE] <;> rfl
@[simp] theorem x_tupS (as : A) : evE cs call (.tupS as) Γ g = (evA cs call as Γ g).bind fun xs g => if xs.length ≤ 1000000 then .ok (.tup xs) g else .st := by simp only [evE]
@[simp] theorem x_lstS (as : A) : evE cs call (.lstS as) Γ g = (evA cs call as Γ g).bind fun xs g => if xs.length ≤ 1000000 then .ok (.lst xs) g else .st := by simp only [evE]
@[simp] theorem a_star (e : E) (as : A) : evA cs call (.star e as) Γ g = (evE cs call e Γ g).bind fun x g => match itemsD x with
      | some ys => (evA cs call as Γ g).bind fun xs g => .ok (ys ++ xs) g
      | none => .st := by simp only [evA] <;> rfl
@[simp] theorem s_sto' (i : Nat) (a b : E) : evS cs call (.sto i a b) Γ g = (evE cs call b Γ g).bind fun y g => match Γ[i]? with
      | some (.own (.lst xs)) => (evE cs call a Γ g).bind fun k g => (match k with
        | .int k => (match ixD xs.length k with
          | some j => .ok (.nx (Γ.set i (.own (.lst (xs.set j y))))) g
          | none => .st)
        | _ => .st)
      | some (.own (.dct ks vs)) => (evE cs call a Γ g).bind fun k g => if okK k && decide (ks.length < 1000000) then .ok (.nx (Γ.set i (.own (putD ks vs k y)))) g else .st
      | _ => .st := by simp only [evS] <;> rfl
@[simp] theorem s_pop' (t : T) (i : Nat) : evS cs call (.pop t i) Γ g = match Γ[i]? with
      | some (.own (.lst xs)) => (match xs[xs.length - 1]? with
        | some x => (lift (setT t x (Γ.set i (.own (.lst xs.dropLast)))) g).bind fun Γ' g => .ok (.nx Γ') g
        | none => .st)
      | _ => .st := by simp only [evS] <;> rfl
@[simp] theorem s_ext' (i : Nat) (e : E) : evS cs call (.ext i e) Γ g = match Γ[i]? with
      | some (.own (.lst xs)) => (evE cs call e Γ g).bind fun y g => (match y with
        | .lst ys => if xs.length + ys.length ≤ 1000000 then .ok (.nx (Γ.set i (.own (.lst (xs ++ ys))))) g else .st
        | _ => .st)
      | _ => .st := by simp only [evS] <;> rfl
theorem s_whl' (n : Nat) (c : E) (b : B) : evS cs call (.whl n c b) Γ g = whlR (fun Γ g => blR (evE cs call c Γ g)) (fun Γ g => evB cs call b Γ g) n Γ g := by simp only [evS]
@[simp] theorem i_rng2 (a b : E) : evI cs call (.rng2 a b) Γ g = (evE cs call a Γ g).bind fun x g => (evE cs call b Γ g).bind fun y g => match x, y with
      | .int i, .int j => if (-1000000 ≤ i ∧ i ≤ 1000000) ∧ -1000000 ≤ j ∧ j ≤ 1000000 then .ok (rngD i (j - i).toNat) g else .st
      | _, _ => .st := by simp only [evI] <;> rfl
@[simp] theorem o_none : evO cs call none Γ g = .ok none g := by simp only [evO]
@[simp] theorem o_some (e : E) : evO cs call (some e) Γ g = (evE cs call e Γ g).bind fun x g => match x with | .int i => .ok (some i) g | _ => .st := by simp only [evO] <;> rfl
@[simp] theorem a_nil : evA cs call .nil Γ g = .ok [] g := by simp only [evA]
@[simp] theorem a_cons (e : E) (as : A) : evA cs call (.cons e as) Γ g = (evE cs call e Γ g).bind fun x g => (evA cs call as Γ g).bind fun xs g => .ok (x :: xs) g := by simp only [evA]
@[simp] theorem i_seq (e : E) : evI cs call (.seq e) Γ g = (evE cs call e Γ g).bind fun x g => lift (seqD x) g := by simp only [evI]
@[simp] theorem i_zip (a b : E) : evI cs call (.zip a b) Γ g = (evE cs call a Γ g).bind fun x g => (evE cs call b Γ g).bind fun y g => match itemsD x, itemsD y with
      | some xs, some ys => .ok (zipD xs ys) g
      | _, _ => .st := by simp only [evI] <;> rfl
@[simp] theorem i_enum (a : E) : evI cs call (.enum a) Γ g = (evE cs call a Γ g).bind fun x g => match itemsD x with
      | some xs => .ok (enumD 0 xs) g
      | _ => .st := by simp only [evI] <;> rfl
@[simp] theorem i_rng1 (a : E) : evI cs call (.rng1 a) Γ g = (evE cs call a Γ g).bind fun x g => match x with | .int i => if -1000000 ≤ i ∧ i ≤ 1000000 then .ok (rngD 0 i.toNat) g else .st | _ => .st := by simp only [evI] <;> rfl
@[simp] theorem s_expr' (e : E) : evS cs call (.expr e) Γ g = (evE cs call e Γ g).bind fun _ g => .ok (.nx Γ) g := by simp only [evS]
@[simp] theorem s_asg' (t : T) (e : E) : evS cs call (.asg t e) Γ g = (evE cs call e Γ g).bind fun x g => (lift (setT t x Γ) g).bind fun Γ' g => .ok (.nx Γ') g := by simp only [evS]
@[simp] theorem s_own' (i : Nat) (e : E) : evS cs call (.own i e) Γ g = (evE cs call e Γ g).bind fun x g => match x with
      | .lst xs => if i < Γ.length then .ok (.nx (Γ.set i (.own (.lst xs)))) g else .st
      | .dct ks vs => if i < Γ.length then .ok (.nx (Γ.set i (.own (.dct ks vs)))) g else .st
      | _ => .st := by simp only [evS] <;> rfl
@[simp] theorem s_par' (ts : List (Nat × Bool)) (as : A) : evS cs call (.par ts as) Γ g = (evA cs call as Γ g).bind fun xs g => (lift (parG ts xs Γ) g).bind fun Γ' g => .ok (.nx Γ') g := by simp only [evS]
@[simp] theorem s_aug' (i : Nat) (e : E) : evS cs call (.aug i e) Γ g = match Γ[i]? with
      | some (.val x) => (evE cs call e Γ g).bind fun y g => (match x, y with
        | .int a, .int b => .ok (.nx (Γ.set i (.val (.int (a + b))))) g
        | _, _ => .st)
      | _ => .st := by simp only [evS] <;> rfl
@[simp] theorem s_ret' (e : E) : evS cs call (.ret e) Γ g = (evE cs call e Γ g).bind fun x g => .ok (.rt x) g := by simp only [evS]
@[simp] theorem s_ife' (c : E) (a b : B) : evS cs call (.ife c a b) Γ g = (blR (evE cs call c Γ g)).bind fun k g => if k then evB cs call a Γ g else evB cs call b Γ g := by simp only [evS]
@[simp] theorem s_app' (i : Nat) (e : E) : evS cs call (.app i e) Γ g = match Γ[i]? with
      | some (.own (.lst xs)) => (evE cs call e Γ g).bind fun y g => if xs.length < 1000000 then .ok (.nx (Γ.set i (.own (.lst (xs ++ [y]))))) g else .st
      | _ => .st := by simp only [evS] <;> rfl
@[simp] theorem s_frz' (i : Nat) : evS cs call (.frz i) Γ g = match Γ[i]? with
      | some (.own d) => .ok (.nx (Γ.set i (.val d))) g
      | _ => .ok (.nx Γ) g := by simp only [evS] <;> rfl
@[simp] theorem s_stop' : evS cs call .stop Γ g = .st := by simp only [evS]
@[simp] theorem s_pass' : evS cs call .pass Γ g = .ok (.nx Γ) g := by simp only [evS]
theorem s_for' (t : T) (it : I) (b : B) : evS cs call (.for_ t it b) Γ g = (evI cs call it Γ g).bind fun xs g => forR (fun x Γ g => (lift (setT t x Γ) g).bind fun Γ' g => evB cs call b Γ' g) xs Γ g := by simp only [evS]
@[simp] theorem b_nil : evB cs call .nil Γ g = .ok (.nx Γ) g := by simp only [evB]
@[simp] theorem b_cons (s : S) (b : B) : evB cs call (.cons s b) Γ g = (evS cs call s Γ g).bind fun fl g => match fl with
    | .nx Γ' => evB cs call b Γ' g
    | .rt d => .ok (.rt d) g := by simp only [evB] <;> rfl
end
@[simp] theorem t_var (i : Nat) (d : D) (Γ : Gm) : setT (.var i) d Γ = if i < Γ.length then some (Γ.set i (.val d)) else none := by simp only [setT]
@[simp] theorem t_tup (ts : List T) (ds : List D) (Γ : Gm) : setT (.tup ts) (.tup ds) Γ = setTs ts ds Γ := by simp only [setT]
@[simp] theorem ts_nil (Γ : Gm) : setTs [] [] Γ = some Γ := by simp only [setTs]
@[simp] theorem ts_cons (t : T) (ts : List T) (d : D) (ds : List D) (Γ : Gm) : setTs (t :: ts) (d :: ds) Γ = (setT t d Γ).bind (setTs ts ds) := by simp only [setTs]
@[simp] theorem v_var (i : Nat) : (T.var i).vars = [i] := by simp only [T.vars]
@[simp] theorem v_tup (ts : List T) : (T.tup ts).vars = varsT ts := by simp only [T.vars]
@[simp] theorem vs_nil : varsT [] = [] := by simp only [varsT]
@[simp] theorem vs_cons (t : T) (ts : List T) : varsT (t :: ts) = t.vars ++ varsT ts := by simp only [varsT]
@[simp] theorem w_nil (Γ : Gm) : wipeG Γ [] = Γ := rfl
@[simp] theorem w_cons (Γ : Gm) (v : Nat) (vs : List Nat) : wipeG Γ (v :: vs) = (wipeG Γ vs).set v .no := rfl
@[simp] theorem c_lt (i j : Int) : cmpD .lt (.int i) (.int j) = some (decide (i < j)) := rfl
@[simp] theorem c_le (i j : Int) : cmpD .le (.int i) (.int j) = some (decide (i ≤ j)) := rfl
@[simp] theorem c_gt (i j : Int) : cmpD .gt (.int i) (.int j) = some (decide (j < i)) := rfl
@[simp] theorem c_ge (i j : Int) : cmpD .ge (.int i) (.int j) = some (decide (j ≤ i)) := rfl
@[simp] theorem c_eq (i j : Int) : cmpD .eq (.int i) (.int j) = some (decide (i = j)) := rfl
@[simp] theorem c_ne (i j : Int) : cmpD .ne (.int i) (.int j) = some (!decide (i = j)) := rfl
@[simp] theorem c_eqs (i j : Str) : cmpD .eq (.str i) (.str j) = some (decide (i = j)) := rfl
@[simp] theorem o_add (i j : Int) : opD .add (.int i) (.int j) = some (.int (i + j)) := rfl
@[simp] theorem o_sub (i j : Int) : opD .sub (.int i) (.int j) = some (.int (i - j)) := rfl
theorem o_mul {i j : Int} (h : Bk.MulOk i j = true) : opD .mul (.int i) (.int j) = some (.int (i * j)) := by simp only [opD, h] <;> rfl
theorem o_div {i j : Int} (h : Bk.DivOk j = true) : opD .div (.int i) (.int j) = some (.int (i / j)) := by simp only [opD, h] <;> rfl
theorem o_mod {i j : Int} (h : 0 < j) : opD .mod (.int i) (.int j) = some (.int (i % j)) := by simp only [opD, h] <;> rfl
@[simp] theorem sq_tup (xs : List D) : seqD (.tup xs) = some xs := rfl
@[simp] theorem sq_lst (xs : List D) : seqD (.lst xs) = some xs := rfl
theorem sq_dct {ks vs : List D} (h : ks.length ≤ 1000000) : seqD (.dct ks vs) = some ks := by simp [seqD, h]
@[simp] theorem it_tup (xs : List D) : itemsD (.tup xs) = some xs := rfl
@[simp] theorem it_lst (xs : List D) : itemsD (.lst xs) = some xs := rfl
@[simp] theorem sl_tup (xs : List D) (lo hi : Option Int) : slD (.tup xs) lo hi = some (.tup (cutD xs lo hi)) := rfl
@[simp] theorem sl_lst (xs : List D) (lo hi : Option Int) : slD (.lst xs) lo hi = some (.lst (cutD xs lo hi)) := rfl
@[simp] theorem ix_tup (xs : List D) (i : Int) : idxD (.tup xs) (.int i) = atD xs i := rfl
@[simp] theorem ix_lst (xs : List D) (i : Int) : idxD (.lst xs) (.int i) = atD xs i := rfl
@[simp] theorem at_0 (x : D) (xs : List D) : atD (x :: xs) 0 = some x := rfl
@[simp] theorem at_1 (x y : D) (xs : List D) : atD (x :: y :: xs) 1 = some y := rfl
@[simp] theorem at_2 (x y z : D) (xs : List D) : atD (x :: y :: z :: xs) 2 = some z := rfl
@[simp] theorem bi_lent (xs : List D) : biD .len [.tup xs] = some (.int xs.length) := rfl
@[simp] theorem bi_lenl (xs : List D) : biD .len [.lst xs] = some (.int xs.length) := rfl
@[simp] theorem bi_lens (xs : List Int) : biD .len [.scr xs] = some (.int xs.length) := rfl
@[simp] theorem bi_tupl (xs : List D) : biD .tuple [.lst xs] = some (.tup xs) := rfl
@[simp] theorem bi_all (xs : List D) : biD .all [.lst xs] = (blsD xs).map fun bs => .bl (bs.all id) := rfl
@[simp] theorem bi_sum (xs : List D) : biD .sum [.lst xs] = (intsD xs).map fun ns => .int ns.sum := rfl
@[simp] theorem bi_int (i : Int) : biD .int [.int i] = some (.int i) := rfl
@[simp] theorem bi_sorted (xs : List D) : biD .sorted [.lst xs] = (intsD xs).map fun ns => .lst ((sortI ns).map .int) := rfl
@[simp] theorem is_int (i : Int) (ts : List Ty) : isiD ts (.int i) = some (ts.any (isI · (.int i))) := rfl
@[simp] theorem is_tup (i : List D) (ts : List Ty) : isiD ts (.tup i) = some (ts.any (isI · (.tup i))) := rfl
@[simp] theorem is_ii (i : Int) : isI .int (.int i) = true := rfl
@[simp] theorem is_bi (i : Int) : isI .bool (.int i) = false := rfl
@[simp] theorem is_tt (i : List D) : isI .tuple (.tup i) = true := rfl
theorem bi_max (xs : List D) : biD .max [.lst xs] = (intsD xs).bind fun | [] => none | n :: ns => some (.int (maxI n ns)) := rfl
theorem den_f {p : Pr} {f : Nat} {df : Df} {k : Nat} {ds : List D} {g : G} (h : p.ds.lookup f = some df) (hl : ds.length = df.np) (hn : df.np ≤ df.nn) : den p (k + 1) f ds g = endR (evB p.cs (den p k) df.body (startG df.nn ds) g) := by
  unfold den
  rw [h]
  simp only
  rw [if_pos ⟨hl, hn⟩]
def likeB : B := (.cons (.ret (.cmp .eq (.bi .repr (.cons (.var 0) .nil)) (.bi .repr (.cons (.var 1) .nil)))) .nil)
end Pk

set_option Elab.async false
set_option linter.all false
set_option maxRecDepth 100000
set_option maxHeartbeats 4000000
/-! The compact program's defs, what each answers. -/
namespace Pk
open PySem Bk
variable {p : Pr} [HP p]
/-! ### sizes -/
def Sm (x : Int) : Prop := x.natAbs < 10 ^ 100
theorem Sm.log {x : Int} (h : Sm x) : x.natAbs.log2 < 400 := by
  by_cases h0 : x.natAbs = 0
  · rw [h0]; decide
  · rw [Nat.log2_lt h0]
    exact Nat.lt_trans h (by decide)
theorem mulOk {i j : Int} (h1 : Sm i) (h2 : Sm j) : Bk.MulOk i j = true := by
  have := h1.log
  have := h2.log
  unfold Bk.MulOk
  exact decide_eq_true (by omega)
theorem divOk {j : Int} (h0 : 0 < j) (h : Sm j) : Bk.DivOk j = true := by
  have := h.log
  unfold Bk.DivOk
  rw [decide_eq_true h0, decide_eq_true (show j.natAbs.log2 < 9000 by omega)]
  rfl
theorem sm_of {x : Int} (h0 : -(10 ^ 99) ≤ x) (h1 : x ≤ 10 ^ 99) : Sm x := by
  unfold Sm
  omega
/-! ### walks -/
theorem lcR_ints {f : D → G → R (Option D)} {h : Int → D} : ∀ {ns : List Int} {g : G}, (∀ n ∈ ns, ∀ g, f (.int n) g = .ok (some (h n)) g) → lcR f (ns.map .int) g = .ok (ns.map h) g
  | [], g, _ => rfl
  | n :: ns, g, H => by
    simp only [List.map, lcR, H n (by simp), R.nox, R.bind, lcR_ints fun m hm => H m (List.mem_cons_of_mem _ hm)]
theorem lcR_zip {f : D → G → R (Option D)} {h : Int → Int → D} : ∀ {xs ys : List Int} {g : G}, (∀ q ∈ xs.zip ys, ∀ g, f (.tup [.int q.1, .int q.2]) g = .ok (some (h q.1 q.2)) g) → lcR f (zipD (xs.map .int) (ys.map .int)) g = .ok ((xs.zip ys).map fun q => h q.1 q.2) g
  | [], ys, g, _ => by cases ys <;> rfl
  | x :: xs, [], g, _ => rfl
  | x :: xs, y :: ys, g, H => by
    simp only [List.map, zipD, List.zip_cons_cons, lcR, H (x, y) (by simp), R.nox, R.bind, lcR_zip fun m hm => H m (List.mem_cons_of_mem _ hm)]
theorem bls_map {α : Type} (f : α → Bool) : ∀ l : List α, blsD (l.map fun a => D.bl (f a)) = some (l.map f)
  | [] => rfl
  | a :: l => by simp [blsD, bls_map f l]
theorem ints_map : ∀ l : List Int, intsD (l.map D.int) = some l
  | [] => rfl
  | a :: l => by simp [intsD, ints_map l]
theorem ints_mapf {α : Type} (f : α → Int) : ∀ l : List α, intsD (l.map fun a => D.int (f a)) = some (l.map f)
  | [] => rfl
  | a :: l => by simp [intsD, ints_mapf f l]
theorem tail_ints (l : List Int) : cutD (l.map D.int) (some 1) none = l.tail.map D.int := by
  cases l with
  | nil => rfl
  | cons a l =>
    simp [cutD, sIxD, List.take_of_length_le]
/-! ### the small ones -/
theorem is_whole_i (k : Nat) (v a b : Int) (g : G) : den p (k + 1) 21 [.int v, .int a, .int b] g = .ok (.bl (decide (a ≤ v) && decide (v ≤ b))) g := by
  refine Eq.trans (den_f HP.h_is_whole rfl (by decide)) ?_
  show endR (evB p.cs (den p k) b_is_whole [.val (.int v), .val (.int a), .val (.int b)] g) = _
  simp [b_is_whole, evB, evS, evE, evA, R.bind, lift, isiD, isI, blR, cmpD, endR]
  by_cases h : a ≤ v <;> simp [h]
theorem need_room_i (k : Nat) {s : Int} (g : G) (h0 : 1 ≤ s) (h1 : s ≤ 10 ^ 30) : den p (k + 2) 7 [.int s] g = .ok .non g := by
  refine Eq.trans (den_f HP.h_need_room rfl (by decide)) ?_
  show endR (evB p.cs (den p (k + 1)) b_need_room [.val (.int s)] g) = _
  have e := is_whole_i (p := p) k s 1 1000000000000000000000000000000 g
  have h2 : s ≤ 1000000000000000000000000000000 := h1
  simp [h0, h2] at e
  simp [b_need_room, evB, evS, evE, evA, R.bind, lift, blR, endR, HP.c_MOST_ROOM (p := p), e]
theorem like_r {f : Nat} (hf : p.ds.lookup f = some ⟨2, 2, likeB⟩) (k : Nat) (d : D) (g : G) (h1 : d.pl = true) (h2 : d.py.showable = true) (h3 : d.py.depth ≤ 64) (h4 : d.py.shown.length ≤ 1000000) : den p (k + 1) f [d, d] g = .ok (.bl true) g := by
  refine Eq.trans (den_f hf rfl (by decide)) ?_
  show endR (evB p.cs (den p k) likeB [.val d, .val d] g) = _
  simp [likeB, evB, evS, evE, evA, R.bind, lift, biD, h1, h2, h3, h4, cmpD, endR]
/-! ### the greatest common divisor -/
theorem gcd_step (a b : Nat) (h : 0 < b) : Nat.gcd a b = Nat.gcd b (a % b) := by rw [Nat.gcd_comm a b, Nat.gcd_rec b a, Nat.gcd_comm]
theorem common_w (cs : List (Nat × D)) (call : Nat → List D → G → R D) (g : G) : ∀ (n b a : Nat), b < n → whlR (fun Γ g => blR (evE cs call (.cmp .ne (.var 1) (.cst (.int 0))) Γ g)) (fun Γ g => evB cs call (.cons (.par [(0, false), (1, false)] (.cons (.var 1) (.cons (.bin .mod (.bi .int (.cons (.var 0) .nil)) (.var 1)) .nil))) .nil) Γ g) n [.val (.int (a : Nat)), .val (.int (b : Nat))] g
    = .ok (.nx [.val (.int (Nat.gcd a b : Nat)), .val (.int 0)]) g
  | 0, b, a, h => by omega
  | n + 1, b, a, h => by
    unfold whlR
    by_cases hb : b = 0
    · subst hb
      simp [evE, R.bind, lift, cmpD, blR]
    · have hb' : ¬ ((b : Int) = 0) := by omega
      have hp : (0 : Int) < (b : Int) := by omega
      have e : ((a : Int) % (b : Int)) = ((a % b : Nat) : Int) := by simp
      have ih := common_w cs call g n (a % b) b (by have := Nat.mod_lt a (Nat.pos_of_ne_zero hb); omega)
      rw [gcd_step a b (Nat.pos_of_ne_zero hb)]
      have e1 : blR (evE cs call (.cmp .ne (.var 1) (.cst (.int 0))) [.val (.int (a : Nat)), .val (.int (b : Nat))] g) = .ok true g := by
        simp [evE, R.bind, lift, cmpD, blR, hb]
      have e2 : evB cs call (.cons (.par [(0, false), (1, false)] (.cons (.var 1) (.cons (.bin .mod (.bi .int (.cons (.var 0) .nil)) (.var 1)) .nil))) .nil) [.val (.int (a : Nat)), .val (.int (b : Nat))] g = .ok (.nx [.val (.int (b : Nat)), .val (.int ((a % b : Nat) : Int))]) g := by
        simp [evE, evB, evS, evA, R.bind, lift, opD, biD, parG, Nat.pos_of_ne_zero hb]
      simp only [e1, R.bind, if_true, e2]
      exact ih
theorem common_i (k : Nat) (a b : Nat) (g : G) (h : b < 10 ^ 200) : den p (k + 1) 4 [.int (a : Nat), .int (b : Nat)] g = .ok (.int (Nat.gcd a b : Nat)) g := by
  refine Eq.trans (den_f HP.h_common rfl (by decide)) ?_
  show endR (evB p.cs (den p k) b_common [.val (.int (a : Nat)), .val (.int (b : Nat))] g) = _
  unfold b_common
  simp only [evB, evS]
  have := common_w p.cs (den p k) g FUEL b a h
  simp only [evB, evS] at this
  rw [this]
  simp [R.bind, evE, endR]
def fracD (a b : Nat) : D := if b = 0 then .tup [.int 1, .int 1] else .tup [.int (a / Nat.gcd a b : Nat), .int (b / Nat.gcd a b : Nat)]
theorem fraction_i (k : Nat) (a b : Nat) (g : G) (h : b < 10 ^ 100) : den p (k + 2) 23 [.int (a : Nat), .int (b : Nat)] g = .ok (fracD a b) g := by
  refine Eq.trans (den_f HP.h_fraction rfl (by decide)) ?_
  show endR (evB p.cs (den p (k + 1)) b_fraction [.val (.int (a : Nat)), .val (.int (b : Nat)), .no] g) = _
  unfold fracD
  by_cases hb : b = 0
  · subst hb
    simp [b_fraction, evB, evS, evE, evA, R.bind, lift, cmpD, blR, endR]
  · have hb' : ¬ ((b : Int) = 0) := by omega
    have hg : 0 < Nat.gcd a b := Nat.gcd_pos_of_pos_right _ (Nat.pos_of_ne_zero hb)
    have hl : Nat.gcd a b ≤ b := Nat.gcd_le_right _ (Nat.pos_of_ne_zero hb)
    have dk : Bk.DivOk ((Nat.gcd a b : Nat) : Int) = true := divOk (by omega) (by unfold Sm; simp only [Int.natAbs_natCast]; omega)
    have ec := common_i (p := p) k a b g (Nat.lt_trans h (by decide))
    simp [b_fraction, evB, evS, evE, evA, R.bind, lift, cmpD, blR, endR, hb, hb', setT, ec, opD, dk]
end Pk

set_option Elab.async false
set_option linter.all false
set_option maxRecDepth 100000
set_option maxHeartbeats 4000000
/-! Plans: what the compact program answers. -/
namespace Pk
open PySem Bk
variable {p : Pr} [HP p]
section
variable {cs : List (Nat × D)} {call : Nat → List D → G → R D} {elt : E} {t : T} {it : I} {Γ : Gm} {g : G}
theorem bind_val {α β : Type} {r : R α} {k : α → G → R β} {b : β} {g' : G} (h : r.bind k = .ok b g') : ∃ a g1, r = .ok a g1 ∧ k a g1 = .ok b g' := by
  cases r with
  | ok a g1 => exact ⟨a, g1, rfl, h⟩
  | ex _ _ _ => cases h
  | st => cases h
theorem lc_zip {xs ys : List Int} {h : Int → Int → D} (h1 : evI cs call it Γ g = .ok (zipD (xs.map .int) (ys.map .int)) g)
    (h2 : ∀ q ∈ xs.zip ys, ∀ g, (lift (setT t (.tup [.int q.1, .int q.2]) (wipeG Γ t.vars)) g).bind (fun Γ' g => evE cs call elt Γ' g) = .ok (h q.1 q.2) g) : evE cs call (.lc elt t it none) Γ g = .ok (.lst ((xs.zip ys).map fun q => h q.1 q.2)) g := by
  simp only [evE, h1, r_ok]
  rw [lcR_zip (h := h)]
  · rfl
  intro q hq g
  obtain ⟨Γ', g1, e1, e2⟩ := bind_val (h2 q hq g)
  rw [e1, r_ok, e2, r_ok]
theorem lc_ints {xs : List Int} {h : Int → D} (h1 : evI cs call it Γ g = .ok (xs.map .int) g)
    (h2 : ∀ q ∈ xs, ∀ g, (lift (setT t (.int q) (wipeG Γ t.vars)) g).bind (fun Γ' g => evE cs call elt Γ' g) = .ok (h q) g) : evE cs call (.lc elt t it none) Γ g = .ok (.lst (xs.map h)) g := by
  simp only [evE, h1, r_ok]
  rw [lcR_ints (h := h)]
  · rfl
  intro q hq g
  obtain ⟨Γ', g1, e1, e2⟩ := bind_val (h2 q hq g)
  rw [e1, r_ok, e2, r_ok]
end
def ti (l : List Int) : D := .tup (l.map .int)
def li (l : List Int) : D := .lst (l.map .int)
def plD (fs : List Int) (w : Int) (ps : List Int) : D := .tup [ti fs, .int w, ti ps]
@[simp] theorem g_0 : p.cs.lookup 0 = some (.int 1000000000) := HP.c_MOST_OF
@[simp] theorem g_1 : p.cs.lookup 1 = some (.int 1000000000000000000000000000000) := HP.c_MOST_ROOM
@[simp] theorem g_2 : p.cs.lookup 2 = some (.int 4) := HP.c_MOST_FARES
@[simp] theorem g_3 : p.cs.lookup 3 = some (.int 99) := HP.c_MOST_FARE
@[simp] theorem ti_it (l : List Int) : itemsD (ti l) = some (l.map .int) := rfl
@[simp] theorem li_it (l : List Int) : itemsD (li l) = some (l.map .int) := rfl
@[simp] theorem ti_sq (l : List Int) : seqD (ti l) = some (l.map .int) := rfl
@[simp] theorem li_sq (l : List Int) : seqD (li l) = some (l.map .int) := rfl
@[simp] theorem ti_len (l : List Int) : biD .len [ti l] = some (.int l.length) := by simp [ti]
@[simp] theorem li_len (l : List Int) : biD .len [li l] = some (.int l.length) := by simp [li]
@[simp] theorem ti_sl (l : List Int) : slD (ti l) (some 1) none = some (ti l.tail) := by simp [ti, tail_ints]
@[simp] theorem li_sl (l : List Int) : slD (li l) (some 1) none = some (li l.tail) := by simp [li, tail_ints]
@[simp] theorem ti_is (l : List Int) (ts : List Ty) : isiD ts (ti l) = some (ts.any (isI · (ti l))) := rfl
@[simp] theorem ti_ist (l : List Int) : isI .tuple (ti l) = true := rfl
@[simp] theorem pl_is (fs : List Int) (w : Int) (ps : List Int) (ts : List Ty) : isiD ts (plD fs w ps) = some (ts.any (isI · (plD fs w ps))) := rfl
@[simp] theorem pl_ist (fs : List Int) (w : Int) (ps : List Int) : isI .tuple (plD fs w ps) = true := rfl
@[simp] theorem pl_len (fs : List Int) (w : Int) (ps : List Int) : biD .len [plD fs w ps] = some (.int 3) := rfl
@[simp] theorem pl_0 (fs : List Int) (w : Int) (ps : List Int) : idxD (plD fs w ps) (.int 0) = some (ti fs) := rfl
@[simp] theorem pl_1 (fs : List Int) (w : Int) (ps : List Int) : idxD (plD fs w ps) (.int 1) = some (.int w) := rfl
@[simp] theorem pl_2 (fs : List Int) (w : Int) (ps : List Int) : idxD (plD fs w ps) (.int 2) = some (ti ps) := rfl
theorem all_bl {α : Type} (f : α → Bool) (l : List α) : biD .all [.lst (l.map fun a => D.bl (f a))] = some (.bl (l.all f)) := by
  rw [bi_all, bls_map]
  simp [List.all_map, Function.comp_def]
def ups (l : List Int) : Bool := (l.zip l.tail).all fun q => decide (q.1 ≤ q.2)
def upS (l : List Int) : Bool := (l.zip l.tail).all fun q => decide (q.1 < q.2)
theorem rising_i (k : Nat) (l : List Int) (g : G) : den p (k + 1) 22 [ti l] g = .ok (.bl (ups l)) g := by
  refine Eq.trans (den_f HP.h_are_rising rfl (by decide)) ?_
  show endR (evB p.cs (den p k) b_are_rising [.val (ti l), .no, .no] g) = _
  have e := lc_zip (cs := p.cs) (call := den p k) (elt := .cmp .le (.var 1) (.var 2)) (t := .tup [.var 1, .var 2]) (it := .zip (.var 0) (.sl (.var 0) (some (.cst (.int 1))) none)) (Γ := [.val (ti l), .no, .no]) (g := g) (xs := l) (ys := l.tail) (h := fun a b => .bl (decide (a ≤ b)))
    (by simp [ti, tail_ints]) (fun q hq g => by simp)
  simp [b_are_rising, e, all_bl (fun q : Int × Int => decide (q.1 ≤ q.2)), ups]
def fsOk (fs : List Int) : Bool := decide (1 ≤ fs.length) && decide (fs.length ≤ 4) && fs.all (fun f => decide (1 ≤ f) && decide (f ≤ 99)) && upS fs
theorem fares_i (k : Nat) (l : List Int) (g : G) (h : fsOk l = true) : den p (k + 2) 24 [ti l] g = .ok (.bl true) g := by
  refine Eq.trans (den_f HP.h_are_fares rfl (by decide)) ?_
  show endR (evB p.cs (den p (k + 1)) b_are_fares [.val (ti l), .no, .no, .no] g) = _
  unfold fsOk at h
  simp only [Bool.and_eq_true, decide_eq_true_eq] at h
  obtain ⟨⟨⟨h1, h2⟩, h3⟩, h4⟩ := h
  have e1 := lc_ints (cs := p.cs) (call := den p (k + 1)) (elt := .call 21 (.cons (.var 1) (.cons (.cst (.int 1)) (.cons (.glb 3) .nil)))) (t := .var 1) (it := .seq (.var 0)) (Γ := [.val (ti l), .no, .no, .no]) (g := g) (xs := l) (h := fun a => .bl (decide (1 ≤ a) && decide (a ≤ 99)))
    (by simp [ti]) (fun q hq g => by simp [is_whole_i])
  have e2 := lc_zip (cs := p.cs) (call := den p (k + 1)) (elt := .cmp .lt (.var 2) (.var 3)) (t := .tup [.var 2, .var 3]) (it := .zip (.var 0) (.sl (.var 0) (some (.cst (.int 1))) none)) (Γ := [.val (ti l), .no, .no, .no]) (g := g) (xs := l) (ys := l.tail) (h := fun a b => .bl (decide (a < b)))
    (by simp [ti, tail_ints]) (fun q hq g => by simp)
  have a1 : ((1 : Int) ≤ (l.length : Int)) := by omega
  have a2 : ((l.length : Int) ≤ 4) := by omega
  unfold upS at h4
  simp only [b_are_fares, b_cons, b_nil, s_ife', s_ret', x_or, x_not, x_isi, x_var, List.getElem?_cons_zero, r_ok, ti_is, Option.map_some, l_some, b_ok, x_chn, x_cst, x_bi, x_glb, a_cons, a_nil, ti_len, g_2, c_le, decide_eq_true a1, decide_eq_true a2, List.any_cons, ti_ist, List.any_nil, Bool.or_false, Bool.not_true, if_true, if_false, e1, e2, all_bl (fun a : Int => decide (1 ≤ a) && decide (a ≤ 99)), all_bl (fun q : Int × Int => decide (q.1 < q.2)), h3, h4, e_rt, Bool.false_eq_true]
theorem need_fares_i (k : Nat) (l : List Int) (g : G) (h : fsOk l = true) : den p (k + 3) 20 [ti l] g = .ok (ti l) g := by
  refine Eq.trans (den_f HP.h_need_fares rfl (by decide)) ?_
  show endR (evB p.cs (den p (k + 2)) b_need_fares [.val (ti l)] g) = _
  simp [b_need_fares, fares_i (p := p) k l g h]
def plOk (fs : List Int) (w : Int) (ps : List Int) : Bool := fsOk fs && decide (1 ≤ w) && decide (w ≤ 1000000000) && decide (ps.length = fs.length) && ps.all (fun q => decide (0 ≤ q) && decide (q ≤ w)) && ups ps
theorem need_plan_i (k : Nat) (fs : List Int) (w : Int) (ps : List Int) (g : G) (h : plOk fs w ps = true) : den p (k + 4) 6 [plD fs w ps] g = .ok (plD fs w ps) g := by
  refine Eq.trans (den_f HP.h_need_plan rfl (by decide)) ?_
  show endR (evB p.cs (den p (k + 3)) b_need_plan [.val (plD fs w ps), .no] g) = _
  unfold plOk at h
  simp only [Bool.and_eq_true, decide_eq_true_eq] at h
  obtain ⟨⟨⟨⟨⟨h1, h2⟩, h3⟩, h4⟩, h5⟩, h6⟩ := h
  have e1 := lc_ints (cs := p.cs) (call := den p (k + 3)) (elt := .call 21 (.cons (.var 1) (.cons (.cst (.int 0)) (.cons (.idx (.var 0) (.cst (.int 1))) .nil)))) (t := .var 1) (it := .seq (.idx (.var 0) (.cst (.int 2)))) (Γ := [.val (plD fs w ps), .no]) (g := g) (xs := ps) (h := fun a => .bl (decide (0 ≤ a) && decide (a ≤ w)))
    (by simp) (fun q hq g => by simp [is_whole_i])
  have ea : biD .all [.lst (ps.map fun a => D.bl (decide (0 ≤ a) && decide (a ≤ w)))] = some (.bl true) := by rw [all_bl (fun a : Int => decide (0 ≤ a) && decide (a ≤ w)), h5]
  simp [b_need_plan, need_fares_i (p := p) k fs g h1, is_whole_i, e1, ea, rising_i, h2, h3, h4, h6, -bi_all]
/-! ### limits, gains -/
def limI (ps : List Int) (w s : Int) : List Int := ps.map fun q => q * s / w
theorem limits_in_i (k : Nat) (fs : List Int) (w : Int) (ps : List Int) (s : Int) (g : G) (h0 : 0 < w) (h1 : Sm w) (h2 : Sm s) (h3 : ∀ q ∈ ps, Sm q) : den p (k + 1) 12 [plD fs w ps, .int s] g = .ok (ti (limI ps w s)) g := by
  refine Eq.trans (den_f HP.h_limits_in rfl (by decide)) ?_
  show endR (evB p.cs (den p k) b_limits_in [.val (plD fs w ps), .val (.int s), .no] g) = _
  have e1 := lc_ints (cs := p.cs) (call := den p k) (elt := .bin .div (.bin .mul (.var 2) (.var 1)) (.idx (.var 0) (.cst (.int 1)))) (t := .var 2) (it := .seq (.idx (.var 0) (.cst (.int 2)))) (Γ := [.val (plD fs w ps), .val (.int s), .no]) (g := g) (xs := ps) (h := fun a => .int (a * s / w))
    (by simp) (fun q hq g => by simp [o_mul (mulOk (h3 q hq) h2), o_div (divOk h0 h1)])
  simp [b_limits_in, e1, ti, limI]
def gI : List Int → List Int → Int → Int → List Int
  | f :: fs, l :: ls, a, t => (t + f * (l - a)) :: gI fs ls l (t + f * (l - a))
  | _, _, _, _ => []
theorem gains_w (cs : List (Nat × D)) (call : Nat → List D → G → R D) (g : G) (x y : D) : ∀ (fs ls : List Int) (a t : Int) (s5 s6 : Slot) (acc : List Int), acc.length + fs.length ≤ 100 → (∀ f ∈ fs, Sm f) → (∀ q ∈ ls, ∀ r ∈ a :: ls, Sm (q - r)) →
    ∃ s5' s6' a' t', forR (fun x Γ g => (lift (setT (.tup [.var 5, .var 6]) x Γ) g).bind fun Γ' g => evB cs call (.cons (.aug 4 (.bin .mul (.var 5) (.bin .sub (.var 6) (.var 3)))) (.cons (.asg (.var 3) (.var 6)) (.cons (.app 2 (.var 4)) .nil))) Γ' g) (zipD (fs.map .int) (ls.map .int)) [.val x, .val y, .own (li acc), .val (.int a), .val (.int t), s5, s6] g
      = .ok (.nx [.val x, .val y, .own (li (acc ++ gI fs ls a t)), a', t', s5', s6']) g
  | [], ls, a, t, s5, s6, acc, _, _, _ => ⟨s5, s6, _, _, by simp [zipD, forR, gI]; exact ⟨rfl, rfl⟩⟩
  | f :: fs, [], a, t, s5, s6, acc, _, _, _ => ⟨s5, s6, _, _, by simp [zipD, forR, gI]; exact ⟨rfl, rfl⟩⟩
  | f :: fs, l :: ls, a, t, s5, s6, acc, h1, h2, h3 => by
    have mo : opD .mul (.int f) (.int (l - a)) = some (.int (f * (l - a))) := o_mul (mulOk (h2 f (by simp)) (h3 l (by simp) a (by simp)))
    simp only [List.length_cons] at h1
    obtain ⟨s5', s6', a', t', ih⟩ := gains_w cs call g x y fs ls l (t + f * (l - a)) (.val (.int f)) (.val (.int l)) (acc ++ [t + f * (l - a)]) (by simp; omega) (fun q hq => h2 q (List.mem_cons_of_mem _ hq)) (fun q hq r hr => h3 q (List.mem_cons_of_mem _ hq) r (List.mem_cons_of_mem _ hr))
    refine ⟨s5', s6', a', t', ?_⟩
    have hl : acc.length < 1000000 := by omega
    simp only [List.map, zipD, forR]
    simp [li, mo, hl]
    simp [li] at ih
    simpa [gI] using ih
theorem gains_i (k : Nat) (fs ls : List Int) (g : G) (h1 : fs.length ≤ 100) (h2 : ∀ f ∈ fs, Sm f) (h3 : ∀ q ∈ ls, ∀ r ∈ 0 :: ls, Sm (q - r)) : den p (k + 1) 11 [ti fs, ti ls] g = .ok (li (gI fs ls 0 0)) g := by
  refine Eq.trans (den_f HP.h_gains_by rfl (by decide)) ?_
  show endR (evB p.cs (den p k) b_gains_by [.val (ti fs), .val (ti ls), .no, .no, .no, .no, .no] g) = _
  obtain ⟨s5, s6, a, t, e⟩ := gains_w p.cs (den p k) g (ti fs) (ti ls) fs ls 0 0 .no .no [] (by simpa using h1) h2 h3
  have e0 : evS p.cs (den p k) (.for_ (.tup [.var 5, .var 6]) (.zip (.var 0) (.var 1)) (.cons (.aug 4 (.bin .mul (.var 5) (.bin .sub (.var 6) (.var 3)))) (.cons (.asg (.var 3) (.var 6)) (.cons (.app 2 (.var 4)) .nil)))) [.val (ti fs), .val (ti ls), .own (li []), .val (.int 0), .val (.int 0), .no, .no] g = .ok (.nx [.val (ti fs), .val (ti ls), .own (li (gI fs ls 0 0)), a, t, s5, s6]) g := by
    rw [s_for']
    simp only [i_zip, x_var, List.getElem?_cons_zero, List.getElem?_cons_succ, r_ok, ti_it]
    exact e
  have e1 : li [] = .lst [] := rfl
  rw [e1] at e0
  simp only [b_gains_by, b_cons, s_par', a_cons, a_nil, x_lst, x_cst, r_ok]
  have e2 : parG [(2, true), (3, false), (4, false)] [.lst [], .int 0, .int 0] [.val (ti fs), .val (ti ls), .no, .no, .no, .no, .no] = some [.val (ti fs), .val (ti ls), .own (.lst []), .val (.int 0), .val (.int 0), .no, .no] := rfl
  rw [e2]
  simp only [l_some, r_ok, e0]
  simp
theorem regrets_i (k : Nat) (fs : List Int) (w : Int) (ps : List Int) (s : Int) (g : G) (h0 : 0 < w) (h1 : Sm w) (h2 : Sm s) (h3 : ∀ q ∈ ps, Sm q) (h4 : fs.length ≤ 100) (h5 : ∀ f ∈ fs, Sm f) (h6 : ∀ q ∈ limI ps w s, ∀ r ∈ 0 :: limI ps w s, Sm (q - r)) :
    den p (k + 2) 8 [plD fs w ps, .int s] g = .ok (li ((fs.zip (gI fs (limI ps w s) 0 0)).map fun q => s * q.1 - q.2)) g := by
  refine Eq.trans (den_f HP.h_regrets_at rfl (by decide)) ?_
  show endR (evB p.cs (den p (k + 1)) b_regrets_at [.val (plD fs w ps), .val (.int s), .no, .no, .no] g) = _
  have e1 := lc_zip (cs := p.cs) (call := den p (k + 1)) (elt := .bin .sub (.bin .mul (.var 1) (.var 3)) (.var 4)) (t := .tup [.var 3, .var 4]) (it := .zip (.idx (.var 0) (.cst (.int 0))) (.var 2)) (Γ := [.val (plD fs w ps), .val (.int s), .val (li (gI fs (limI ps w s) 0 0)), .no, .no]) (g := g) (xs := fs) (ys := gI fs (limI ps w s) 0 0) (h := fun a b => .int (s * a - b))
    (by simp) (fun q hq g => by simp [o_mul (mulOk h2 (h5 q.1 (List.of_mem_zip hq).1))])
  simp [b_regrets_at, limits_in_i (p := p) k fs w ps s g h0 h1 h2 h3, gains_i (p := p) k fs (limI ps w s) g h4 h5 h6, e1]
  simp [li, Function.comp_def]
/-! ### the least share -/
def prD (l : List (Int × Int)) : D := .lst (l.map fun q => .tup [.int q.1, .int q.2])
def lessI : Int × Int → List (Int × Int) → Int × Int
  | b, [] => b
  | b, o :: r => lessI (if o.1 * b.2 < b.1 * o.2 then o else b) r
def body15 : B := .cons (.ife (.cmp .lt (.bin .mul (.idx (.var 2) (.cst (.int 0))) (.idx (.var 1) (.cst (.int 1)))) (.bin .mul (.idx (.var 1) (.cst (.int 0))) (.idx (.var 2) (.cst (.int 1))))) (.cons (.asg (.var 1) (.var 2)) .nil) .nil) .nil
theorem less_w (cs : List (Nat × D)) (call : Nat → List D → G → R D) (g : G) (x : D) : ∀ (l : List (Int × Int)) (b : Int × Int) (s2 : Slot), (∀ q ∈ b :: l, Sm q.1 ∧ Sm q.2) →
    ∃ s2', forR (fun x Γ g => (lift (setT (.var 2) x Γ) g).bind fun Γ' g => evB cs call body15 Γ' g) (l.map fun q => .tup [.int q.1, .int q.2]) [.val x, .val (.tup [.int b.1, .int b.2]), s2] g
      = .ok (.nx [.val x, .val (.tup [.int (lessI b l).1, .int (lessI b l).2]), s2']) g
  | [], b, s2, _ => ⟨s2, rfl⟩
  | o :: l, b, s2, h => by
    have hb := h b (by simp)
    have ho := h o (by simp)
    obtain ⟨s2', ih⟩ := less_w cs call g x l (if o.1 * b.2 < b.1 * o.2 then o else b) (.val (.tup [.int o.1, .int o.2])) (fun q hq => by
      rcases List.mem_cons.mp hq with z | z
      · subst z; split
        · exact ho
        · exact hb
      · exact h q (by simp [z]))
    refine ⟨s2', ?_⟩
    simp only [List.map, forR, lessI]
    rw [← ih]
    by_cases c : o.1 * b.2 < b.1 * o.2
    · simp [body15, o_mul (mulOk ho.1 hb.2), o_mul (mulOk hb.1 ho.2), c]
    · simp [body15, o_mul (mulOk ho.1 hb.2), o_mul (mulOk hb.1 ho.2), c]
theorem less_i (k : Nat) (b : Int × Int) (l : List (Int × Int)) (g : G) (h : ∀ q ∈ b :: l, Sm q.1 ∧ Sm q.2) (h0 : 0 ≤ (lessI b l).1) (h1 : 0 ≤ (lessI b l).2) (h2 : (lessI b l).2 < 10 ^ 100) :
    den p (k + 3) 13 [prD (b :: l)] g = .ok (fracD (lessI b l).1.toNat (lessI b l).2.toNat) g := by
  refine Eq.trans (den_f HP.h_lesser_share rfl (by decide)) ?_
  show endR (evB p.cs (den p (k + 2)) b_lesser_share [.val (prD (b :: l)), .no, .no] g) = _
  obtain ⟨s2, e⟩ := less_w p.cs (den p (k + 2)) g (prD (b :: l)) l b .no h
  have ef := fraction_i (p := p) k (lessI b l).1.toNat (lessI b l).2.toNat g (by omega)
  rw [Int.toNat_of_nonneg h0, Int.toNat_of_nonneg h1] at ef
  have e0 : evS p.cs (den p (k + 2)) (.for_ (.var 2) (.seq (.sl (.var 0) (some (.cst (.int 1))) none)) body15) [.val (prD (b :: l)), .val (.tup [.int b.1, .int b.2]), .no] g = .ok (.nx [.val (prD (b :: l)), .val (.tup [.int (lessI b l).1, .int (lessI b l).2]), s2]) g := by
    rw [s_for', ← e]
    have : slD (prD (b :: l)) (some 1) none = some (.lst (l.map fun q => .tup [.int q.1, .int q.2])) := by
      simp [prD, cutD, sIxD, List.take_of_length_le]
    simp [this]
  have e1 : idxD (prD (b :: l)) (.int 0) = some (.tup [.int b.1, .int b.2]) := rfl
  unfold b_lesser_share
  change endR (evB p.cs (den p (k + 2)) (.cons (.asg (.var 1) (.idx (.var 0) (.cst (.int 0)))) (.cons (.for_ (.var 2) (.seq (.sl (.var 0) (some (.cst (.int 1))) none)) body15) _)) _ g) = _
  simp [e1, e0, ef]
/-! ### bounds -/
structure PO (fs : List Int) (w : Int) (ps : List Int) : Prop where
  f1 : 1 ≤ fs.length
  f4 : fs.length ≤ 4
  f : ∀ f ∈ fs, 1 ≤ f ∧ f ≤ 99
  w0 : 1 ≤ w
  w1 : w ≤ 1000000000
  len : ps.length = fs.length
  q : ∀ q ∈ ps, 0 ≤ q ∧ q ≤ w
  up : ups ps = true
  upf : upS fs = true
theorem PO.of {fs : List Int} {w : Int} {ps : List Int} (h : plOk fs w ps = true) : PO fs w ps := by
  unfold plOk fsOk at h
  simp only [Bool.and_eq_true, decide_eq_true_eq, List.all_eq_true] at h
  obtain ⟨⟨⟨⟨⟨⟨⟨⟨a1, a2⟩, a3⟩, a4⟩, h2⟩, h3⟩, h4⟩, h5⟩, h6⟩ := h
  exact ⟨a1, a2, a3, h2, h3, h4, h5, h6, a4⟩
theorem PO.to {fs : List Int} {w : Int} {ps : List Int} (h : PO fs w ps) : plOk fs w ps = true := by
  unfold plOk fsOk
  simp only [Bool.and_eq_true, decide_eq_true_eq, List.all_eq_true]
  exact ⟨⟨⟨⟨⟨⟨⟨⟨h.f1, h.f4⟩, h.f⟩, h.upf⟩, h.w0⟩, h.w1⟩, h.len⟩, h.q⟩, h.up⟩
/-- rising from a on -/
def Up : Int → List Int → Prop
  | _, [] => True
  | a, b :: r => a ≤ b ∧ Up b r
theorem up_of : ∀ {l : List Int} {a : Int}, ups l = true → (∀ b ∈ l.head?, a ≤ b) → Up a l
  | [], a, _, _ => trivial
  | [b], a, _, h => ⟨h b (by simp), trivial⟩
  | b :: c :: r, a, h, h0 => by
    simp only [ups, List.tail_cons, List.zip_cons_cons, List.all_cons, Bool.and_eq_true, decide_eq_true_eq] at h
    refine ⟨h0 b (by simp), up_of (l := c :: r) ?_ (fun d hd => ?_)⟩
    · simpa [ups] using h.2
    · simp at hd; subst hd; exact h.1
theorem up_map {f : Int → Int} (hf : ∀ x y, x ≤ y → f x ≤ f y) : ∀ {l : List Int} {a : Int}, Up a l → Up (f a) (l.map f)
  | [], a, _ => trivial
  | b :: r, a, h => ⟨hf a b h.1, up_map hf h.2⟩
theorem gI_bd {M : Int} : ∀ {fs ls : List Int} {a t : Int}, (∀ f ∈ fs, 1 ≤ f ∧ f ≤ 99) → Up a ls → 0 ≤ a → (∀ l ∈ ls, l ≤ M) → ∀ x ∈ gI fs ls a t, t ≤ x ∧ x ≤ t + 99 * M * fs.length
  | [], ls, a, t, _, _, _, _, x, hx => by simp [gI] at hx
  | f :: fs, [], a, t, _, _, _, _, x, hx => by simp [gI] at hx
  | f :: fs, l :: ls, a, t, h1, h2, h3, h4, x, hx => by
    have hf := h1 f (by simp)
    have hl := h4 l (by simp)
    have hla := h2.1
    have p1 : 0 ≤ f * (l - a) := Int.mul_nonneg (by omega) (by omega)
    have p2 : f * (l - a) ≤ 99 * M := Int.le_trans (Int.mul_le_mul_of_nonneg_right hf.2 (by omega)) (Int.mul_le_mul_of_nonneg_left (by omega) (by omega))
    have hM : 0 ≤ 99 * M := by omega
    have en : 99 * M * ((f :: fs).length : Int) = 99 * M + 99 * M * (fs.length : Int) := by
      simp only [List.length_cons]; push_cast; rw [Int.mul_add]; omega
    have hn : 0 ≤ 99 * M * (fs.length : Int) := Int.mul_nonneg hM (by omega)
    rw [en]
    simp only [gI, List.mem_cons] at hx
    rcases hx with hx | hx
    · omega
    · have := gI_bd (M := M) (t := t + f * (l - a)) (fun q hq => h1 q (by simp [hq])) h2.2 (by omega) (fun q hq => h4 q (by simp [hq])) x hx
      omega
theorem limI_bd {fs : List Int} {w : Int} {ps : List Int} {s : Int} (h : PO fs w ps) (hs : 0 ≤ s) : ∀ l ∈ limI ps w s, 0 ≤ l ∧ l ≤ s := by
  intro l hl
  obtain ⟨q, hq, rfl⟩ := List.mem_map.mp hl
  have h1 := h.q q hq
  have h0 := h.w0
  refine ⟨Int.ediv_nonneg (Int.mul_nonneg h1.1 hs) (by omega), ?_⟩
  have : q * s ≤ s * w := by rw [Int.mul_comm s w]; exact Int.mul_le_mul_of_nonneg_right h1.2 hs
  exact Int.ediv_le_of_le_mul (by omega) this
theorem limI_up {fs : List Int} {w : Int} {ps : List Int} {s : Int} (h : PO fs w ps) (hs : 0 ≤ s) : Up 0 (limI ps w s) := by
  have u := up_of (a := 0) h.up (fun b hb => (h.q b (List.mem_of_mem_head? hb)).1)
  have h0 := h.w0
  have := up_map (f := fun q => q * s / w) (fun x y hxy => Int.ediv_le_ediv (by omega) (Int.mul_le_mul_of_nonneg_right hxy hs)) u
  simpa [limI] using this
theorem sm_nn {x : Int} (h0 : 0 ≤ x) (h1 : x ≤ 10 ^ 60) : Sm x := sm_of (by omega) (by omega)
theorem lim_sm {fs : List Int} {w : Int} {ps : List Int} {s : Int} (h : PO fs w ps) (hs : 0 ≤ s) (hs1 : s ≤ 10 ^ 50) : ∀ q ∈ limI ps w s, ∀ r ∈ 0 :: limI ps w s, Sm (q - r) := by
  intro q hq r hr
  have h1 := limI_bd h hs q hq
  have h2 : 0 ≤ r ∧ r ≤ s := by
    rcases List.mem_cons.mp hr with z | z
    · subst z; exact ⟨Int.le_refl _, hs⟩
    · exact limI_bd h hs r z
  exact sm_of (by omega) (by omega)
end Pk

set_option Elab.async false
set_option linter.all false
set_option maxRecDepth 100000
set_option maxHeartbeats 4000000
/-! What the calls on plans answer. -/
namespace Pk
open PySem Bk
variable {p : Pr} [HP p]
def prs (d : Int) (fs ls : List Int) : List (Int × Int) := ((gI fs ls 0 0).zip fs).map fun q => (q.1, d * q.2)
def shV (l : List (Int × Int)) : D := match l with
  | [] => .non
  | b :: l => fracD (lessI b l).1.toNat (lessI b l).2.toNat
theorem less_mem : ∀ (l : List (Int × Int)) (b : Int × Int), lessI b l ∈ b :: l
  | [], b => by simp [lessI]
  | o :: l, b => by
    have := less_mem l (if o.1 * b.2 < b.1 * o.2 then o else b)
    unfold lessI
    rcases List.mem_cons.mp this with z | z
    · rw [z]; split <;> simp
    · simp [z]
theorem gI_len : ∀ (fs ls : List Int) (a t : Int), (gI fs ls a t).length = min fs.length ls.length
  | [], ls, a, t => by simp [gI]
  | f :: fs, [], a, t => by simp [gI]
  | f :: fs, l :: ls, a, t => by simp [gI, gI_len fs ls]
/-- the numbers that come: gains up to 10^40, fares, a divisor up to 10^32 -/
theorem prs_bd {fs ls : List Int} {d M : Int} (hf : ∀ f ∈ fs, 1 ≤ f ∧ f ≤ 99) (h4 : fs.length ≤ 4) (hu : Up 0 ls) (hm : ∀ l ∈ ls, l ≤ M) (hM : 0 ≤ M) (hM1 : M ≤ 10 ^ 36) (hd : 1 ≤ d) (hd1 : d ≤ 10 ^ 36) : ∀ q ∈ prs d fs ls, 0 ≤ q.1 ∧ q.1 ≤ 10 ^ 40 ∧ 1 ≤ q.2 ∧ q.2 ≤ 10 ^ 40 := by
  intro q hq
  obtain ⟨z, hz, rfl⟩ := List.mem_map.mp hq
  have hz1 := gI_bd (M := M) (t := 0) hf hu (Int.le_refl _) hm z.1 (List.of_mem_zip hz).1
  have hz2 := hf z.2 (List.of_mem_zip hz).2
  have p1 : d * 1 ≤ d * z.2 := Int.mul_le_mul_of_nonneg_left hz2.1 (by omega)
  have p2 : d * z.2 ≤ d * 99 := Int.mul_le_mul_of_nonneg_left hz2.2 (by omega)
  have p3 : 99 * M * (fs.length : Int) ≤ 99 * M * 4 := Int.mul_le_mul_of_nonneg_left (by omega) (by omega)
  refine ⟨hz1.1, ?_, ?_, ?_⟩ <;> simp only <;> omega
theorem prs_ne {fs ls : List Int} {d : Int} (h : 1 ≤ fs.length) (hl : ls.length = fs.length) : ∃ b l, prs d fs ls = b :: l := by
  cases e : prs d fs ls with
  | nil =>
    have e' : (prs d fs ls).length = 0 := by rw [e]; rfl
    simp only [prs, List.length_map, List.length_zip, gI_len] at e'
    omega
  | cons b l => exact ⟨b, l, rfl⟩
theorem less_sh (k : Nat) {l : List (Int × Int)} (g : G) (hb : ∀ q ∈ l, 0 ≤ q.1 ∧ q.1 ≤ 10 ^ 40 ∧ 1 ≤ q.2 ∧ q.2 ≤ 10 ^ 40) (hne : ∃ b r, l = b :: r) : den p (k + 3) 13 [prD l] g = .ok (shV l) g := by
  obtain ⟨b, r, rfl⟩ := hne
  have m := hb _ (less_mem r b)
  exact less_i (p := p) k b r g (fun q hq => by
    have := hb q hq
    exact ⟨sm_nn this.1 (by omega), sm_nn (by omega) (by omega)⟩) m.1 (by omega) (by omega)
section
variable {fs : List Int} {w : Int} {ps : List Int} (h : PO fs w ps)
include h
theorem PO.fsm : ∀ f ∈ fs, Sm f := fun f hf => by
  have := h.f f hf
  exact sm_nn (by omega) (by omega)
theorem PO.psm : ∀ q ∈ ps, Sm q := fun q hq => by
  have := h.q q hq
  have := h.w1
  exact sm_nn (by omega) (by omega)
theorem PO.wsm : Sm w := by
  have := h.w0
  have := h.w1
  exact sm_nn (by omega) (by omega)
theorem PO.lim_w : limI ps w w = ps := by
  unfold limI
  have h0 := h.w0
  rw [List.map_congr_left (g := id) (fun q _ => by show q * w / w = q; exact Int.mul_ediv_cancel q (by omega))]
  simp
theorem limits_of_i (k : Nat) {s : Int} (g : G) (h0 : 1 ≤ s) (h1 : s ≤ 10 ^ 30) : den p (k + 5) 14 [plD fs w ps, .int s] g = .ok (ti (limI ps w s)) g := by
  refine Eq.trans (den_f HP.h_limits_of rfl (by decide)) ?_
  show endR (evB p.cs (den p (k + 4)) b_limits_of [.val (plD fs w ps), .val (.int s)] g) = _
  have hw := h.w0
  simp [b_limits_of, need_plan_i (p := p) k fs w ps g h.to, need_room_i (p := p) (k + 2) g h0 h1, limits_in_i (p := p) (k + 3) fs w ps s g (by omega) h.wsm (sm_nn (by omega) (by omega)) h.psm]
theorem share_i (k : Nat) {s : Int} (g : G) (h0 : 1 ≤ s) (h1 : s ≤ 10 ^ 30) : den p (k + 5) 10 [plD fs w ps, .int s] g = .ok (shV (prs s fs (limI ps w s))) g := by
  refine Eq.trans (den_f HP.h_share_of rfl (by decide)) ?_
  show endR (evB p.cs (den p (k + 4)) b_share_of [.val (plD fs w ps), .val (.int s), .no, .no, .no] g) = _
  have hw := h.w0
  have h4 := h.f4
  have e1 := lc_zip (cs := p.cs) (call := den p (k + 4)) (elt := .tup (.cons (.var 3) (.cons (.bin .mul (.var 1) (.var 4)) .nil))) (t := .tup [.var 3, .var 4]) (it := .zip (.var 2) (.idx (.var 0) (.cst (.int 0)))) (Γ := [.val (plD fs w ps), .val (.int s), .val (li (gI fs (limI ps w s) 0 0)), .no, .no]) (g := g) (xs := gI fs (limI ps w s) 0 0) (ys := fs) (h := fun a b => .tup [.int a, .int (s * b)])
    (by simp) (fun q hq g => by simp [o_mul (mulOk (sm_nn (x := s) (by omega) (by omega)) (h.fsm q.2 (List.of_mem_zip hq).2))])
  have e2 : (D.lst (((gI fs (limI ps w s) 0 0).zip fs).map fun q => .tup [.int q.1, .int (s * q.2)])) = prD (prs s fs (limI ps w s)) := by
    simp [prD, prs, Function.comp_def]
  rw [e2] at e1
  have e3 := less_sh (p := p) (k + 1) (l := prs s fs (limI ps w s)) g (prs_bd h.f h.f4 (limI_up h (by omega)) (fun l hl => (limI_bd h (by omega) l hl).2) (by omega) (by omega) h0 (by omega)) (prs_ne h.f1 (by simp [limI, h.len]))
  simp [b_share_of, need_plan_i (p := p) k fs w ps g h.to, need_room_i (p := p) (k + 2) g h0 h1, limits_in_i (p := p) (k + 3) fs w ps s g (by omega) h.wsm (sm_nn (by omega) (by omega)) h.psm, gains_i (p := p) (k + 3) fs (limI ps w s) g (by omega) h.fsm (lim_sm h (by omega) (by omega)), e1, e3]
theorem regret_i (k : Nat) {s : Int} (g : G) (h0 : 1 ≤ s) (h1 : s ≤ 10 ^ 30) : ∃ n ns, (fs.zip (gI fs (limI ps w s) 0 0)).map (fun q => s * q.1 - q.2) = n :: ns ∧ den p (k + 5) 5 [plD fs w ps, .int s] g = .ok (.int (maxI n ns)) g := by
  have hw := h.w0
  have h4 := h.f4
  have e3 := regrets_i (p := p) (k + 2) fs w ps s g (by omega) h.wsm (sm_nn (by omega) (by omega)) h.psm (by omega) h.fsm (lim_sm h (by omega) (by omega))
  cases e : (fs.zip (gI fs (limI ps w s) 0 0)).map (fun q => s * q.1 - q.2) with
  | nil =>
    have e' : ((fs.zip (gI fs (limI ps w s) 0 0)).map (fun q => s * q.1 - q.2)).length = 0 := by rw [e]; rfl
    have hl := h.len
    have hf1 := h.f1
    simp only [List.length_map, List.length_zip, gI_len, limI] at e'
    omega
  | cons n ns =>
    refine ⟨n, ns, rfl, ?_⟩
    rw [e] at e3
    refine Eq.trans (den_f HP.h_regret_of rfl (by decide)) ?_
    show endR (evB p.cs (den p (k + 4)) b_regret_of [.val (plD fs w ps), .val (.int s)] g) = _
    have eb : biD .max [li (n :: ns)] = some (.int (maxI n ns)) := by
      show biD .max [.lst ((n :: ns).map D.int)] = _
      rw [bi_max, ints_map]; rfl
    simp [b_regret_of, need_plan_i (p := p) k fs w ps g h.to, need_room_i (p := p) (k + 2) g h0 h1, e3, eb]
theorem long_i (k : Nat) (g : G) : den p (k + 5) 15 [plD fs w ps] g = .ok (shV (prs w fs ps)) g := by
  refine Eq.trans (den_f HP.h_long_share rfl (by decide)) ?_
  show endR (evB p.cs (den p (k + 4)) b_long_share [.val (plD fs w ps)] g) = _
  have hw := h.w0
  have hw1 := h.w1
  have h4 := h.f4
  have e0 : den p (k + 4) 16 [plD fs w ps] g = .ok (shV (prs w fs ps)) g := by
    refine Eq.trans (den_f HP.h_long_in rfl (by decide)) ?_
    show endR (evB p.cs (den p (k + 3)) b_long_in [.val (plD fs w ps), .no, .no, .no] g) = _
    have e1 := lc_zip (cs := p.cs) (call := den p (k + 3)) (elt := .tup (.cons (.var 2) (.cons (.bin .mul (.idx (.var 0) (.cst (.int 1))) (.var 3)) .nil))) (t := .tup [.var 2, .var 3]) (it := .zip (.var 1) (.idx (.var 0) (.cst (.int 0)))) (Γ := [.val (plD fs w ps), .val (li (gI fs ps 0 0)), .no, .no]) (g := g) (xs := gI fs ps 0 0) (ys := fs) (h := fun a b => .tup [.int a, .int (w * b)])
      (by simp) (fun q hq g => by simp [o_mul (mulOk h.wsm (h.fsm q.2 (List.of_mem_zip hq).2))])
    have e2 : (D.lst (((gI fs ps 0 0).zip fs).map fun q => .tup [.int q.1, .int (w * q.2)])) = prD (prs w fs ps) := by
      simp [prD, prs, Function.comp_def]
    rw [e2] at e1
    have hu : Up 0 ps := by have := limI_up h (s := w) (by omega); rwa [h.lim_w] at this
    have e3 := less_sh (p := p) k (l := prs w fs ps) g (prs_bd h.f h.f4 hu (fun l hl => (h.q l hl).2) (by omega) (by omega) hw (by omega)) (prs_ne h.f1 h.len)
    have hsm : ∀ q ∈ ps, ∀ r ∈ 0 :: ps, Sm (q - r) := by have := lim_sm h (s := w) (by omega) (by omega); rwa [h.lim_w] at this
    simp [b_long_in, gains_i (p := p) (k + 2) fs ps g (by omega) h.fsm hsm, e1, e3]
  simp [b_long_share, need_plan_i (p := p) k fs w ps g h.to, e0]
end
end Pk

set_option Elab.async false
set_option linter.all false
set_option maxRecDepth 100000
set_option maxHeartbeats 4000000
/-! Scaling, and how far the least share is off the long share. -/
namespace Pk
open PySem Bk
theorem gI_scale (m : Int) : ∀ (fs ls : List Int) (a t : Int), gI fs (ls.map (m * ·)) (m * a) (m * t) = (gI fs ls a t).map (m * ·)
  | [], ls, a, t => by simp [gI]
  | f :: fs, [], a, t => by simp [gI]
  | f :: fs, l :: ls, a, t => by
    have e : m * t + f * (m * l - m * a) = m * (t + f * (l - a)) := by
      rw [← Int.mul_sub, Int.mul_add, Int.mul_left_comm]
    simp only [List.map, gI, e, gI_scale m fs ls]
def sc (m : Int) (q : Int × Int) : Int × Int := (m * q.1, m * q.2)
theorem zip_scale (m d : Int) : ∀ (xs fs : List Int), ((xs.map (m * ·)).zip fs).map (fun q => (q.1, m * d * q.2)) = ((xs.zip fs).map fun q => (q.1, d * q.2)).map (sc m)
  | [], fs => by simp
  | x :: xs, [] => by simp
  | x :: xs, f :: fs => by
    simp only [List.map, List.zip_cons_cons]
    rw [zip_scale m d xs fs]
    simp only [sc, Int.mul_assoc]
theorem prs_scale (m d : Int) (fs ls : List Int) : prs (m * d) fs (ls.map (m * ·)) = (prs d fs ls).map (sc m) := by
  unfold prs
  have := gI_scale m fs ls 0 0
  simp only [Int.mul_zero] at this
  rw [this, zip_scale]
theorem less_scale {m : Int} (hm : 0 < m) : ∀ (l : List (Int × Int)) (b : Int × Int), lessI (sc m b) (l.map (sc m)) = sc m (lessI b l)
  | [], b => rfl
  | o :: l, b => by
    have e : ((sc m o).1 * (sc m b).2 < (sc m b).1 * (sc m o).2) ↔ (o.1 * b.2 < b.1 * o.2) := by
      have e1 : (sc m o).1 * (sc m b).2 = (m * m) * (o.1 * b.2) := by simp only [sc]; grind
      have e2 : (sc m b).1 * (sc m o).2 = (m * m) * (b.1 * o.2) := by simp only [sc]; grind
      rw [e1, e2]
      exact Int.mul_lt_mul_left (Int.mul_pos hm hm)
    simp only [List.map, lessI]
    by_cases c : o.1 * b.2 < b.1 * o.2
    · rw [if_pos (e.mpr c), if_pos c, less_scale hm]
    · rw [if_neg (fun z => c (e.mp z)), if_neg c, less_scale hm]
theorem frac_scale {m : Nat} (hm : 0 < m) (a b : Nat) : fracD (m * a) (m * b) = fracD a b := by
  unfold fracD
  by_cases hb : b = 0
  · subst hb; simp
  · have h1 : ¬ m * b = 0 := by
      intro z
      rcases Nat.mul_eq_zero.mp z with z | z <;> omega
    rw [if_neg h1, if_neg hb, Nat.gcd_mul_left, Nat.mul_div_mul_left _ _ hm, Nat.mul_div_mul_left _ _ hm]
theorem shV_scale {m : Int} (hm : 0 < m) {l : List (Int × Int)} (h : ∀ q ∈ l, 0 ≤ q.1 ∧ 0 ≤ q.2) : shV (l.map (sc m)) = shV l := by
  cases l with
  | nil => rfl
  | cons b l =>
    have hb := h _ (less_mem l b)
    simp only [List.map, shV, less_scale hm]
    have e : ∀ x : Int, 0 ≤ x → (m * x).toNat = m.toNat * x.toNat := fun x hx => Int.toNat_mul (by omega) hx
    simp only [sc, e _ hb.1, e _ hb.2]
    exact frac_scale (by omega) _ _
theorem max_scale {m : Int} (hm : 0 < m) : ∀ (l : List Int) (a : Int), maxI (m * a) (l.map (m * ·)) = m * maxI a l
  | [], a => rfl
  | b :: l, a => by
    have e : (m * a < m * b) ↔ a < b := Int.mul_lt_mul_left hm
    show maxI (if m * a < m * b then m * b else m * a) (l.map (m * ·)) = m * maxI (if a < b then b else a) l
    by_cases c : a < b
    · rw [if_pos (e.mpr c), if_pos c]; exact max_scale hm l b
    · rw [if_neg (fun z => c (e.mp z)), if_neg c]; exact max_scale hm l a
section
variable {fs : List Int} {w : Int} {ps : List Int}
theorem lim_many (h : 1 ≤ w) (m : Int) : limI ps w (m * w) = ps.map (m * ·) := by
  unfold limI
  apply List.map_congr_left
  intro q _
  rw [← Int.mul_assoc, Int.mul_ediv_cancel _ (by omega), Int.mul_comm]
theorem lim_twice (h : 1 ≤ w) (s : Int) : limI (ps.map (2 * ·)) (2 * w) s = limI ps w s := by
  unfold limI
  rw [List.map_map]
  apply List.map_congr_left
  intro q _
  show 2 * q * s / (2 * w) = q * s / w
  rw [Int.mul_assoc, Int.mul_ediv_mul_of_pos _ _ (by omega)]
end
/-! ### the least of shares -/
theorem fr_trans {a b c d e f : Int} (hb : 0 < b) (hd : 0 < d) (hf : 0 < f) (h1 : a * d ≤ c * b) (h2 : c * f ≤ e * d) : a * f ≤ e * b := by
  have p1 : a * d * f ≤ c * b * f := Int.mul_le_mul_of_nonneg_right h1 (by omega)
  have p2 : c * f * b ≤ e * d * b := Int.mul_le_mul_of_nonneg_right h2 (by omega)
  have e1 : c * b * f = c * f * b := Int.mul_right_comm _ _ _
  have e2 : a * d * f = a * f * d := Int.mul_right_comm _ _ _
  have e3 : e * d * b = e * b * d := Int.mul_right_comm _ _ _
  have : a * f * d ≤ e * b * d := by omega
  exact Int.le_of_mul_le_mul_right this hd
theorem less_le : ∀ (l : List (Int × Int)) (b : Int × Int), (∀ q ∈ b :: l, 0 < q.2) → ∀ q ∈ b :: l, (lessI b l).1 * q.2 ≤ q.1 * (lessI b l).2
  | [], b, h, q, hq => by
    simp at hq
    subst hq
    exact Int.le_of_eq rfl
  | o :: l, b, h, q, hq => by
    have hb := h b (by simp)
    have ho := h o (by simp)
    have hn : ∀ q ∈ (if o.1 * b.2 < b.1 * o.2 then o else b) :: l, 0 < q.2 := fun z hz => by
      rcases List.mem_cons.mp hz with y | y
      · subst y; split <;> assumption
      · exact h z (by simp [y])
    have ih := less_le l _ hn
    have i0 := ih _ List.mem_cons_self
    have hm := hn _ (less_mem l _)
    show (lessI (if o.1 * b.2 < b.1 * o.2 then o else b) l).1 * q.2 ≤ q.1 * (lessI (if o.1 * b.2 < b.1 * o.2 then o else b) l).2
    rcases List.mem_cons.mp hq with z | hq
    · subst z
      by_cases c : o.1 * q.2 < q.1 * o.2
      · rw [if_pos c] at i0 hm ⊢
        exact fr_trans hm ho hb i0 (by omega)
      · rw [if_neg c] at i0 ⊢; exact i0
    · rcases List.mem_cons.mp hq with z | hq
      · subst z
        by_cases c : q.1 * b.2 < b.1 * q.2
        · rw [if_pos c] at i0 ⊢; exact i0
        · rw [if_neg c] at i0 hm ⊢
          exact fr_trans hm hb ho i0 (by omega)
      · exact ih q (by simp [hq])
/-! ### the gap -/
theorem gap_pt {w s : Int} (hw : 0 < w) : ∀ (fs ps : List Int) (f0 a A t T : Int), Up f0 fs → 0 ≤ f0 → -w ≤ a * w - A * s → a * w - A * s ≤ 0 → 0 ≤ t * w - T * s - f0 * (a * w - A * s) → t * w - T * s - f0 * (a * w - A * s) ≤ f0 * w →
    ∀ z ∈ (gI fs (limI ps w s) a t).zip ((gI fs ps A T).zip fs), -(z.2.2 * w) ≤ z.1 * w - z.2.1 * s ∧ z.1 * w - z.2.1 * s ≤ z.2.2 * w
  | [], ps, f0, a, A, t, T, _, _, _, _, _, _, z, hz => by simp [gI] at hz
  | f :: fs, [], f0, a, A, t, T, _, _, _, _, _, _, z, hz => by simp [gI, limI] at hz
  | f :: fs, q :: ps, f0, a, A, t, T, hu, h0, e1, e2, u1, u2, z, hz => by
    have l1 : q * s / w * w - q * s ≤ 0 := by have := Int.ediv_mul_le (q * s) (b := w) (by omega); omega
    have l2 : -w ≤ q * s / w * w - q * s := by have := Int.lt_ediv_add_one_mul_self (q * s) hw; rw [Int.add_mul, Int.one_mul] at this; omega
    have hf := hu.1
    generalize hl : q * s / w = l at l1 l2
    generalize he0 : a * w - A * s = e0 at e1 e2 u1 u2
    generalize he : l * w - q * s = e at l1 l2
    -- the new sums
    have k1 : (t + f * (l - a)) * w - (T + f * (q - A)) * s = (t * w - T * s) + f * (e - e0) := by
      subst he he0
      simp only [Int.add_mul, Int.mul_sub, Int.sub_mul, Int.mul_assoc]
      omega
    generalize hV : t * w - T * s = V at u1 u2 k1
    have p1 : 0 ≤ (f - f0) * (-e0) := Int.mul_nonneg (by omega) (by omega)
    have p2 : (f - f0) * (-e0) ≤ (f - f0) * w := Int.mul_le_mul_of_nonneg_left (by omega) (by omega)
    have p3 : (f - f0) * (-e0) = f0 * e0 - f * e0 := by rw [Int.sub_mul, Int.mul_neg, Int.mul_neg]; omega
    have p4 : (f - f0) * w = f * w - f0 * w := Int.sub_mul _ _ _
    have p5 : f * (e - e0) = f * e - f * e0 := Int.mul_sub _ _ _
    have p6 : f * (-w) ≤ f * e := Int.mul_le_mul_of_nonneg_left l2 (by omega)
    have p7 : f * e ≤ 0 := Int.mul_nonpos_of_nonneg_of_nonpos (by omega) l1
    have p8 : f * (-w) = -(f * w) := Int.mul_neg _ _
    simp only [gI, limI, List.map, List.zip_cons_cons, List.mem_cons] at hz
    rw [hl] at hz
    rcases hz with hz | hz
    · subst hz
      simp only
      rw [k1]
      constructor <;> omega
    · refine gap_pt hw fs ps f l q (t + f * (l - a)) (T + f * (q - A)) hu.2 (by omega) (by rw [he]; exact l2) (by rw [he]; exact l1) ?_ ?_ z (by simpa [limI] using hz)
      · rw [k1, he]; omega
      · rw [k1, he]; omega
end Pk

set_option Elab.async false
set_option linter.all false
set_option maxRecDepth 100000
set_option maxHeartbeats 4000000
/-! The least share beside the long share. -/
namespace Pk
open PySem Bk
theorem zip3 (s w : Int) : ∀ (xs ys fs : List Int), xs.length = fs.length → ys.length = fs.length →
    (∀ q ∈ (xs.zip fs).map (fun q => (q.1, s * q.2)), ∃ z ∈ xs.zip (ys.zip fs), q = (z.1, s * z.2.2) ∧ (z.2.1, w * z.2.2) ∈ (ys.zip fs).map (fun q => (q.1, w * q.2))) ∧
    (∀ q ∈ (ys.zip fs).map (fun q => (q.1, w * q.2)), ∃ z ∈ xs.zip (ys.zip fs), q = (z.2.1, w * z.2.2) ∧ (z.1, s * z.2.2) ∈ (xs.zip fs).map (fun q => (q.1, s * q.2)))
  | [], ys, [], _, _ => by simp
  | [], ys, f :: fs, h, _ => by simp at h
  | x :: xs, ys, [], h, _ => by simp at h
  | x :: xs, [], f :: fs, _, h => by simp at h
  | x :: xs, y :: ys, f :: fs, h1, h2 => by
    obtain ⟨i1, i2⟩ := zip3 s w xs ys fs (by simpa using h1) (by simpa using h2)
    constructor
    · intro q hq
      simp only [List.zip_cons_cons, List.map, List.mem_cons] at hq
      rcases hq with hq | hq
      · exact ⟨(x, y, f), by simp, hq, by simp⟩
      · obtain ⟨z, hz, e, m⟩ := i1 q hq
        exact ⟨z, by simp only [List.zip_cons_cons, List.mem_cons]; exact .inr hz, e, by simp only [List.zip_cons_cons, List.map, List.mem_cons]; exact .inr m⟩
    · intro q hq
      simp only [List.zip_cons_cons, List.map, List.mem_cons] at hq
      rcases hq with hq | hq
      · exact ⟨(x, y, f), by simp, hq, by simp⟩
      · obtain ⟨z, hz, e, m⟩ := i2 q hq
        exact ⟨z, by simp only [List.zip_cons_cons, List.mem_cons]; exact .inr hz, e, by simp only [List.zip_cons_cons, List.map, List.mem_cons]; exact .inr m⟩
theorem gap_up {A B fj gj Gj s w : Int} (hB : 0 ≤ B) (hw : 0 ≤ w) (h1 : A * (s * fj) ≤ gj * B) (h2 : gj * w - Gj * s ≤ fj * w) : (A * (w * fj) - Gj * B) * s ≤ B * (w * fj) := by
  have p1 : A * (s * fj) * w ≤ gj * B * w := Int.mul_le_mul_of_nonneg_right h1 hw
  have p2 : (gj * w - Gj * s) * B ≤ fj * w * B := Int.mul_le_mul_of_nonneg_right h2 hB
  have e1 : (A * (w * fj) - Gj * B) * s = A * (s * fj) * w - Gj * s * B := by grind
  have e2 : (gj * w - Gj * s) * B = gj * B * w - Gj * s * B := by grind
  have e3 : B * (w * fj) = fj * w * B := by grind
  omega
theorem gap_lo {C E fi gi Gi s w : Int} (hE : 0 ≤ E) (hw : 0 < w) (hs : 0 ≤ s) (h1 : C * (w * fi) ≤ Gi * E) (h2 : -(fi * w) ≤ gi * w - Gi * s) : -(s * fi * E) ≤ (gi * E - C * (s * fi)) * s := by
  have hss : 0 ≤ s * s := Int.mul_nonneg hs hs
  have hEs : 0 ≤ E * s := Int.mul_nonneg hE hs
  have p1 : C * (w * fi) * (s * s) ≤ Gi * E * (s * s) := Int.mul_le_mul_of_nonneg_right h1 hss
  have p2 : -(fi * w) * (E * s) ≤ (gi * w - Gi * s) * (E * s) := Int.mul_le_mul_of_nonneg_right h2 hEs
  have e1 : (gi * E - C * (s * fi)) * s * w = gi * w * (E * s) - C * (w * fi) * (s * s) := by grind
  have e2 : (gi * w - Gi * s) * (E * s) = gi * w * (E * s) - Gi * E * (s * s) := by grind
  have e3 : -(s * fi * E) * w = -(fi * w) * (E * s) := by grind
  have : -(s * fi * E) * w ≤ (gi * E - C * (s * fi)) * s * w := by omega
  exact Int.le_of_mul_le_mul_right this hw
theorem upS_up : ∀ {l : List Int} {a : Int}, upS l = true → (∀ b ∈ l.head?, a ≤ b) → Up a l
  | [], a, _, _ => trivial
  | [b], a, _, h => ⟨h b (by simp), trivial⟩
  | b :: c :: r, a, h, h0 => by
    simp only [upS, List.tail_cons, List.zip_cons_cons, List.all_cons, Bool.and_eq_true, decide_eq_true_eq] at h
    refine ⟨h0 b (by simp), upS_up (l := c :: r) ?_ (fun d hd => ?_)⟩
    · simpa [upS] using h.2
    · simp at hd; subst hd; omega
/-- a fraction in least terms, beside what it came from -/
theorem frac_of {a b : Int} (ha : 0 ≤ a) (hb : 1 ≤ b) : ∃ c d h : Int, fracD a.toNat b.toNat = .tup [.int c, .int d] ∧ 0 < h ∧ a = h * c ∧ b = h * d ∧ 0 ≤ c ∧ 1 ≤ d ∧ c ≤ a ∧ d ≤ b := by
  have hb0 : b.toNat ≠ 0 := by omega
  have hg : 0 < Nat.gcd a.toNat b.toNat := Nat.gcd_pos_of_pos_right _ (Nat.pos_of_ne_zero hb0)
  have e1 : a.toNat = Nat.gcd a.toNat b.toNat * (a.toNat / Nat.gcd a.toNat b.toNat) := (Nat.mul_div_cancel' (Nat.gcd_dvd_left _ _)).symm
  have e2 : b.toNat = Nat.gcd a.toNat b.toNat * (b.toNat / Nat.gcd a.toNat b.toNat) := (Nat.mul_div_cancel' (Nat.gcd_dvd_right _ _)).symm
  have l1 : a.toNat / Nat.gcd a.toNat b.toNat ≤ a.toNat := Nat.div_le_self _ _
  have l2 : b.toNat / Nat.gcd a.toNat b.toNat ≤ b.toNat := Nat.div_le_self _ _
  have l3 : 0 < b.toNat / Nat.gcd a.toNat b.toNat := Nat.div_pos (Nat.gcd_le_right _ (Nat.pos_of_ne_zero hb0)) hg
  have ef : fracD a.toNat b.toNat = .tup [.int (a.toNat / Nat.gcd a.toNat b.toNat : Nat), .int (b.toNat / Nat.gcd a.toNat b.toNat : Nat)] := by unfold fracD; rw [if_neg hb0]
  generalize a.toNat / Nat.gcd a.toNat b.toNat = c at *
  generalize b.toNat / Nat.gcd a.toNat b.toNat = d at *
  generalize Nat.gcd a.toNat b.toNat = k at *
  have e1' := congrArg (fun x : Nat => (x : Int)) e1
  have e2' := congrArg (fun x : Nat => (x : Int)) e2
  simp only [Int.natCast_mul] at e1' e2'
  exact ⟨(c : Nat), (d : Nat), (k : Nat), ef, by omega, by omega, by omega, by omega, by omega, by omega, by omega⟩
theorem gap_i {fs : List Int} {w : Int} {ps : List Int} (h : PO fs w ps) {s : Int} (h0 : 1 ≤ s) (h1 : s ≤ 10 ^ 30) :
    ∃ o0 o1 t0 t1 : Int, shV (prs s fs (limI ps w s)) = .tup [.int o0, .int o1] ∧ shV (prs w fs ps) = .tup [.int t0, .int t1] ∧ (0 ≤ o0 ∧ o0 ≤ 10 ^ 40 ∧ 1 ≤ o1 ∧ o1 ≤ 10 ^ 40) ∧ (0 ≤ t0 ∧ t0 ≤ 10 ^ 40 ∧ 1 ≤ t1 ∧ t1 ≤ 10 ^ 40) ∧
      -(o1 * t1) ≤ (o0 * t1 - t0 * o1) * s ∧ (o0 * t1 - t0 * o1) * s ≤ o1 * t1 := by
  have hw := h.w0
  have hw1 := h.w1
  have hlen : (limI ps w s).length = fs.length := by simp [limI, h.len]
  have hu : Up 0 ps := by have := limI_up h (s := w) (by omega); rwa [h.lim_w] at this
  have b1 := prs_bd (d := s) h.f h.f4 (limI_up h (by omega)) (fun l hl => (limI_bd h (s := s) (by omega) l hl).2) (by omega) (by omega) h0 (by omega)
  have b2 := prs_bd (d := w) h.f h.f4 hu (fun l hl => (h.q l hl).2) (by omega) (by omega) hw (by omega)
  obtain ⟨z1, z2⟩ := zip3 s w (gI fs (limI ps w s) 0 0) (gI fs ps 0 0) fs (by rw [gI_len, hlen, Nat.min_self]) (by rw [gI_len, h.len, Nat.min_self])
  have gp := gap_pt (s := s) (w := w) (by omega) fs ps 0 0 0 0 0 (upS_up h.upf fun b hb => by have := (h.f b (List.mem_of_mem_head? hb)).1; omega) (Int.le_refl _) (by simp; omega) (by simp) (by simp) (by simp)
  obtain ⟨c1, r1, e1⟩ := prs_ne (d := s) h.f1 hlen
  obtain ⟨c2, r2, e2⟩ := prs_ne (d := w) (ls := ps) h.f1 h.len
  have m1 := less_mem r1 c1
  have m2 := less_mem r2 c2
  rw [← e1] at m1
  rw [← e2] at m2
  have le1 := less_le r1 c1 (fun q hq => by rw [← e1] at hq; have := b1 q hq; omega)
  have le2 := less_le r2 c2 (fun q hq => by rw [← e2] at hq; have := b2 q hq; omega)
  rw [← e1] at le1
  rw [← e2] at le2
  have d1 := b1 _ m1
  have d2 := b2 _ m2
  obtain ⟨zi, hzi, ei, mi⟩ := z1 _ m1
  obtain ⟨zj, hzj, ej, mj⟩ := z2 _ m2
  have gi := gp zi hzi
  have gj := gp zj hzj
  have li := le2 _ mi
  have lj := le1 _ mj
  generalize hA : lessI c1 r1 = L1 at *
  generalize hC : lessI c2 r2 = L2 at *
  have U : (L1.1 * L2.2 - L2.1 * L1.2) * s ≤ L1.2 * L2.2 := by
    rw [ej]
    exact gap_up (by omega) (by omega) lj gj.2
  have V : -(L1.2 * L2.2) ≤ (L1.1 * L2.2 - L2.1 * L1.2) * s := by
    rw [ei] at d1 ⊢
    exact gap_lo (by omega) (by omega) (by omega) li gi.1
  obtain ⟨o0, o1, k1, f1, hk1, a1, a2, a3, a4, a5, a6⟩ := frac_of d1.1 d1.2.2.1
  obtain ⟨t0, t1, k2, f2, hk2, g1, g2, g3, g4, g5, g6⟩ := frac_of d2.1 d2.2.2.1
  refine ⟨o0, o1, t0, t1, by rw [e1]; simp only [shV, hA]; exact f1, by rw [e2]; simp only [shV, hC]; exact f2, ⟨a3, by omega, a4, by omega⟩, ⟨g3, by omega, g4, by omega⟩, ?_, ?_⟩
  · have q1 : -(L1.2 * L2.2) = -(o1 * t1) * (k1 * k2) := by rw [a2, g2]; grind
    have q2 : (L1.1 * L2.2 - L2.1 * L1.2) * s = (o0 * t1 - t0 * o1) * s * (k1 * k2) := by rw [a1, a2, g1, g2]; grind
    rw [q1, q2] at V
    exact Int.le_of_mul_le_mul_right V (Int.mul_pos hk1 hk2)
  · have q1 : L1.2 * L2.2 = o1 * t1 * (k1 * k2) := by rw [a2, g2]; grind
    have q2 : (L1.1 * L2.2 - L2.1 * L1.2) * s = (o0 * t1 - t0 * o1) * s * (k1 * k2) := by rw [a1, a2, g1, g2]; grind
    rw [q1, q2] at U
    exact Int.le_of_mul_le_mul_right U (Int.mul_pos hk1 hk2)
theorem frac_cross {x y M S : Int} (hx : 0 ≤ x) (hy : 1 ≤ y) (hM : 0 ≤ M) (hS : 1 ≤ S) (h : x * S = M * y) : fracD x.toNat y.toNat = fracD M.toNat S.toNat := by
  have e1 := frac_scale (m := S.toNat) (by omega) x.toNat y.toNat
  have e2 := frac_scale (m := y.toNat) (by omega) M.toNat S.toNat
  have n1 : S.toNat * x.toNat = y.toNat * M.toNat := by
    have : ((S.toNat * x.toNat : Nat) : Int) = ((y.toNat * M.toNat : Nat) : Int) := by
      push_cast
      rw [Int.toNat_of_nonneg (by omega : 0 ≤ S), Int.toNat_of_nonneg hx, Int.toNat_of_nonneg (by omega : 0 ≤ y), Int.toNat_of_nonneg hM, Int.mul_comm, h, Int.mul_comm]
    exact Int.ofNat_inj.mp this
  rw [← e1, ← e2, n1, Nat.mul_comm S.toNat y.toNat]
/-- strictly rising from a on -/
def Us : Int → List Int → Prop
  | _, [] => True
  | a, b :: r => a < b ∧ Us b r
theorem Us.of : ∀ {l : List Int} {a : Int}, upS (a :: l) = true → Us a l
  | [], a, _ => trivial
  | b :: l, a, h => by
    simp only [upS, List.tail_cons, List.zip_cons_cons, List.all_cons, Bool.and_eq_true, decide_eq_true_eq] at h
    exact ⟨h.1, Us.of (by simpa [upS] using h.2)⟩
end Pk

set_option Elab.async false
set_option linter.all false
set_option maxRecDepth 100000
set_option maxHeartbeats 4000000
/-! Drawn things; what can be shown. -/
namespace Pk
open PySem Bk
variable {p : Pr} [HP p]
/-! ### what can be shown -/
structure Sz (n h : Nat) (d : D) : Prop where
  pl : d.pl = true
  sh : d.py.showable = true
  dp : d.py.depth ≤ h
  ln : d.py.shown.length ≤ n
theorem Sz.mono {n h n' h' : Nat} {d : D} (s : Sz n h d) (hn : n ≤ n') (hh : h ≤ h') : Sz n' h' d := ⟨s.pl, s.sh, Nat.le_trans s.dp hh, Nat.le_trans s.ln hn⟩
theorem Sz.int {i : Int} (h : Sm i) : Sz 1921 0 (.int i) := by
  have hl := h.log
  refine ⟨by simp [D.pl], by simp only [D.py, PyData.showable]; exact decide_eq_true (by omega), by simp [D.py, PyData.depth], ?_⟩
  simp only [D.py, PyData.shown]
  exact PyProof.Rows.int_text_len_1921 (by omega)
theorem Sz.all {n h : Nat} : ∀ {ds : List D}, (∀ d ∈ ds, Sz n h d) → pls ds = true ∧ PyData.showableAll (pys ds) = true ∧ PyData.depthAll (pys ds) ≤ h ∧ ((PyData.shownAll (pys ds)).map (·.length)).sum ≤ n * ds.length ∧ (PyData.shownAll (pys ds)).length = ds.length
  | [], _ => by simp [pls, pys, PyData.showableAll, PyData.depthAll, PyData.shownAll]
  | d :: ds, H => by
    have h1 := H d (by simp)
    obtain ⟨i1, i2, i3, i4, i5⟩ := Sz.all (ds := ds) fun x hx => H x (by simp [hx])
    refine ⟨by simp [pls, h1.pl, i1], by simp [pys, PyData.showableAll, h1.sh, i2], ?_, ?_, ?_⟩
    · simp only [pys, PyData.depthAll]; exact Nat.max_le.mpr ⟨h1.dp, i3⟩
    · simp only [pys, PyData.shownAll, List.map_cons, List.sum_cons, List.length_cons, Nat.mul_add, Nat.mul_one]
      have := h1.ln
      omega
    · simp [pys, PyData.shownAll, i5]
theorem Sz.tup {n h : Nat} {ds : List D} (H : ∀ d ∈ ds, Sz n h d) : Sz ((n + 2) * ds.length + 3) (h + 1) (.tup ds) := by
  obtain ⟨i1, i2, i3, i4, i5⟩ := Sz.all H
  refine ⟨by simp [D.pl, i1], by simp [D.py, PyData.showable, i2], by simp [D.py, PyData.depth]; exact i3, ?_⟩
  simp only [D.py, PyData.shown]
  have := tupleText_len_le (PyData.shownAll (pys ds))
  rw [i5] at this
  rw [Nat.add_mul]
  omega
theorem Sz.lst {n h : Nat} {ds : List D} (H : ∀ d ∈ ds, Sz n h d) : Sz ((n + 2) * ds.length + 3) (h + 1) (.lst ds) := by
  obtain ⟨i1, i2, i3, i4, i5⟩ := Sz.all H
  refine ⟨by simp [D.pl, i1], by simp [D.py, PyData.showable, i2], by simp [D.py, PyData.depth]; exact i3, ?_⟩
  simp only [D.py, PyData.shown]
  have := listText_len_le (PyData.shownAll (pys ds))
  rw [i5] at this
  rw [Nat.add_mul]
  omega
theorem Sz.ti {l : List Int} (H : ∀ x ∈ l, Sm x) : Sz (1923 * l.length + 3) 1 (ti l) := by
  have := Sz.tup (n := 1921) (h := 0) (ds := l.map .int) fun d hd => by
    obtain ⟨x, hx, rfl⟩ := List.mem_map.mp hd
    exact Sz.int (H x hx)
  simpa [Pk.ti] using this
theorem like_s {f : Nat} (hf : p.ds.lookup f = some ⟨2, 2, likeB⟩) (k : Nat) {d : D} {n : Nat} (g : G) (s : Sz n 64 d) (hn : n ≤ 1000000) : den p (k + 1) f [d, d] g = .ok (.bl true) g := like_r hf k d g s.pl s.sh s.dp (Nat.le_trans s.ln hn)
/-! ### draws -/
theorem draw_bd (g : G) {lim : Int} (h : 0 < lim) : 0 ≤ (g.draw lim).1 ∧ (g.draw lim).1 < lim ∧ (g.draw lim).2.spot = g.spot + 1 := by
  have hm : 0 ≤ g.mix lim ∧ g.mix lim < lim := by unfold G.mix; exact ⟨Int.emod_nonneg _ (by omega), Int.emod_lt_of_pos _ h⟩
  unfold G.draw
  split
  · exact ⟨hm.1, hm.2, rfl⟩
  · split
    · exact ⟨Int.emod_nonneg _ (by omega), Int.emod_lt_of_pos _ h, rfl⟩
    · exact ⟨hm.1, hm.2, rfl⟩
theorem x_dr {cs : List (Nat × D)} {call : Nat → List D → G → R D} {Γ : Gm} {g g1 g2 : G} {a b : E} {lim : Int} (ha : evE cs call a Γ g = .ok .m g1) (hb : evE cs call b Γ g1 = .ok (.int lim) g2) (h0 : 0 < lim) (h1 : lim ≤ 10 ^ 100) (hs : g2.spot < 2 ^ 60) :
    ∃ v g', evE cs call (.draw a b) Γ g = .ok (.int v) g' ∧ 0 ≤ v ∧ v < lim ∧ g'.spot = g2.spot + 1 := by
  have hb2 := draw_bd g2 h0
  refine ⟨(g2.draw lim).1, (g2.draw lim).2, ?_, hb2⟩
  rw [x_draw, ha, r_ok, hb, r_ok]
  have : lim < 2 ^ 4000 := Int.lt_of_le_of_lt h1 (by decide +kernel)
  simp only [h0, this, hs, and_self, if_true]
theorem of_i (k : Nat) {xs : List D} (g : G) (h0 : 1 ≤ xs.length) (h1 : xs.length ≤ 1000) (hs : g.spot < 2 ^ 60) : ∃ x g', den p (k + 1) 9 [.m, .lst xs] g = .ok x g' ∧ x ∈ xs ∧ g'.spot = g.spot + 1 := by
  obtain ⟨v, g', e, hv0, hv1, hg⟩ := x_dr (cs := p.cs) (call := den p k) (Γ := [.val .m, .val (.lst xs)]) (g := g) (g1 := g) (g2 := g) (a := .var 0) (b := .bi .len (.cons (.var 1) .nil)) (lim := xs.length) (by simp) (by simp) (by omega) (by omega) hs
  have hlt : v.toNat < xs.length := by omega
  refine ⟨xs[v.toNat], g', ?_, List.getElem_mem hlt, hg⟩
  refine Eq.trans (den_f HP.h__law_of rfl (by decide)) ?_
  show endR (evB p.cs (den p k) b__law_of [.val .m, .val (.lst xs)] g) = _
  have ea : atD xs v = some xs[v.toNat] := by
    unfold atD; rw [if_pos hv0]; exact List.getElem?_eq_getElem hlt
  simp [b__law_of, e, ea, -x_draw]
/-! ### fares -/
def bodyL : B := .cons (.asg (.var 4) (.bin .add (.bin .add (.var 4) (.cst (.int 1))) (.draw (.var 0) (.idx (.lst (.cons (.cst (.int 3)) (.cons (.cst (.int 24)) .nil))) (.draw (.var 0) (.cst (.int 2))))))) (.cons (.asg (.var 3) (.bin .add (.var 3) (.tup (.cons (.var 4) .nil)))) .nil)
theorem fares_w (cs : List (Nat × D)) (call : Nat → List D → G → R D) (s1 : Slot) : ∀ (xs : List D) (g : G) (last : Int) (acc : List Int) (s2 : Slot), xs.length + acc.length ≤ 100 → g.spot + 2 * xs.length < 2 ^ 60 →
    ∃ new s2' last' g', forR (fun x Γ g => (lift (setT (.var 2) x Γ) g).bind fun Γ' g => evB cs call bodyL Γ' g) xs [.val .m, s1, s2, .val (ti acc), .val (.int last)] g = .ok (.nx [.val .m, s1, s2', .val (ti (acc ++ new)), .val (.int last')]) g'
      ∧ new.length = xs.length ∧ Us last new ∧ (∀ x ∈ new, x ≤ last + 24 * xs.length) ∧ g'.spot = g.spot + 2 * xs.length
  | [], g, last, acc, s2, _, _ => ⟨[], s2, last, g, by simp [forR], rfl, trivial, by simp, by simp⟩
  | x :: xs, g, last, acc, s2, hl, hs => by
    simp only [List.length_cons] at hl hs
    push_cast at hs
    obtain ⟨v, g1, e1, v0, v1, hg1⟩ := x_dr (cs := cs) (call := call) (Γ := [.val .m, s1, .val x, .val (ti acc), .val (.int last)]) (g := g) (g1 := g) (g2 := g) (a := .var 0) (b := .cst (.int 2)) (lim := 2) (by simp) (by simp) (by decide) (by decide) (by omega)
    have hidx : ∃ lim : Int, atD [.int 3, .int 24] v = some (.int lim) ∧ 3 ≤ lim ∧ lim ≤ 24 := by
      have : v = 0 ∨ v = 1 := by omega
      rcases this with rfl | rfl
      · exact ⟨3, rfl, by decide, by decide⟩
      · exact ⟨24, rfl, by decide, by decide⟩
    obtain ⟨lim, el, l0, l1⟩ := hidx
    obtain ⟨u, g2, e2, u0, u1, hg2⟩ := x_dr (cs := cs) (call := call) (Γ := [.val .m, s1, .val x, .val (ti acc), .val (.int last)]) (g := g) (g1 := g) (g2 := g1) (a := .var 0) (b := .idx (.lst (.cons (.cst (.int 3)) (.cons (.cst (.int 24)) .nil))) (.draw (.var 0) (.cst (.int 2)))) (lim := lim) (by simp) (by simp [e1, el, -x_draw]) (by omega) (by omega) (by omega)
    obtain ⟨new, s2', last', g', ih, i1, i2, i3, i4⟩ := fares_w cs call s1 xs g2 (last + 1 + u) (acc ++ [last + 1 + u]) (.val x) (by simp; omega) (by omega)
    refine ⟨(last + 1 + u) :: new, s2', last', g', ?_, by simp [i1], ⟨by omega, i2⟩, fun y hy => ?_, by simp only [List.length_cons]; push_cast; omega⟩
    · have st : ((lift (setT (.var 2) x [.val .m, s1, s2, .val (ti acc), .val (.int last)]) g).bind fun Γ' g => evB cs call bodyL Γ' g) = .ok (.nx [.val .m, s1, .val x, .val (ti (acc ++ [last + 1 + u])), .val (.int (last + 1 + u))]) g2 := by
        have ea : opD .add (ti acc) (.tup [.int (last + 1 + u)]) = some (ti (acc ++ [last + 1 + u])) := by
          simp only [opD, ti]
          rw [if_pos (by simp; omega)]
          simp
        simp [bodyL, e2, ea, -x_draw]
      unfold forR
      rw [st, r_ok]
      simpa using ih
    · simp only [List.length_cons]
      push_cast
      rcases List.mem_cons.mp hy with z | z
      · omega
      · have := i3 y z; omega
theorem us_all : ∀ {l : List Int} {a : Int}, Us a l → ∀ x ∈ l, a < x
  | [], _, _, x, hx => by cases hx
  | b :: l, a, h, x, hx => by
    rcases List.mem_cons.mp hx with z | z
    · rw [z]; exact h.1
    · have := us_all h.2 x z
      have := h.1
      omega
theorem us_upS : ∀ {l : List Int} {a : Int}, Us a l → upS l = true
  | [], _, _ => rfl
  | [b], _, _ => rfl
  | b :: c :: l, a, h => by
    have ih := us_upS (l := c :: l) h.2
    simp only [upS, List.tail_cons, List.zip_cons_cons, List.all_cons, Bool.and_eq_true, decide_eq_true_eq] at ih ⊢
    exact ⟨h.2.1, ih⟩
theorem rngD_len : ∀ (n : Nat) (a : Int), (rngD a n).length = n
  | 0, _ => rfl
  | n + 1, a => by simp [rngD, rngD_len n]
theorem fares_d (k : Nat) {most : Int} (g : G) (h0 : 1 ≤ most) (h1 : most ≤ 4) (hs : g.spot + 20 < 2 ^ 60) : ∃ fs g', den p (k + 1) 1 [.m, .int most] g = .ok (ti fs) g' ∧ fsOk fs = true ∧ g'.spot ≤ g.spot + 9 ∧ (fs.length : Int) ≤ most ∧ ∀ x ∈ fs, x ≤ 96 := by
  obtain ⟨v, g1, e1, v0, v1, hg1⟩ := x_dr (cs := p.cs) (call := den p k) (Γ := [.val .m, .val (.int most), .no, .val (.tup []), .val (.int 0)]) (g := g) (g1 := g) (g2 := g) (a := .var 0) (b := .var 1) (lim := most) (by simp) (by simp) (by omega) (by omega) (by omega)
  obtain ⟨new, s2', last', g', e2, i1, i2, i3, i4⟩ := fares_w p.cs (den p k) (.val (.int most)) (rngD 0 (1 + v).toNat) g1 0 [] .no (by rw [rngD_len]; simp; omega) (by rw [rngD_len]; omega)
  rw [rngD_len] at i1 i3 i4
  refine ⟨new, g', ?_, ?_, by omega, by omega, fun x hx => by have := i3 x hx; omega⟩
  · refine Eq.trans (den_f HP.h__law_fares rfl (by decide)) ?_
    show endR (evB p.cs (den p k) b__law_fares [.val .m, .val (.int most), .no, .no, .no] g) = _
    have e3 : evS p.cs (den p k) (.for_ (.var 2) (.rng1 (.bin .add (.cst (.int 1)) (.draw (.var 0) (.var 1)))) bodyL) [.val .m, .val (.int most), .no, .val (.tup []), .val (.int 0)] g = .ok (.nx [.val .m, .val (.int most), s2', .val (ti new), .val (.int last')]) g' := by
      rw [s_for', i_rng1]
      have hr : (-1000000 ≤ 1 + v ∧ 1 + v ≤ 1000000) := by omega
      simp only [x_bin, x_cst, r_ok, e1, o_add, l_some, hr, and_self, if_true]
      exact e2
    unfold b__law_fares
    change endR (evB p.cs (den p k) (.cons _ (.cons (.for_ (.var 2) (.rng1 (.bin .add (.cst (.int 1)) (.draw (.var 0) (.var 1)))) bodyL) _)) _ g) = _
    simp [e3, -x_draw]
  · unfold fsOk
    simp only [Bool.and_eq_true, decide_eq_true_eq, List.all_eq_true]
    refine ⟨⟨⟨by omega, by omega⟩, fun x hx => ?_⟩, us_upS i2⟩
    have := us_all i2 x hx
    have := i3 x hx
    omega
/-! ### plans -/
theorem lc_draws {f : D → G → R (Option D)} {lim : Int} (hf : ∀ x g, g.spot < 2 ^ 60 → ∃ v g', f x g = .ok (some (.int v)) g' ∧ 0 ≤ v ∧ v < lim ∧ g'.spot = g.spot + 1) : ∀ (xs : List D) (g : G), g.spot + xs.length < 2 ^ 60 → ∃ (ns : List Int) (g' : G), lcR f xs g = .ok (ns.map D.int) g' ∧ ns.length = xs.length ∧ (∀ n ∈ ns, 0 ≤ n ∧ n < lim) ∧ g'.spot = g.spot + xs.length
  | [], g, _ => ⟨[], g, rfl, rfl, by simp, by simp⟩
  | x :: xs, g, h => by
    simp only [List.length_cons] at h
    push_cast at h
    obtain ⟨v, g1, e1, v0, v1, hg1⟩ := hf x g (by omega)
    obtain ⟨ns, g', e2, i1, i2, i3⟩ := lc_draws hf xs g1 (by omega)
    refine ⟨v :: ns, g', ?_, by simp [i1], fun n hn => ?_, by simp only [List.length_cons]; push_cast; omega⟩
    · simp only [lcR, e1, R.nox, r_ok, e2, List.map_cons]
    · rcases List.mem_cons.mp hn with z | z
      · omega
      · exact i2 n z
end Pk

set_option Elab.async false
set_option linter.all false
set_option maxRecDepth 100000
set_option maxHeartbeats 4000000
/-! A turn of the law. -/
namespace Pk
open PySem Bk
variable {p : Pr} [HP p]
def drw (x y : D) (g : G) : R D := match x, y with
  | .m, .int lim => if 0 < lim ∧ lim < 2 ^ 4000 ∧ g.spot < 2 ^ 60 then .ok (.int (g.draw lim).1) (g.draw lim).2 else .st
  | _, _ => .st
theorem x_drw {cs : List (Nat × D)} {call : Nat → List D → G → R D} {Γ : Gm} {g : G} (a b : E) : evE cs call (.draw a b) Γ g = (evE cs call a Γ g).bind fun x g => (evE cs call b Γ g).bind fun y g => drw x y g := by rw [x_draw]; rfl
theorem x_lc0 {cs : List (Nat × D)} {call : Nat → List D → G → R D} {Γ : Gm} {g : G} (elt : E) (t : T) (it : I) : evE cs call (.lc elt t it none) Γ g = (evI cs call it Γ g).bind fun xs g => (lcR (fun x g => (lift (setT t x (wipeG Γ t.vars)) g).bind fun Γ' g => (evE cs call elt Γ' g).bind fun y g => .ok (some y) g) xs g).bind fun ys g => .ok (.lst ys) g := by
  rw [evE.eq_def]
theorem drw_ok {lim : Int} {g : G} (h0 : 0 < lim) (h1 : lim ≤ 10 ^ 100) (hs : g.spot < 2 ^ 60) : ∃ v g', drw .m (.int lim) g = .ok (.int v) g' ∧ 0 ≤ v ∧ v < lim ∧ g'.spot = g.spot + 1 := by
  have hb2 := draw_bd g h0
  refine ⟨(g.draw lim).1, (g.draw lim).2, ?_, hb2⟩
  have : lim < 2 ^ 4000 := Int.lt_of_le_of_lt h1 (by decide +kernel)
  simp only [drw, h0, this, hs, and_self, if_true]
theorem pair_ups : ∀ {l : List Int}, l.Pairwise (· ≤ ·) → ups l = true
  | [], _ => rfl
  | [b], _ => rfl
  | b :: c :: r, h => by
    have ih := pair_ups (l := c :: r) (List.pairwise_cons.mp h).2
    have h1 := (List.pairwise_cons.mp h).1 c (by simp)
    simp only [ups, List.tail_cons, List.zip_cons_cons, List.all_cons, Bool.and_eq_true, decide_eq_true_eq] at ih ⊢
    exact ⟨h1, ih⟩
theorem insI_perm' (i : Int) : ∀ l : List Int, (insI i l).Perm (i :: l)
  | [] => List.Perm.refl _
  | j :: r => by
    unfold insI
    split
    · exact List.Perm.refl _
    · exact ((insI_perm' i r).cons j).trans (List.Perm.swap i j r)
theorem insI_sorted' (i : Int) : ∀ l : List Int, l.Pairwise (· ≤ ·) → (insI i l).Pairwise (· ≤ ·)
  | [], _ => by simp [insI]
  | j :: r, h => by
    unfold insI
    split
    · rename_i c
      refine List.pairwise_cons.mpr ⟨fun y hy => ?_, h⟩
      rcases List.mem_cons.mp hy with z | z
      · omega
      · have := (List.pairwise_cons.mp h).1 y z; omega
    · rename_i c
      refine List.pairwise_cons.mpr ⟨fun y hy => ?_, insI_sorted' i r (List.pairwise_cons.mp h).2⟩
      rcases List.mem_cons.mp ((insI_perm' i r).mem_iff.mp hy) with z | z
      · omega
      · exact (List.pairwise_cons.mp h).1 y z
theorem sortI_perm' : ∀ l : List Int, (sortI l).Perm l
  | [] => List.Perm.refl _
  | i :: l => (insI_perm' i _).trans ((sortI_perm' l).cons i)
theorem sortI_sorted' : ∀ l : List Int, (sortI l).Pairwise (· ≤ ·)
  | [] => List.Pairwise.nil
  | i :: l => insI_sorted' i _ (sortI_sorted' l)
theorem plan_d (k : Nat) {fh most : Int} (g : G) (f0 : 1 ≤ fh) (f1 : fh ≤ 4) (h0 : 1 ≤ most) (h1 : most ≤ 60) (hs : g.spot + 100 < 2 ^ 60) : ∃ fs w ps g', den p (k + 2) 0 [.m, .int fh, .int most] g = .ok (plD fs w ps) g' ∧ PO fs w ps ∧ w ≤ most ∧ g'.spot ≤ g.spot + 14 ∧ ∀ x ∈ fs, x ≤ 96 := by
  obtain ⟨fs, g1, e1, hf, hg1, hfl, h96⟩ := fares_d (p := p) k (most := fh) g f0 f1 (by omega)
  obtain ⟨v, g2, e2, v0, v1, hg2⟩ := drw_ok (lim := most) (g := g1) (by omega) (by omega) (by omega)
  have hfl' : fs.length ≤ 4 := by omega
  obtain ⟨ns, g3, e3, n1, n2, hg3⟩ := lc_draws (f := fun x g => (lift (setT (.var 5) x (wipeG [.val .m, .val (.int fh), .val (.int most), .val (ti fs), .val (.int (1 + v)), .no] (T.var 5).vars)) g).bind fun Γ' g => (evE p.cs (den p (k + 1)) (.draw (.var 0) (.bin .add (.var 4) (.cst (.int 1)))) Γ' g).bind fun y g => .ok (some y) g) (lim := 1 + v + 1) (fun x g hs => by
    obtain ⟨u, g', e, u0, u1, hg⟩ := drw_ok (lim := 1 + v + 1) (g := g) (by omega) (by omega) hs
    exact ⟨u, g', by simp [x_drw, e, -x_draw], u0, u1, hg⟩) (fs.map .int) g2 (by simp; omega)
  refine ⟨fs, 1 + v, sortI ns, g3, ?_, ?_, by omega, by simp at hg3; omega, h96⟩
  · refine Eq.trans (den_f HP.h__law_plan rfl (by decide)) ?_
    show endR (evB p.cs (den p (k + 1)) b__law_plan [.val .m, .val (.int fh), .val (.int most), .no, .no, .no] g) = _
    have e4 : evE p.cs (den p (k + 1)) (.lc (.draw (.var 0) (.bin .add (.var 4) (.cst (.int 1)))) (.var 5) (.seq (.var 3)) none) [.val .m, .val (.int fh), .val (.int most), .val (ti fs), .val (.int (1 + v)), .no] g2 = .ok (.lst (ns.map .int)) g3 := by
      have ei : evI p.cs (den p (k + 1)) (.seq (.var 3)) [.val .m, .val (.int fh), .val (.int most), .val (ti fs), .val (.int (1 + v)), .no] g2 = .ok (fs.map .int) g2 := by simp
      rw [x_lc0, ei, r_ok, e3]
      rfl
    simp [b__law_plan, e1, x_drw, e2, e4, ints_map, -x_draw]
    simp [plD, ti]
  · have hp := sortI_perm' ns
    have hh := hf
    unfold fsOk at hh
    simp only [Bool.and_eq_true, decide_eq_true_eq, List.all_eq_true] at hh
    obtain ⟨⟨⟨a1, a2⟩, a3⟩, a4⟩ := hh
    refine ⟨a1, a2, a3, by omega, by omega, by rw [hp.length_eq, n1]; simp, fun q hq => ?_, pair_ups (sortI_sorted' ns), a4⟩
    have := n2 q (hp.mem_iff.mp hq)
    omega
/-! ### sizes of what is told -/
theorem sz_frac {a b : Int} (ha : 0 ≤ a ∧ a ≤ 10 ^ 40) (hb : 1 ≤ b ∧ b ≤ 10 ^ 40) : Sz 4000 1 (.tup [.int a, .int b]) := by
  have := Sz.tup (n := 1921) (h := 0) (ds := [.int a, .int b]) fun d hd => by
    simp only [List.mem_cons, List.not_mem_nil, or_false] at hd
    rcases hd with z | z
    · rw [z]; exact Sz.int (sm_nn (by omega) (by omega))
    · rw [z]; exact Sz.int (sm_nn (by omega) (by omega))
  exact this.mono (by simp) (Nat.le_refl _)
theorem sz_sh {l : List (Int × Int)} (hne : ∃ b r, l = b :: r) (hb : ∀ q ∈ l, 0 ≤ q.1 ∧ q.1 ≤ 10 ^ 40 ∧ 1 ≤ q.2 ∧ q.2 ≤ 10 ^ 40) : Sz 4000 1 (shV l) := by
  obtain ⟨b, r, rfl⟩ := hne
  have m := hb _ (less_mem r b)
  obtain ⟨c, d, h, e, _, _, _, c0, d1, ca, db⟩ := frac_of m.1 m.2.2.1
  simp only [shV]
  rw [e]
  exact sz_frac ⟨c0, by omega⟩ ⟨d1, by omega⟩
theorem sz_ti {l : List Int} (hl : l.length ≤ 4) (h : ∀ x ∈ l, 0 ≤ x ∧ x ≤ 10 ^ 40) : Sz 8000 1 (ti l) :=
  (Sz.ti fun x hx => sm_nn (h x hx).1 (by have := (h x hx).2; omega)).mono (by have : 1923 * l.length ≤ 1923 * 4 := Nat.mul_le_mul_left _ hl; omega) (Nat.le_refl _)
theorem maxI_le : ∀ {l : List Int} {a B : Int}, a ≤ B → (∀ x ∈ l, x ≤ B) → maxI a l ≤ B
  | [], a, B, h, _ => h
  | b :: l, a, B, h, H => by
    show maxI (if a < b then b else a) l ≤ B
    exact maxI_le (by split; exact H b (by simp); exact h) fun x hx => H x (by simp [hx])
theorem le_maxI : ∀ {l : List Int} {a B : Int}, B ≤ a → B ≤ maxI a l
  | [], a, B, h => h
  | b :: l, a, B, h => by
    show B ≤ maxI (if a < b then b else a) l
    exact le_maxI (by split <;> omega)
theorem sz_list {n : Nat} {ds : List D} (h : ∀ d ∈ ds, Sz n 1 d) (hl : ds.length ≤ 4) (hn : n ≤ 8000) : Sz 40000 64 (.lst ds) :=
  (Sz.lst h).mono (by have : (n + 2) * ds.length ≤ 8002 * 4 := Nat.mul_le_mul (by omega) hl; omega) (by decide)
end Pk

set_option Elab.async false
set_option linter.all false
set_option maxRecDepth 100000
set_option maxHeartbeats 4000000
/-! Data that == can be asked of. -/
namespace Pk
open PySem Bk
theorem for_nx {F : D → Gm → G → R Fl} {J : Nat → Gm → G → Prop} : ∀ (xs : List D) (Γ : Gm) (g : G) (k : Nat), J k Γ g → (∀ i x Γ g, xs[i]? = some x → J (k + i) Γ g → ∃ Γ' g', F x Γ g = .ok (.nx Γ') g' ∧ J (k + i + 1) Γ' g') → ∃ Γ' g', forR F xs Γ g = .ok (.nx Γ') g' ∧ J (k + xs.length) Γ' g'
  | [], Γ, g, k, h, _ => ⟨Γ, g, rfl, h⟩
  | x :: xs, Γ, g, k, h, H => by
    obtain ⟨Γ1, g1, e1, h1⟩ := H 0 x Γ g rfl h
    obtain ⟨Γ2, g2, e2, h2⟩ := for_nx xs Γ1 g1 (k + 1) h1 (fun i y Γ g hy hJ => by
      have := H (i + 1) y Γ g (by simpa using hy) (by rwa [show k + (i + 1) = k + 1 + i by omega])
      rwa [show k + (i + 1) + 1 = k + 1 + i + 1 by omega] at this)
    refine ⟨Γ2, g2, ?_, by rwa [show k + (x :: xs).length = k + 1 + xs.length by simp; omega]⟩
    unfold forR
    rw [e1]
    exact e2
/-- a loop that may end by an answer -/
theorem for_rt {F : D → Gm → G → R Fl} {J : Nat → Gm → G → Prop} {A : D → G → Prop} : ∀ (xs : List D) (Γ : Gm) (g : G) (k : Nat), J k Γ g → (∀ i x Γ g, xs[i]? = some x → J (k + i) Γ g → (∃ Γ' g', F x Γ g = .ok (.nx Γ') g' ∧ J (k + i + 1) Γ' g') ∨ ∃ d g', F x Γ g = .ok (.rt d) g' ∧ A d g') →
    (∃ Γ' g', forR F xs Γ g = .ok (.nx Γ') g' ∧ J (k + xs.length) Γ' g') ∨ ∃ d g', forR F xs Γ g = .ok (.rt d) g' ∧ A d g'
  | [], Γ, g, k, h, _ => .inl ⟨Γ, g, rfl, h⟩
  | x :: xs, Γ, g, k, h, H => by
    rcases H 0 x Γ g rfl h with ⟨Γ1, g1, e1, h1⟩ | ⟨d, g1, e1, h1⟩
    · rcases for_rt xs Γ1 g1 (k + 1) h1 (fun i y Γ g hy hJ => by
        have := H (i + 1) y Γ g (by simpa using hy) (by rwa [show k + (i + 1) = k + 1 + i by omega])
        rwa [show k + (i + 1) + 1 = k + 1 + i + 1 by omega] at this) with ⟨Γ2, g2, e2, h2⟩ | ⟨d, g2, e2, h2⟩
      · refine .inl ⟨Γ2, g2, ?_, by rwa [show k + (x :: xs).length = k + 1 + xs.length by simp; omega]⟩
        unfold forR
        rw [e1]
        exact e2
      · refine .inr ⟨d, g2, ?_, h2⟩
        unfold forR
        rw [e1]
        exact e2
    · refine .inr ⟨d, g1, ?_, h1⟩
      unfold forR
      rw [e1]
      rfl
theorem rngD_get : ∀ (n : Nat) (a : Int) (i : Nat) (x : D), (rngD a n)[i]? = some x → x = .int (a + i) ∧ i < n
  | 0, a, i, x, h => by simp [rngD] at h
  | n + 1, a, 0, x, h => by simp [rngD] at h; subst h; simp
  | n + 1, a, i + 1, x, h => by
    simp only [rngD, List.getElem?_cons_succ] at h
    obtain ⟨e, hi⟩ := rngD_get n (a + 1) i x h
    exact ⟨by rw [e]; congr 1; push_cast; omega, by omega⟩
/-- what is known behind the rests below m, and the lines of the rest m below i -/
theorem at_ints {l : List Int} {j : Int} (h0 : 0 ≤ j) (h1 : j.toNat < l.length) : atD (l.map .int) j = some (.int (l.getD j.toNat 0)) := by
  unfold atD
  rw [if_pos h0, List.getElem?_map, List.getElem?_eq_getElem h1, List.getD_eq_getElem?_getD, List.getElem?_eq_getElem h1]
  rfl
theorem ix_ti {l : List Int} {j : Int} (h0 : 0 ≤ j) (h1 : j.toNat < l.length) : idxD (ti l) (.int j) = some (.int (l.getD j.toNat 0)) := at_ints h0 h1
theorem ix_li {l : List Int} {j : Int} (h0 : 0 ≤ j) (h1 : j.toNat < l.length) : idxD (li l) (.int j) = some (.int (l.getD j.toNat 0)) := at_ints h0 h1
theorem rng2_i {cs : List (Nat × D)} {call : Nat → List D → G → R D} {Γ : Gm} {g : G} {a b : E} {i j : Int} (ha : evE cs call a Γ g = .ok (.int i) g) (hb : evE cs call b Γ g = .ok (.int j) g) (h0 : -1000000 ≤ i ∧ i ≤ 1000000) (h1 : -1000000 ≤ j ∧ j ≤ 1000000) : evI cs call (.rng2 a b) Γ g = .ok (rngD i (j - i).toNat) g := by
  rw [i_rng2, ha, r_ok, hb, r_ok]
  exact if_pos ⟨h0, h1⟩
theorem rng1_i {cs : List (Nat × D)} {call : Nat → List D → G → R D} {Γ : Gm} {g : G} {a : E} {i : Int} (ha : evE cs call a Γ g = .ok (.int i) g) (h0 : -1000000 ≤ i ∧ i ≤ 1000000) : evI cs call (.rng1 a) Γ g = .ok (rngD 0 i.toNat) g := by
  rw [i_rng1, ha, r_ok]
  exact if_pos h0
/-! ### gains -/
theorem mem_getD {l : List Int} {i : Nat} (hi : i < l.length) : l.getD i 0 ∈ l := by
  rw [List.getD_eq_getElem?_getD, List.getElem?_eq_getElem hi]; exact List.getElem_mem hi
theorem step_nx {cs : List (Nat × D)} {call : Nat → List D → G → R D} {s : S} {b : B} {Γ Γ1 : Gm} {g g1 : G} {r : R Fl} (h : evS cs call s Γ g = .ok (.nx Γ1) g1) (h2 : evB cs call b Γ1 g1 = r) : evB cs call (.cons s b) Γ g = r := by
  rw [b_cons, h, r_ok]; exact h2
theorem step_rt {cs : List (Nat × D)} {call : Nat → List D → G → R D} {s : S} {b : B} {Γ : Gm} {g g1 : G} {d : D} (h : evS cs call s Γ g = .ok (.rt d) g1) : evB cs call (.cons s b) Γ g = .ok (.rt d) g1 := by
  rw [b_cons, h, r_ok]
theorem lcR_map {α : Type} {f : D → G → R (Option D)} {enc h : α → D} : ∀ {l : List α} {g : G}, (∀ a ∈ l, ∀ g, f (enc a) g = .ok (some (h a)) g) → lcR f (l.map enc) g = .ok (l.map h) g
  | [], g, _ => rfl
  | a :: l, g, H => by
    simp only [List.map_cons, lcR, H a List.mem_cons_self g, R.nox, r_ok, lcR_map (fun b hb => H b (List.mem_cons_of_mem _ hb))]
theorem lc_map {α : Type} {cs : List (Nat × D)} {call : Nat → List D → G → R D} {elt : E} {t : T} {it : I} {Γ : Gm} {g : G} {l : List α} {enc h : α → D} (h1 : evI cs call it Γ g = .ok (l.map enc) g)
    (h2 : ∀ q ∈ l, ∀ g, (lift (setT t (enc q) (wipeG Γ t.vars)) g).bind (fun Γ' g => evE cs call elt Γ' g) = .ok (h q) g) : evE cs call (.lc elt t it none) Γ g = .ok (.lst (l.map h)) g := by
  simp only [evE, h1, r_ok]
  rw [lcR_map (h := h)]
  · rfl
  intro q hq g
  obtain ⟨Γ', g1, e1, e2⟩ := bind_val (h2 q hq g)
  rw [e1, r_ok, e2, r_ok]
/-- data that == can be asked of -/
structure Shp (h : Nat) (d : D) : Prop where
  pl : d.pl = true
  lay : d.py.canLay0 = true
  dp : d.py.depth ≤ h
theorem Shp.int (i : Int) (h : Nat) : Shp h (.int i) := ⟨rfl, rfl, Nat.zero_le _⟩
theorem Shp.all {h : Nat} : ∀ {ds : List D}, (∀ d ∈ ds, Shp h d) → pls ds = true ∧ PyData.canLayAll0 (pys ds) = true ∧ PyData.depthAll (pys ds) ≤ h
  | [], _ => ⟨rfl, rfl, Nat.zero_le _⟩
  | d :: ds, H => by
    obtain ⟨a, b, c⟩ := Shp.all (fun x hx => H x (List.mem_cons_of_mem _ hx))
    have hd := H d List.mem_cons_self
    refine ⟨by simp [pls, a, hd.pl], by simp [pys, PyData.canLayAll0, b, hd.lay], ?_⟩
    rw [pys, PyData.depthAll]
    exact Nat.max_le.mpr ⟨hd.dp, c⟩
theorem Shp.tup {h : Nat} {ds : List D} (H : ∀ d ∈ ds, Shp h d) : Shp (h + 1) (.tup ds) := by
  obtain ⟨a, b, c⟩ := Shp.all H
  refine ⟨a, by simpa [D.py, PyData.canLay0] using b, ?_⟩
  rw [D.py, PyData.depth]
  omega
theorem Shp.sh {h : Nat} {d : D} (s : Shp h d) (hh : h ≤ 64) : SeqAt.shaped d.py = true := by
  have := s.dp
  simp only [SeqAt.shaped, s.lay, Bool.true_and, decide_eq_true_eq]
  omega
theorem Shp.eq {h h' : Nat} {xs ys : List D} (s : Shp h (.tup xs)) (s' : Shp h' (.tup ys)) (hh : h ≤ 64) (hh' : h' ≤ 64) : cmpD .eq (.tup xs) (.tup ys) = some (PyData.eqv (D.tup xs).py (D.tup ys).py) := by
  simp only [cmpD, s.pl, s'.pl, s.sh hh, s'.sh hh', Bool.and_self, if_true]
theorem Shp.ne {h h' : Nat} {xs ys : List D} (s : Shp h (.tup xs)) (s' : Shp h' (.tup ys)) (hh : h ≤ 64) (hh' : h' ≤ 64) : cmpD .ne (.tup xs) (.tup ys) = some (!PyData.eqv (D.tup xs).py (D.tup ys).py) := by
  simp only [cmpD, s.pl, s'.pl, s.sh hh, s'.sh hh', Bool.and_self, if_true]
theorem Shp.nil : Shp 1 (.tup []) := Shp.tup (fun d hd => by cases hd)
theorem Shp.str {x : Str} (h : PyData.strOk x = true) (n : Nat) : Shp n (.str x) := ⟨rfl, by simpa [D.py, PyData.canLay0] using h, Nat.zero_le _⟩
theorem Shp.lst {h : Nat} {ds : List D} (H : ∀ d ∈ ds, Shp h d) : Shp (h + 1) (.lst ds) := by
  obtain ⟨a, b, c⟩ := Shp.all H
  refine ⟨a, by simpa [D.py, PyData.canLay0] using b, ?_⟩
  rw [D.py, PyData.depth]
  omega
theorem Shp.mono {h h' : Nat} {d : D} (s : Shp h d) (hh : h ≤ h') : Shp h' d := ⟨s.pl, s.lay, Nat.le_trans s.dp hh⟩
theorem Shp.ti (l : List Int) : Shp 1 (Pk.ti l) := Shp.tup (fun d hd => by
  obtain ⟨x, _, rfl⟩ := List.mem_map.mp hd
  exact Shp.int _ _)
theorem Shp.li (l : List Int) : Shp 1 (Pk.li l) := Shp.lst (fun d hd => by
  obtain ⟨x, _, rfl⟩ := List.mem_map.mp hd
  exact Shp.int _ _)
theorem Shp.nel {h h' : Nat} {xs ys : List D} (s : Shp h (.lst xs)) (s' : Shp h' (.lst ys)) (hh : h ≤ 64) (hh' : h' ≤ 64) : cmpD .ne (.lst xs) (.lst ys) = some (!PyData.eqv (D.lst xs).py (D.lst ys).py) := by
  simp only [cmpD, s.pl, s'.pl, s.sh hh, s'.sh hh', Bool.and_self, if_true]
theorem Shp.eql {h h' : Nat} {xs ys : List D} (s : Shp h (.lst xs)) (s' : Shp h' (.lst ys)) (hh : h ≤ 64) (hh' : h' ≤ 64) : cmpD .eq (.lst xs) (.lst ys) = some (PyData.eqv (D.lst xs).py (D.lst ys).py) := by
  simp only [cmpD, s.pl, s'.pl, s.sh hh, s'.sh hh', Bool.and_self, if_true]
/-- a list, a tuple beside the empty one -/
theorem ne_nil_l (l : List Int) : cmpD .ne (Pk.li l) (.lst []) = some (!l.isEmpty) := by
  rw [Pk.li, Shp.nel (Shp.li l) (ys := []) (Shp.li []) (by decide) (by decide)]
  cases l <;> rfl
theorem eq_nil_l (l : List Int) : cmpD .eq (Pk.li l) (.lst []) = some l.isEmpty := by
  rw [Pk.li, Shp.eql (Shp.li l) (ys := []) (Shp.li []) (by decide) (by decide)]
  cases l <;> rfl
theorem eq_nil_t {h : Nat} {xs : List D} (s : Shp h (.tup xs)) (hh : h ≤ 64) : cmpD .eq (.tup xs) (.tup []) = some xs.isEmpty := by
  rw [s.eq Shp.nil hh (by decide)]
  cases xs <;> rfl
theorem Shp.self {h : Nat} {xs : List D} (s : Shp h (.tup xs)) (hh : h ≤ 64) : cmpD .ne (.tup xs) (.tup xs) = some false := by
  rw [s.ne s hh hh, SeqAt.eqv_refl_plain _ (Bk.plain_py _ s.pl)]
  rfl
end Pk

set_option Elab.async false
set_option linter.all false
namespace Pk
open PySem Bk
class HC (p : Bk.Pr) : Prop where
  c_MOST_DEEP : p.cs.lookup 7 = some (.int 3)
  c_MOST_WORDS : p.cs.lookup 8 = some (.int 7)
  c_MOST_CALLS : p.cs.lookup 6 = some (.int 400)
  c_MOST_SEATS : p.cs.lookup 5 = some (.int 6)
  c_MOST_FARES : p.cs.lookup 2 = some (.int 4)
  c_MOST_FARE : p.cs.lookup 3 = some (.int 99)
  c_KEPT : p.cs.lookup 9 = some (.str "kept")
  c_NESTED : p.cs.lookup 10 = some (.str "nested")
  c_APART : p.cs.lookup 11 = some (.str "apart")
  c_ANY : p.cs.lookup 12 = some (.str "any")
  c_ALL : p.cs.lookup 13 = some (.str "all")
  c_MOST_FEE : p.cs.lookup 14 = some (.int 99)
  c_OUST : p.cs.lookup 15 = some (.str "oust")
  c_TAKEN : p.cs.lookup 16 = some (.str "taken")
  c_OUSTED : p.cs.lookup 17 = some (.str "ousted")
  c_REFUSED : p.cs.lookup 18 = some (.str "refused")
  h_share : p.ds.lookup 54 = some Bk.f_share.2
  h_fraction : p.ds.lookup 23 = some Bk.f_fraction.2
  h_got : p.ds.lookup 52 = some Bk.f_got.2
  h_hindsight : p.ds.lookup 53 = some Bk.f_hindsight.2
  h_common : p.ds.lookup 4 = some Bk.f_common.2
  h_went : p.ds.lookup 58 = some Bk.f_went.2
  h_worth_of : p.ds.lookup 59 = some Bk.f_worth_of.2
  h_seen : p.ds.lookup 60 = some Bk.f_seen.2
  h_need_rule : p.ds.lookup 64 = some Bk.f_need_rule.2
  h_went_of : p.ds.lookup 65 = some Bk.f_went_of.2
  h_need_calls : p.ds.lookup 63 = some Bk.f_need_calls.2
  h_need_hall : p.ds.lookup 61 = some Bk.f_need_hall.2
  h_seen_of : p.ds.lookup 62 = some Bk.f_seen_of.2
  h_is_word : p.ds.lookup 69 = some Bk.f_is_word.2
  h_parts_of : p.ds.lookup 70 = some Bk.f_parts_of.2
  h_none_of : p.ds.lookup 67 = some Bk.f_none_of.2
  h_step_of : p.ds.lookup 71 = some Bk.f_step_of.2
  h_is_whole : p.ds.lookup 21 = some Bk.f_is_whole.2
  h_seen_with : p.ds.lookup 68 = some Bk.f_seen_with.2
  h_is_plain : p.ds.lookup 74 = some Bk.f_is_plain.2
  h_cheapest_sold : p.ds.lookup 73 = some Bk.f_cheapest_sold.2
  h_lets_of : p.ds.lookup 75 = some Bk.f_lets_of.2
  h_with_more : p.ds.lookup 72 = some Bk.f_with_more.2
  h_are_limits : p.ds.lookup 76 = some Bk.f_are_limits.2
  h_lets_plain : p.ds.lookup 77 = some Bk.f_lets_plain.2
  h_regret : p.ds.lookup 51 = some Bk.f_regret.2
end Pk

set_option Elab.async false
set_option linter.all false
set_option maxRecDepth 100000
set_option maxHeartbeats 4000000
/-! Halls and rules. -/
namespace Pk
open PySem Bk
variable {p : Pr} [HP p] [HC p]
@[simp] theorem g_5 : p.cs.lookup 5 = some (.int 6) := HC.c_MOST_SEATS
@[simp] theorem g_6 : p.cs.lookup 6 = some (.int 400) := HC.c_MOST_CALLS
@[simp] theorem g_7 : p.cs.lookup 7 = some (.int 3) := HC.c_MOST_DEEP
@[simp] theorem g_8 : p.cs.lookup 8 = some (.int 7) := HC.c_MOST_WORDS
@[simp] theorem g_9 : p.cs.lookup 9 = some (.str "kept") := HC.c_KEPT
@[simp] theorem g_10 : p.cs.lookup 10 = some (.str "nested") := HC.c_NESTED
@[simp] theorem g_11 : p.cs.lookup 11 = some (.str "apart") := HC.c_APART
@[simp] theorem g_12 : p.cs.lookup 12 = some (.str "any") := HC.c_ANY
@[simp] theorem g_13 : p.cs.lookup 13 = some (.str "all") := HC.c_ALL
@[simp] theorem g_14 : p.cs.lookup 14 = some (.int 99) := HC.c_MOST_FEE
@[simp] theorem g_15 : p.cs.lookup 15 = some (.str "oust") := HC.c_OUST
@[simp] theorem g_16 : p.cs.lookup 16 = some (.str "taken") := HC.c_TAKEN
@[simp] theorem g_17 : p.cs.lookup 17 = some (.str "ousted") := HC.c_OUSTED
@[simp] theorem g_18 : p.cs.lookup 18 = some (.str "refused") := HC.c_REFUSED
def hlD (s : Int) (fs : List Int) : D := .tup [.int s, ti fs]
@[simp] theorem hl_0 (s : Int) (fs : List Int) : idxD (hlD s fs) (.int 0) = some (.int s) := rfl
@[simp] theorem hl_1 (s : Int) (fs : List Int) : idxD (hlD s fs) (.int 1) = some (ti fs) := rfl
@[simp] theorem hl_len (s : Int) (fs : List Int) : biD .len [hlD s fs] = some (.int 2) := rfl
@[simp] theorem hl_is (s : Int) (fs : List Int) (ts : List Ty) : isiD ts (hlD s fs) = some (ts.any (isI · (hlD s fs))) := rfl
@[simp] theorem hl_ist (s : Int) (fs : List Int) : isI .tuple (hlD s fs) = true := rfl
structure HOk (s : Int) (fs : List Int) : Prop where
  s1 : 1 ≤ s
  s6 : s ≤ 6
  f1 : 1 ≤ fs.length
  f4 : fs.length ≤ 4
  f : ∀ f ∈ fs, 1 ≤ f ∧ f ≤ 99
  up : upS fs = true
theorem need_hall_i (k : Nat) {s : Int} {fs : List Int} (h : HOk s fs) (g : G) : den p (k + 2) 61 [hlD s fs] g = .ok (hlD s fs) g := by
  refine Eq.trans (den_f HC.h_need_hall rfl (by decide)) ?_
  show endR (evB p.cs (den p (k + 1)) b_need_hall [.val (hlD s fs), .no, .no, .no] g) = _
  have e1 := lc_ints (cs := p.cs) (call := den p (k + 1)) (elt := .call 21 (.cons (.var 1) (.cons (.cst (.int 1)) (.cons (.glb 3) .nil)))) (t := .var 1) (it := .seq (.idx (.var 0) (.cst (.int 1)))) (Γ := [.val (hlD s fs), .no, .no, .no]) (g := g) (xs := fs) (h := fun a => .bl (decide (1 ≤ a) && decide (a ≤ 99)))
    (by simp) (fun q hq g => by simp [is_whole_i])
  have e2 := lc_zip (cs := p.cs) (call := den p (k + 1)) (elt := .cmp .lt (.var 2) (.var 3)) (t := .tup [.var 2, .var 3]) (it := .zip (.idx (.var 0) (.cst (.int 1))) (.sl (.idx (.var 0) (.cst (.int 1))) (some (.cst (.int 1))) none)) (Γ := [.val (hlD s fs), .no, .no, .no]) (g := g) (xs := fs) (ys := fs.tail) (h := fun a b => .bl (decide (a < b)))
    (by simp) (fun q hq g => by simp)
  have a1 : ((1 : Int) ≤ (fs.length : Int)) := by have := h.f1; omega
  have a2 : ((fs.length : Int) ≤ 4) := by have := h.f4; omega
  have a3 : biD .all [.lst (fs.map fun a => D.bl (decide (1 ≤ a) && decide (a ≤ 99)))] = some (.bl true) := by
    rw [all_bl (fun a : Int => decide (1 ≤ a) && decide (a ≤ 99))]
    congr 2
    simp only [List.all_eq_true, Bool.and_eq_true, decide_eq_true_eq]
    exact h.f
  have a4 : biD .all [.lst ((fs.zip fs.tail).map fun q => D.bl (decide (q.1 < q.2)))] = some (.bl true) := by
    rw [all_bl (fun q : Int × Int => decide (q.1 < q.2))]
    have := h.up
    unfold upS at this
    rw [this]
  have a5 := h.s1
  have a6 := h.s6
  simp [b_need_hall, is_whole_i, e1, e2, a1, a2, a3, a4, a5, a6, -bi_all]
/-! ### rules -/
inductive Rl where
  | apart (l : List Int) | nested (l : List Int) | kept (l : List Int)
  | all (a b : Rl) | any (a b : Rl) | oust (a : Rl) (fee : Int)
def Rl.d : Rl → D
  | .apart l => .tup [.str "apart", ti l]
  | .nested l => .tup [.str "nested", ti l]
  | .kept l => .tup [.str "kept", ti l]
  | .all a b => .tup [.str "all", a.d, b.d]
  | .any a b => .tup [.str "any", a.d, b.d]
  | .oust a fee => .tup [.str "oust", a.d, .int fee]
def LimOk (s : Int) (n : Nat) (l : List Int) : Prop := l.length = n ∧ ∀ q ∈ l, 0 ≤ q ∧ q ≤ s
/-- a rule of a hall; whether it stands outside -/
def Rl.Ok (s : Int) (n : Nat) : Bool → Rl → Prop
  | _, .apart l => LimOk s n l
  | _, .nested l => LimOk s n l ∧ ups l = true
  | _, .kept l => LimOk s n l
  | _, .all a b => a.Ok s n false ∧ b.Ok s n false
  | _, .any a b => a.Ok s n false ∧ b.Ok s n false
  | o, .oust a fee => o = true ∧ a.Ok s n false ∧ 0 ≤ fee ∧ fee ≤ 99
def Rl.words : Rl → Nat
  | .all a b => 1 + a.words + b.words
  | .any a b => 1 + a.words + b.words
  | .oust a _ => 1 + a.words
  | _ => 1
def Rl.deep : Rl → Nat
  | .all a b => 1 + max a.deep b.deep
  | .any a b => 1 + max a.deep b.deep
  | .oust a _ => 1 + a.deep
  | _ => 0
def Rl.wd : Rl → Str
  | .apart _ => "apart" | .nested _ => "nested" | .kept _ => "kept" | .all _ _ => "all" | .any _ _ => "any" | .oust _ _ => "oust"
def Rl.subs : Rl → List (Nat × Rl)
  | .all a b => [(1, a), (2, b)]
  | .any a b => [(1, a), (2, b)]
  | .oust a _ => [(1, a)]
  | _ => []
theorem rl_0 (r : Rl) : idxD r.d (.int 0) = some (.str r.wd) := by cases r <;> rfl
theorem rl_is (r : Rl) (ts : List Ty) : isiD ts r.d = some (ts.any (isI · r.d)) := by cases r <;> rfl
theorem rl_ist (r : Rl) : isI .tuple r.d = true := by cases r <;> rfl
theorem limits_ok (k : Nat) {s : Int} {fs l : List Int} (g : G) (h : LimOk s fs.length l) : den p (k + 2) 76 [hlD s fs, ti l] g = .ok (.bl true) g := by
  refine Eq.trans (den_f HC.h_are_limits rfl (by decide)) ?_
  show endR (evB p.cs (den p (k + 1)) b_are_limits [.val (hlD s fs), .val (ti l), .no] g) = _
  have e1 := lc_ints (cs := p.cs) (call := den p (k + 1)) (elt := .call 21 (.cons (.var 2) (.cons (.cst (.int 0)) (.cons (.idx (.var 0) (.cst (.int 0))) .nil)))) (t := .var 2) (it := .seq (.var 1)) (Γ := [.val (hlD s fs), .val (ti l), .no]) (g := g) (xs := l) (h := fun a => .bl (decide (0 ≤ a) && decide (a ≤ s)))
    (by simp) (fun q hq g => by simp [is_whole_i])
  have a3 : biD .all [.lst (l.map fun a => D.bl (decide (0 ≤ a) && decide (a ≤ s)))] = some (.bl true) := by
    rw [all_bl (fun a : Int => decide (0 ≤ a) && decide (a ≤ s))]
    congr 2
    simp only [List.all_eq_true, Bool.and_eq_true, decide_eq_true_eq]
    exact h.2
  simp [b_are_limits, e1, a3, h.1, -bi_all]
theorem plain_ok (k : Nat) {s : Int} {fs l : List Int} (g : G) {x : Str} (h : LimOk s fs.length l) (hx : x ≠ "nested" ∨ ups l = true) : den p (k + 3) 74 [hlD s fs, .tup [.str x, ti l]] g = .ok (.bl true) g := by
  refine Eq.trans (den_f HC.h_is_plain rfl (by decide)) ?_
  show endR (evB p.cs (den p (k + 2)) b_is_plain [.val (hlD s fs), .val (.tup [.str x, ti l]), .no, .no] g) = _
  have e1 := limits_ok (p := p) k (s := s) (fs := fs) g h
  have e2 := lc_zip (cs := p.cs) (call := den p (k + 2)) (elt := .cmp .le (.var 2) (.var 3)) (t := .tup [.var 2, .var 3]) (it := .zip (.idx (.var 1) (.cst (.int 1))) (.sl (.idx (.var 1) (.cst (.int 1))) (some (.cst (.int 1))) none)) (Γ := [.val (hlD s fs), .val (.tup [.str x, ti l]), .no, .no]) (g := g) (xs := l) (ys := l.tail) (h := fun a b => .bl (decide (a ≤ b)))
    (by simp) (fun q hq g => by simp)
  have c1 : cmpD .ne (.str x) (.str "nested") = some (!decide (x = "nested")) := rfl
  by_cases c : x = "nested"
  · have hu : ups l = true := by
      rcases hx with z | z
      · exact absurd c z
      · exact z
    have a4 : biD .all [.lst ((l.zip l.tail).map fun q => D.bl (decide (q.1 ≤ q.2)))] = some (.bl true) := by
      rw [all_bl (fun q : Int × Int => decide (q.1 ≤ q.2))]
      unfold ups at hu
      rw [hu]
    subst c
    simp [b_is_plain, e1, e2, c1, a4, -bi_all]
  · simp [b_is_plain, e1, c1, c, -bi_all]
/-! ### words -/
def w3 : D := .tup [.str "apart", .str "nested", .str "kept"]
def w2 : D := .tup [.str "all", .str "any"]
def Rl.bare : Rl → Bool
  | .apart _ => true | .nested _ => true | .kept _ => true | _ => false
def Rl.two : Rl → Bool
  | .all _ _ => true | .any _ _ => true | _ => false
def Rl.isO : Rl → Bool
  | .oust _ _ => true | _ => false
theorem in3 (r : Rl) : cmpD .isin (.str r.wd) w3 = some r.bare := by cases r <;> rfl
theorem in2 (r : Rl) : cmpD .isin (.str r.wd) w2 = some r.two := by cases r <;> rfl
theorem eqO (r : Rl) : cmpD .eq (.str r.wd) (.str "oust") = some r.isO := by cases r <;> rfl
theorem rl_shp : ∀ r : Rl, Shp (r.deep + 2) r.d
  | .apart l => Shp.tup (fun d hd => by
      simp only [List.mem_cons, List.not_mem_nil, or_false] at hd
      rcases hd with rfl | rfl
      · exact Shp.str (by decide +kernel) _
      · exact Shp.ti l)
  | .nested l => Shp.tup (fun d hd => by
      simp only [List.mem_cons, List.not_mem_nil, or_false] at hd
      rcases hd with rfl | rfl
      · exact Shp.str (by decide +kernel) _
      · exact Shp.ti l)
  | .kept l => Shp.tup (fun d hd => by
      simp only [List.mem_cons, List.not_mem_nil, or_false] at hd
      rcases hd with rfl | rfl
      · exact Shp.str (by decide +kernel) _
      · exact Shp.ti l)
  | .all a b => (Shp.tup (h := max (a.deep + 2) (b.deep + 2)) (fun d hd => by
      simp only [List.mem_cons, List.not_mem_nil, or_false] at hd
      rcases hd with rfl | rfl | rfl
      · exact Shp.str (by decide +kernel) _
      · exact (rl_shp a).mono (by omega)
      · exact (rl_shp b).mono (by omega))).mono (by simp only [Rl.deep]; omega)
  | .any a b => (Shp.tup (h := max (a.deep + 2) (b.deep + 2)) (fun d hd => by
      simp only [List.mem_cons, List.not_mem_nil, or_false] at hd
      rcases hd with rfl | rfl | rfl
      · exact Shp.str (by decide +kernel) _
      · exact (rl_shp a).mono (by omega)
      · exact (rl_shp b).mono (by omega))).mono (by simp only [Rl.deep]; omega)
  | .oust a fee => (Shp.tup (h := a.deep + 2) (fun d hd => by
      simp only [List.mem_cons, List.not_mem_nil, or_false] at hd
      rcases hd with rfl | rfl | rfl
      · exact Shp.str (by decide +kernel) _
      · exact rl_shp a
      · exact Shp.int _ _)).mono (by simp only [Rl.deep]; omega)
theorem rl_ne (r : Rl) (h : r.deep ≤ 60) : cmpD .eq r.d (.tup []) = some false := by
  have s := rl_shp r
  cases r <;> exact eq_nil_t s (by omega)
theorem str_is (x : Str) : isiD [.str] (.str x) = some true := rfl
theorem word_ok (k : Nat) {s : Int} {fs : List Int} (g : G) (r : Rl) (o : Bool) (h : r.Ok s fs.length o) (hd : r.deep ≤ 60) : den p (k + 4) 69 [hlD s fs, r.d, .bl o] g = .ok (.bl true) g := by
  refine Eq.trans (den_f HC.h_is_word rfl (by decide)) ?_
  show endR (evB p.cs (den p (k + 3)) b_is_word [.val (hlD s fs), .val r.d, .val (.bl o)] g) = _
  have e0 := rl_0 r
  have e1 := rl_ne r hd
  have e2 := rl_is r [.tuple]
  have e3 := in3 r
  have e4 := in2 r
  have e5 := eqO r
  have e6 := rl_ist r
  have e7 := str_is r.wd
  have ew : D.tup [.str "apart", .str "nested", .str "kept"] = w3 := rfl
  have ew2 : D.tup [.str "all", .str "any"] = w2 := rfl
  cases r with
  | apart l =>
    have ep := plain_ok (p := p) k (s := s) (fs := fs) (l := l) g (x := "apart") h (.inl (by decide))
    have ep2 : den p (k + 3) 74 [hlD s fs, (Rl.apart l).d] g = .ok (.bl true) g := ep
    generalize (Rl.apart l).d = R at *
    generalize (Rl.apart l).wd = W at *
    simp [b_is_word, e0, e1, e2, e3, e6, e7, ew, ep2, Rl.bare]
  | nested l =>
    have ep := plain_ok (p := p) k (s := s) (fs := fs) (l := l) g (x := "nested") h.1 (.inr h.2)
    have ep2 : den p (k + 3) 74 [hlD s fs, (Rl.nested l).d] g = .ok (.bl true) g := ep
    generalize (Rl.nested l).d = R at *
    generalize (Rl.nested l).wd = W at *
    simp [b_is_word, e0, e1, e2, e3, e6, e7, ew, ep2, Rl.bare]
  | kept l =>
    have ep := plain_ok (p := p) k (s := s) (fs := fs) (l := l) g (x := "kept") h (.inl (by decide))
    have ep2 : den p (k + 3) 74 [hlD s fs, (Rl.kept l).d] g = .ok (.bl true) g := ep
    generalize (Rl.kept l).d = R at *
    generalize (Rl.kept l).wd = W at *
    simp [b_is_word, e0, e1, e2, e3, e6, e7, ew, ep2, Rl.bare]
  | all a b =>
    have el : biD .len [(Rl.all a b).d] = some (.int 3) := rfl
    generalize (Rl.all a b).d = R at *
    generalize (Rl.all a b).wd = W at *
    simp [b_is_word, e0, e1, e2, e3, e4, e6, e7, ew, ew2, el, Rl.bare, Rl.two]
  | any a b =>
    have el : biD .len [(Rl.any a b).d] = some (.int 3) := rfl
    generalize (Rl.any a b).d = R at *
    generalize (Rl.any a b).wd = W at *
    simp [b_is_word, e0, e1, e2, e3, e4, e6, e7, ew, ew2, el, Rl.bare, Rl.two]
  | oust a fee =>
    have el : biD .len [(Rl.oust a fee).d] = some (.int 3) := rfl
    have ei : idxD (Rl.oust a fee).d (.int 2) = some (.int fee) := rfl
    obtain ⟨rfl, _, f0, f1⟩ := h
    generalize (Rl.oust a fee).d = R at *
    generalize (Rl.oust a fee).wd = W at *
    simp [b_is_word, e0, e1, e2, e3, e4, e5, e6, e7, ew, ew2, el, ei, is_whole_i, f0, f1, Rl.bare, Rl.two, Rl.isO]
def subL (r : Rl) : List Int := r.subs.map fun q => (q.1 : Int)
theorem parts_i (k : Nat) (g : G) (r : Rl) : den p (k + 1) 70 [r.d] g = .ok (li (subL r)) g := by
  refine Eq.trans (den_f HC.h_parts_of rfl (by decide)) ?_
  show endR (evB p.cs (den p k) b_parts_of [.val r.d] g) = _
  have e0 := rl_0 r
  have e4 := in2 r
  have e5 := eqO r
  have ew2 : D.tup [.str "all", .str "any"] = w2 := rfl
  have es : li (subL r) = if r.two then .lst [.int 1, .int 2] else if r.isO then .lst [.int 1] else .lst [] := by cases r <;> rfl
  rw [es]
  generalize r.d = R at *
  generalize r.wd = W at *
  cases h1 : r.two <;> cases h2 : r.isO <;> simp [b_parts_of, e0, e4, e5, ew2, h1, h2]
end Pk

set_option Elab.async false
set_option linter.all false
set_option maxRecDepth 100000
set_option maxHeartbeats 4000000
/-! need_rule. -/
namespace Pk
open PySem Bk
variable {p : Pr} [HP p] [HC p]
def stk (W : List (Rl × List Int)) : List D := W.map fun q => .tup [q.1.d, ti q.2]
def wsum (W : List (Rl × List Int)) : Nat := (W.map fun q => q.1.words).sum
theorem sub_ix (r : Rl) : ∀ q ∈ r.subs, idxD r.d (.int (q.1 : Int)) = some q.2.d := by
  cases r <;> simp [Rl.subs]
  · exact ⟨rfl, rfl⟩
  · exact ⟨rfl, rfl⟩
  · exact rfl
theorem sub_words (r : Rl) : r.words = 1 + (r.subs.map fun q => q.2.words).sum := by
  cases r <;> simp [Rl.subs, Rl.words] <;> omega
theorem sub_deep (r : Rl) : ∀ q ∈ r.subs, q.2.deep + 1 ≤ r.deep := by
  cases r <;> simp [Rl.subs, Rl.deep] <;> omega
theorem sub_ok {s : Int} {n : Nat} {o : Bool} (r : Rl) (h : r.Ok s n o) : ∀ q ∈ r.subs, q.2.Ok s n false := by
  cases r <;> simp [Rl.subs]
  · exact h
  · exact h
  · exact h.2.1
theorem sub_len (r : Rl) : r.subs.length ≤ 2 := by cases r <;> simp [Rl.subs]
def bodyNR : B := (.cons (.pop (.tup [(.var 4), (.var 5)]) 2) (.cons (.aug 3 (.cst (.int 1))) (.cons (.ife (.or (.cmp .gt (.var 3) (.glb 8)) (.or (.cmp .gt (.bi .len (.cons (.var 5) .nil)) (.glb 7)) (.not (.call 69 (.cons (.var 0) (.cons (.var 4) (.cons (.cmp .eq (.var 5) (.tup .nil)) .nil))))))) (.cons .stop .nil) .nil) (.cons (.ext 2 (.lc (.tup (.cons (.idx (.var 4) (.var 6)) (.cons (.tupS (.star (.var 5) (.cons (.var 6) .nil))) .nil))) (.var 6) (.seq (.rev (.call 70 (.cons (.var 4) .nil)))) none)) .nil))))
section
variable {s : Int} {fs : List Int}
theorem nr_step (k : Nat) (g : G) (z1 : D) (W : List (Rl × List Int)) (q : Rl × List Int) (many : Int) (s4 s5 s6 : Slot) (hm : many + 1 ≤ 7) (hW : W.length ≤ 100) (hq : q.1.Ok s fs.length (q.2.isEmpty)) (hd : q.2.length + q.1.deep ≤ 3) :
    evB p.cs (den p (k + 4)) bodyNR [.val (hlD s fs), .val z1, .own (.lst (stk (W ++ [q]))), .val (.int many), s4, s5, s6] g = .ok (.nx [.val (hlD s fs), .val z1, .own (.lst (stk (W ++ q.1.subs.reverse.map fun a => (a.2, q.2 ++ [(a.1 : Int)])))), .val (.int (many + 1)), .val q.1.d, .val (ti q.2), s6]) g := by
  have ew := word_ok (p := p) k (s := s) (fs := fs) g q.1 q.2.isEmpty hq (by omega)
  have ep := parts_i (p := p) (k + 3) g q.1
  have en : cmpD .eq (ti q.2) (.tup []) = some q.2.isEmpty := by
    have := eq_nil_t (Shp.ti q.2) (by decide)
    rw [ti, this]
    cases q.2 <;> rfl
  have el : evE p.cs (den p (k + 4)) (.lc (.tup (.cons (.idx (.var 4) (.var 6)) (.cons (.tupS (.star (.var 5) (.cons (.var 6) .nil))) .nil))) (.var 6) (.seq (.rev (.call 70 (.cons (.var 4) .nil)))) none) [.val (hlD s fs), .val z1, .own (.lst (stk W)), .val (.int (many + 1)), .val q.1.d, .val (ti q.2), s6] g = .ok (.lst (stk (q.1.subs.reverse.map fun a => (a.2, q.2 ++ [(a.1 : Int)])))) g := by
    have := lc_map (cs := p.cs) (call := den p (k + 4)) (elt := (.tup (.cons (.idx (.var 4) (.var 6)) (.cons (.tupS (.star (.var 5) (.cons (.var 6) .nil))) .nil)))) (t := .var 6) (it := .seq (.rev (.call 70 (.cons (.var 4) .nil)))) (Γ := [.val (hlD s fs), .val z1, .own (.lst (stk W)), .val (.int (many + 1)), .val q.1.d, .val (ti q.2), s6]) (g := g) (l := q.1.subs.reverse) (enc := fun a => .int (a.1 : Int)) (h := fun a => .tup [a.2.d, ti (q.2 ++ [(a.1 : Int)])]) (by
        simp [ep, li, subL]) (fun a ha g => by
        have ix := sub_ix q.1 a (List.mem_reverse.mp ha)
        have hl : q.2.length + 1 ≤ 1000000 := by omega
        simp [ix, hl]
        simp [ti])
    rw [this]
    simp [stk]
  have h1 : ¬ (7 < many + 1) := by omega
  have h2 : ¬ ((3 : Int) < (q.2.length : Int)) := by omega
  have hx : (stk (W ++ [q]))[(stk (W ++ [q])).length - 1]? = some (.tup [q.1.d, ti q.2]) := by simp [stk]
  have hdl : (stk (W ++ [q])).dropLast = stk W := by simp [stk]
  have hle : (stk W).length + (stk (q.1.subs.reverse.map fun a => (a.2, q.2 ++ [(a.1 : Int)]))).length ≤ 1000000 := by
    have := sub_len q.1
    simp [stk]
    omega
  have happ : stk (W ++ q.1.subs.reverse.map fun a => (a.2, q.2 ++ [(a.1 : Int)])) = stk W ++ stk (q.1.subs.reverse.map fun a => (a.2, q.2 ++ [(a.1 : Int)])) := by simp [stk]
  rw [happ]
  unfold bodyNR
  refine step_nx (Γ1 := [.val (hlD s fs), .val z1, .own (.lst (stk W)), .val (.int many), .val q.1.d, .val (ti q.2), s6]) (g1 := g) ?_ (step_nx (Γ1 := [.val (hlD s fs), .val z1, .own (.lst (stk W)), .val (.int (many + 1)), .val q.1.d, .val (ti q.2), s6]) (g1 := g) (by simp) (step_nx (Γ1 := [.val (hlD s fs), .val z1, .own (.lst (stk W)), .val (.int (many + 1)), .val q.1.d, .val (ti q.2), s6]) (g1 := g) ?_ (step_nx ?_ (b_nil ..))))
  · rw [s_pop']
    simp only [List.getElem?_cons_succ, List.getElem?_cons_zero, hx, hdl]
    rfl
  · generalize q.1.d = Q at *
    simp [h1, h2, en, ew]
  · rw [s_ext']
    simp only [List.getElem?_cons_succ, List.getElem?_cons_zero, el, r_ok, hle, if_true]
    rfl
theorem nr_w (k : Nat) (g : G) (z1 : D) : ∀ (n N : Nat) (W : List (Rl × List Int)) (many : Int) (s4 s5 s6 : Slot), wsum W ≤ n → n < N → many + wsum W ≤ 7 → W.length ≤ 50 → 0 ≤ many → (∀ q ∈ W, q.1.Ok s fs.length q.2.isEmpty ∧ q.2.length + q.1.deep ≤ 3) →
    ∃ m' t4 t5 t6, whlR (fun Γ g => blR (evE p.cs (den p (k + 4)) (.emO true 2) Γ g)) (fun Γ g => evB p.cs (den p (k + 4)) bodyNR Γ g) N [.val (hlD s fs), .val z1, .own (.lst (stk W)), .val (.int many), s4, s5, s6] g = .ok (.nx [.val (hlD s fs), .val z1, .own (.lst []), m', t4, t5, t6]) g := by
  intro n
  induction n with
  | zero =>
    intro N W many s4 s5 s6 h1 h2 h3 h4 h5 h6
    obtain ⟨N, rfl⟩ : ∃ M, N = M + 1 := ⟨N - 1, by omega⟩
    have : W = [] := by
      cases W with
      | nil => rfl
      | cons a W =>
        have := sub_words a.1
        simp [wsum] at h1
        omega
    subst this
    exact ⟨.val (.int many), s4, s5, s6, by simp [whlR, stk]⟩
  | succ n ih =>
    intro N W many s4 s5 s6 h1 h2 h3 h4 h5 h6
    obtain ⟨N, rfl⟩ : ∃ M, N = M + 1 := ⟨N - 1, by omega⟩
    rcases List.eq_nil_or_concat W with rfl | ⟨W', q, rfl⟩
    · exact ⟨.val (.int many), s4, s5, s6, by simp [whlR, stk]⟩
    · rw [List.concat_eq_append] at *
      have hq := h6 q (by simp)
      have hw := sub_words q.1
      have e1 : wsum (W' ++ [q]) = wsum W' + q.1.words := by simp [wsum]
      have hsum : wsum (W' ++ q.1.subs.reverse.map fun a => (a.2, q.2 ++ [(a.1 : Int)])) = wsum W' + (q.1.subs.map fun a => a.2.words).sum := by
        simp only [wsum, List.map_append, List.sum_append, List.map_map, Function.comp_def]
        congr 1
        rw [List.map_reverse, List.sum_reverse]
      have hl : W'.length + 1 ≤ 50 := by simpa using h4
      have hwl : W'.length ≤ wsum W' := by
        clear ih h1 h3 h4 h6 e1 hsum hl
        induction W' with
        | nil => simp
        | cons a W ih2 =>
          have := sub_words a.1
          simp [wsum] at ih2 ⊢
          omega
      have st := nr_step (p := p) k g z1 W' q many s4 s5 s6 (by omega) (by omega) hq.1 hq.2
      obtain ⟨m', t4, t5, t6, e⟩ := ih N (W' ++ q.1.subs.reverse.map fun a => (a.2, q.2 ++ [(a.1 : Int)])) (many + 1) (.val q.1.d) (.val (ti q.2)) s6 (by omega) (by omega) (by omega) (by
        have := sub_len q.1
        simp
        omega) (by omega) (fun a ha => by
        rcases List.mem_append.mp ha with ha | ha
        · exact h6 a (List.mem_append_left _ ha)
        · obtain ⟨c, hc, rfl⟩ := List.mem_map.mp ha
          have hc := List.mem_reverse.mp hc
          have d1 := sub_deep q.1 c hc
          have d2 := sub_ok q.1 hq.1 c hc
          refine ⟨?_, by have := hq.2; simp; omega⟩
          have : (q.2 ++ [(c.1 : Int)]).isEmpty = false := by simp
          rw [this]; exact d2)
      refine ⟨m', t4, t5, t6, ?_⟩
      rw [← e]
      have hem : (stk (W' ++ [q])).isEmpty = false := by simp [stk]
      conv => lhs; unfold whlR
      simp only [x_emO, List.getElem?_cons_succ, List.getElem?_cons_zero, hem, b_ok, r_ok, if_true, Bool.not_false, st]
/-- a rule that need_rule lets by -/
structure ROk (s : Int) (n : Nat) (r : Rl) : Prop where
  ok : r.Ok s n true
  w : r.words ≤ 7
  d : r.deep ≤ 3
theorem need_rule_i (k : Nat) (h : HOk s fs) {r : Rl} (hr : ROk s fs.length r) (g : G) : den p (k + 5) 64 [hlD s fs, r.d] g = .ok r.d g := by
  refine Eq.trans (den_f HC.h_need_rule rfl (by decide)) ?_
  show endR (evB p.cs (den p (k + 4)) b_need_rule [.val (hlD s fs), .val r.d, .no, .no, .no, .no, .no] g) = _
  have eh := need_hall_i (p := p) (k + 2) h g
  have hw := hr.w
  have hd := hr.d
  obtain ⟨N, hN⟩ : ∃ N, FUEL = N + 10 := ⟨FUEL - 10, by decide⟩
  obtain ⟨m', t4, t5, t6, e⟩ := nr_w (p := p) (s := s) (fs := fs) k g r.d 7 FUEL [(r, [])] 0 .no .no .no (by simp [wsum]; omega) (by omega) (by simp [wsum]; omega) (by simp) (by decide) (fun q hq => by
    simp at hq
    subst hq
    exact ⟨hr.ok, by simpa using hd⟩)
  have e1 : evB p.cs (den p (k + 4)) b_need_rule [.val (hlD s fs), .val r.d, .no, .no, .no, .no, .no] g = .ok (.rt r.d) g := by
    unfold b_need_rule
    refine step_nx (Γ1 := [.val (hlD s fs), .val r.d, .no, .no, .no, .no, .no]) (g1 := g) (by simp [eh]) (step_nx (Γ1 := [.val (hlD s fs), .val r.d, .own (.lst (stk [(r, [])])), .val (.int 0), .no, .no, .no]) (g1 := g) ?_ (step_nx (Γ1 := [.val (hlD s fs), .val r.d, .own (.lst []), m', t4, t5, t6]) (g1 := g) ?_ (step_rt (by simp))))
    · simp only [s_par', a_cons, a_nil, r_ok, x_lst, x_tup, x_var, x_cst, List.getElem?_cons_zero, List.getElem?_cons_succ]
      rfl
    · rw [s_whl']
      exact e
  rw [e1]
  rfl
end
end Pk

set_option Elab.async false
set_option linter.all false
set_option maxRecDepth 100000
set_option maxHeartbeats 4000000
/-! Calls: what becomes of one. -/
namespace Pk
open PySem Bk
variable {p : Pr} [HP p] [HC p]
theorem rngD_map : ∀ (n : Nat) (a : Int), rngD a n = (List.range n).map fun i : Nat => D.int (a + (i : Int))
  | 0, a => rfl
  | n + 1, a => by
    rw [rngD, rngD_map n (a + 1), List.range_succ_eq_map, List.map_cons, List.map_map]
    simp [Function.comp_def, Int.add_assoc, Int.add_comm]
    intros
    omega
theorem enumD_map : ∀ (l : List Int) (k : Nat), enumD (k : Int) (l.map .int) = (l.zipIdx k).map fun q => D.tup [.int (q.2 : Int), .int q.1]
  | [], k => rfl
  | a :: l, k => by
    have := enumD_map l (k + 1)
    simp only [List.map_cons, enumD, List.zipIdx_cons]
    rw [← this]
    rfl
theorem lcR_filter {α : Type} {f : D → G → R (Option D)} {enc h : α → D} {c : α → Bool} : ∀ {l : List α} {g : G}, (∀ a ∈ l, ∀ g, f (enc a) g = .ok (if c a then some (h a) else none) g) → lcR f (l.map enc) g = .ok ((l.filter c).map h) g
  | [], g, _ => rfl
  | a :: l, g, H => by
    have ih := lcR_filter (g := g) (fun b hb => H b (List.mem_cons_of_mem _ hb))
    simp only [List.map_cons, lcR, H a List.mem_cons_self g, R.nox, r_ok, ih, List.filter_cons]
    cases c a <;> rfl
theorem lc_filter {α : Type} {cs : List (Nat × D)} {call : Nat → List D → G → R D} {elt cond : E} {t : T} {it : I} {Γ : Gm} {g : G} {l : List α} {enc h : α → D} {c : α → Bool} (h1 : evI cs call it Γ g = .ok (l.map enc) g)
    (h2 : ∀ q ∈ l, ∀ g, (lift (setT t (enc q) (wipeG Γ t.vars)) g).bind (fun Γ' g => evE cs call cond Γ' g) = .ok (.bl (c q)) g)
    (h3 : ∀ q ∈ l, c q = true → ∀ g, (lift (setT t (enc q) (wipeG Γ t.vars)) g).bind (fun Γ' g => evE cs call elt Γ' g) = .ok (h q) g) : evE cs call (.lc elt t it (some cond)) Γ g = .ok (.lst ((l.filter c).map h)) g := by
  simp only [evE, h1, r_ok]
  rw [lcR_filter (h := h) (c := c)]
  · rfl
  intro q hq g
  obtain ⟨Γ', g1, e1, e2⟩ := bind_val (h2 q hq g)
  have hg : g1 = g := by
    cases hs : setT t (enc q) (wipeG Γ t.vars) with
    | none => rw [hs] at e1; cases e1
    | some Γ2 => rw [hs] at e1; cases e1; rfl
  subst hg
  rw [e1, r_ok, e2, b_ok, r_ok]
  cases hc : c q with
  | false => rfl
  | true =>
    have e3 := h3 q hq hc g1
    rw [e1, r_ok] at e3
    simp only [if_true, e3, r_ok]
theorem sl_take (l : List Int) (k : Nat) : slD (ti l) none (some (k : Int)) = some (ti (l.take k)) := by
  have h : ¬ ((k : Int) < 0) := by omega
  simp only [ti, sl_tup, cutD, sIxD, h, if_false, List.drop_zero, Nat.sub_zero, List.length_map, Int.toNat_natCast]
  rw [← List.map_take, List.take_eq_take_min (i := k)]
theorem sl_drop (l : List Int) (k : Nat) : slD (ti l) (some (k : Int)) none = some (ti (l.drop k)) := by
  have h : ¬ ((k : Int) < 0) := by omega
  simp only [ti, sl_tup, cutD, sIxD, h, if_false, List.length_map, Int.toNat_natCast]
  rw [← List.map_drop, ← List.map_take, List.take_of_length_le (by simp)]
  by_cases hk : k ≤ l.length
  · rw [Nat.min_eq_left hk]
  · rw [Nat.min_eq_right (by omega), List.drop_of_length_le (by omega), List.drop_of_length_le (by omega)]
theorem sum_ti (l : List Int) : biD .sum [ti l] = some (.int l.sum) := by
  simp only [ti, biD, ints_map, Option.map_some]
theorem sum_li (l : List Int) : biD .sum [li l] = some (.int l.sum) := by
  simp only [li, biD, ints_map, Option.map_some]
theorem ix_t {l : List Int} {j : Nat} (h : j < l.length) : idxD (ti l) (.int (j : Int)) = some (.int (l.getD j 0)) := by
  show atD (l.map .int) (j : Int) = _
  simp [atD, h]
theorem ix_l {l : List Int} {j : Nat} (h : j < l.length) : idxD (li l) (.int (j : Int)) = some (.int (l.getD j 0)) := by
  show atD (l.map .int) (j : Int) = _
  simp [atD, h]
theorem add_ti {a b : List Int} (h : a.length + b.length ≤ 1000000) : opD .add (ti a) (ti b) = some (ti (a ++ b)) := by
  simp [ti, opD, h]
theorem ti_one (x : Int) : D.tup [.int x] = ti [x] := rfl
def addAt (l : List Int) (n : Nat) (m : Int) : List Int := l.set n (l.getD n 0 + m)
theorem with_i (k : Nat) (g : G) {l : List Int} {n : Nat} {m : Int} (hn : n < l.length) (hl : l.length ≤ 1000) : den p (k + 1) 72 [ti l, .int (n : Int), .int m] g = .ok (ti (addAt l n m)) g := by
  refine Eq.trans (den_f HC.h_with_more rfl (by decide)) ?_
  show endR (evB p.cs (den p k) b_with_more [.val (ti l), .val (.int (n : Int)), .val (.int m)] g) = _
  have e1 := sl_take l n
  have e2 := sl_drop l (n + 1)
  have e3 := ix_t hn
  rw [show ((n + 1 : Nat) : Int) = (n : Int) + 1 by omega] at e2
  have e4 := add_ti (a := l.take n) (b := [l.getD n 0 + m]) (by simp; omega)
  have e5 := add_ti (a := l.take n ++ [l.getD n 0 + m]) (b := l.drop (n + 1)) (by simp; omega)
  have e6 : l.take n ++ [l.getD n 0 + m] ++ l.drop (n + 1) = addAt l n m := by
    unfold addAt
    rw [List.set_eq_take_append_cons_drop, if_pos hn]
    simp
  rw [e6] at e5
  generalize addAt l n m = A at *
  clear e6
  generalize l.getD n 0 = z at *
  simp only [b_with_more, b_cons, s_ret', x_bin, x_sl, x_var, List.getElem?_cons_zero, List.getElem?_cons_succ, r_ok, o_none, o_some, e1, l_some, x_tup, a_cons, a_nil, x_idx, e3, o_add, ti_one, e4, x_cst, e2, e5, e_rt]
theorem addAt_len (l : List Int) (n : Nat) (m : Int) : (addAt l n m).length = l.length := by simp [addAt]
theorem none_i (k : Nat) (g : G) {s : Int} {fs : List Int} (h : HOk s fs) : den p (k + 1) 67 [hlD s fs] g = .ok (ti (List.replicate fs.length 0)) g := by
  refine Eq.trans (den_f HC.h_none_of rfl (by decide)) ?_
  show endR (evB p.cs (den p k) b_none_of [.val (hlD s fs)] g) = _
  have h1 := h.f1
  have h4 := h.f4
  have e : opD .mul (.tup [.int 0]) (.int (fs.length : Int)) = some (ti (List.replicate fs.length 0)) := by
    have c : ¬ ([D.int 0] = []) ∧ 1 ≤ (fs.length : Int) ∧ (fs.length : Int) ≤ 1000 ∧ [D.int 0].length ≤ 1000 := ⟨by simp, by omega, by omega, by decide⟩
    simp only [opD]
    rw [if_pos c]
    simp [ti, List.map_replicate]
  simp [b_none_of, e]
/-! ### the cheapest -/
def posL (l : List Int) : List Nat := (l.zipIdx.filter fun q => decide (0 < q.1)).map (·.2)
def chp (l : List Int) : Option Nat := (posL l).head?
def oN : Option Nat → D
  | none => .non
  | some n => .int (n : Int)
theorem cheap_i (k : Nat) (g : G) (l : List Int) : den p (k + 1) 73 [ti l] g = .ok (oN (chp l)) g := by
  refine Eq.trans (den_f HC.h_cheapest_sold rfl (by decide)) ?_
  show endR (evB p.cs (den p k) b_cheapest_sold [.val (ti l), .no, .no, .no] g) = _
  have e1 := lc_filter (cs := p.cs) (call := den p k) (elt := .var 2) (cond := .cmp .gt (.var 3) (.cst (.int 0))) (t := .tup [.var 2, .var 3]) (it := .enum (.var 0)) (Γ := [.val (ti l), .no, .no, .no]) (g := g) (l := l.zipIdx) (enc := fun q => D.tup [.int (q.2 : Int), .int q.1]) (h := fun q => .int (q.2 : Int)) (c := fun q => decide (0 < q.1))
    (by
      have := enumD_map l 0
      simp [ti]
      exact this) (fun q hq g => by simp) (fun q hq hc g => by simp)
  have e2 : D.lst ((l.zipIdx.filter fun q => decide (0 < q.1)).map fun q => D.int (q.2 : Int)) = li ((posL l).map fun n : Nat => (n : Int)) := by simp [li, posL, Function.comp_def]
  rw [e2] at e1
  have e3 := ne_nil_l ((posL l).map fun n : Nat => (n : Int))
  cases hp : posL l with
  | nil =>
    rw [hp] at e1 e3
    simp only [List.map_nil, List.isEmpty_nil, Bool.not_true] at e1 e3
    simp [b_cheapest_sold, e1, e3, chp, hp, oN]
  | cons a r =>
    rw [hp] at e1 e3
    have e4 : idxD (li ((a :: r).map fun n : Nat => (n : Int))) (.int 0) = some (.int (a : Int)) := rfl
    generalize li ((a :: r).map fun n : Nat => (n : Int)) = X at *
    simp [b_cheapest_sold, e1, e3, e4, chp, hp, oN]
/-! ### whether a rule lets a call -/
def nst (l c : List Int) (f : Nat) : Bool := (List.range (c.length - f)).all fun i => decide ((c.take (f + i + 1)).sum < l.getD (f + i) 0)
def Rl.lets (s : Int) : Rl → List Int → Nat → Bool
  | .apart l, c, f => decide (c.getD f 0 < l.getD f 0)
  | .nested l, c, f => nst l c f
  | .kept l, c, f => decide (l.getD f 0 < s - c.sum)
  | .all a b, c, f => a.lets s c f && b.lets s c f
  | .any a b, c, f => a.lets s c f || b.lets s c f
  | .oust a _, c, f => a.lets s c f
theorem lets_plain_i (k : Nat) (g : G) {s : Int} {fs : List Int} {r : Rl} {o : Bool} (hb : r.bare = true) (hr : r.Ok s fs.length o) {c : List Int} {f : Nat} (hc : c.length = fs.length) (hf : f < fs.length) (h4 : fs.length ≤ 1000) :
    den p (k + 1) 77 [hlD s fs, r.d, ti c, .int (f : Int)] g = .ok (.bl (r.lets s c f)) g := by
  have e0 : den p (k + 1) 77 [hlD s fs, r.d, ti c, .int (f : Int)] g = endR (evB p.cs (den p k) b_lets_plain [.val (hlD s fs), .val r.d, .val (ti c), .val (.int (f : Int)), .no, .no, .no] g) := den_f HC.h_lets_plain rfl (by decide)
  rw [e0]
  have e1 := ix_t (l := c) (j := f) (by omega)
  have e2 := sum_ti c
  cases r with
  | apart l =>
    have e3 := ix_t (l := l) (j := f) (by rw [hr.1]; exact hf)
    have c1 : cmpD .eq (.str "apart") (.str "apart") = some true := rfl
    have st : evS p.cs (den p k) (.asg (.tup [(.var 4), (.var 5)]) (.var 1)) [.val (hlD s fs), .val (Rl.apart l).d, .val (ti c), .val (.int (f : Int)), .no, .no, .no] g = .ok (.nx [.val (hlD s fs), .val (Rl.apart l).d, .val (ti c), .val (.int (f : Int)), .val (.str "apart"), .val (ti l), .no]) g := rfl
    have e4 : evB p.cs (den p k) b_lets_plain [.val (hlD s fs), .val (Rl.apart l).d, .val (ti c), .val (.int (f : Int)), .no, .no, .no] g = .ok (.rt (.bl ((Rl.apart l).lets s c f))) g := by
      unfold b_lets_plain
      refine step_nx st (step_rt ?_)
      simp only [Rl.lets]
      generalize (Rl.apart l).d = R at *
      generalize c.getD f 0 = x at *
      generalize l.getD f 0 = y at *
      simp [c1, e1, e3]
    rw [e4]; rfl
  | kept l =>
    have e3 := ix_t (l := l) (j := f) (by rw [hr.1]; exact hf)
    have c1 : cmpD .eq (.str "kept") (.str "apart") = some false := rfl
    have c2 : cmpD .eq (.str "kept") (.str "kept") = some true := rfl
    have st : evS p.cs (den p k) (.asg (.tup [(.var 4), (.var 5)]) (.var 1)) [.val (hlD s fs), .val (Rl.kept l).d, .val (ti c), .val (.int (f : Int)), .no, .no, .no] g = .ok (.nx [.val (hlD s fs), .val (Rl.kept l).d, .val (ti c), .val (.int (f : Int)), .val (.str "kept"), .val (ti l), .no]) g := rfl
    have e4 : evB p.cs (den p k) b_lets_plain [.val (hlD s fs), .val (Rl.kept l).d, .val (ti c), .val (.int (f : Int)), .no, .no, .no] g = .ok (.rt (.bl ((Rl.kept l).lets s c f))) g := by
      unfold b_lets_plain
      simp only [Rl.lets]
      generalize (Rl.kept l).d = R at *
      generalize c.getD f 0 = x at *
      generalize l.getD f 0 = y at *
      refine step_nx st (step_nx (by simp [c1]; exact ⟨rfl, rfl⟩) (step_rt (by simp [c2, e2, e3])))
    rw [e4]; rfl
  | nested l =>
    have c1 : cmpD .eq (.str "nested") (.str "apart") = some false := rfl
    have c2 : cmpD .eq (.str "nested") (.str "kept") = some false := rfl
    have st : evS p.cs (den p k) (.asg (.tup [(.var 4), (.var 5)]) (.var 1)) [.val (hlD s fs), .val (Rl.nested l).d, .val (ti c), .val (.int (f : Int)), .no, .no, .no] g = .ok (.nx [.val (hlD s fs), .val (Rl.nested l).d, .val (ti c), .val (.int (f : Int)), .val (.str "nested"), .val (ti l), .no]) g := rfl
    have el := lc_map (cs := p.cs) (call := den p k) (elt := (.cmp .lt (.bi .sum (.cons (.sl (.var 2) none (some (.bin .add (.var 6) (.cst (.int 1))))) .nil)) (.idx (.var 5) (.var 6)))) (t := .var 6) (it := .rng2 (.var 3) (.bi .len (.cons (.var 2) .nil))) (Γ := [.val (hlD s fs), .val (Rl.nested l).d, .val (ti c), .val (.int (f : Int)), .val (.str "nested"), .val (ti l), .no]) (g := g) (l := List.range (c.length - f)) (enc := fun i : Nat => .int ((f : Int) + (i : Int))) (h := fun i => .bl (decide ((c.take (f + i + 1)).sum < l.getD (f + i) 0)))
      (by
        rw [rng2_i (i := (f : Int)) (j := (c.length : Int)) (by simp) (by simp) (by omega) (by omega), rngD_map]
        congr 3
        omega) (fun i hi g => by
        have hi' := List.mem_range.mp hi
        have a1 := sl_take c (f + i + 1)
        have a2 := sum_ti (c.take (f + i + 1))
        have a3 := ix_t (l := l) (j := f + i) (by rw [hr.1.1]; omega)
        rw [show ((f + i + 1 : Nat) : Int) = (f : Int) + (i : Int) + 1 by omega] at a1
        rw [show ((f + i : Nat) : Int) = (f : Int) + (i : Int) by omega] at a3
        generalize l.getD (f + i) 0 = y at *
        generalize (c.take (f + i + 1)) = T at *
        simp [a1, a2, a3])
    have e4 : evB p.cs (den p k) b_lets_plain [.val (hlD s fs), .val (Rl.nested l).d, .val (ti c), .val (.int (f : Int)), .no, .no, .no] g = .ok (.rt (.bl ((Rl.nested l).lets s c f))) g := by
      unfold b_lets_plain
      simp only [Rl.lets, nst]
      generalize (Rl.nested l).d = R at *
      refine step_nx st (step_nx (by simp [c1]; exact ⟨rfl, rfl⟩) (step_nx (by simp [c2]; exact ⟨rfl, rfl⟩) (step_rt ?_)))
      rw [s_ret', x_bi, a_cons, el, r_ok, a_nil, r_ok, r_ok, all_bl]
      rfl
    rw [e4]; rfl
  | all a b => cases hb
  | any a b => cases hb
  | oust a b => cases hb
end Pk

set_option Elab.async false
set_option linter.all false
set_option maxRecDepth 100000
set_option maxHeartbeats 4000000
/-! Calls: rows of them. -/
namespace Pk
open PySem Bk
variable {p : Pr} [HP p] [HC p]
section
variable {s : Int} {fs : List Int}
theorem eqAll (r : Rl) : cmpD .eq (.str r.wd) (.str "all") = some (match r with | .all _ _ => true | _ => false) := by cases r <;> rfl
theorem eqAny (r : Rl) : cmpD .eq (.str r.wd) (.str "any") = some (match r with | .any _ _ => true | _ => false) := by cases r <;> rfl
theorem lets_i {c : List Int} {f : Nat} (hc : c.length = fs.length) (hf : f < fs.length) (h4 : fs.length ≤ 1000) : ∀ (r : Rl) (o : Bool) (n : Nat) (g : G), r.Ok s fs.length o → r.deep + 2 ≤ n → den p n 75 [hlD s fs, r.d, ti c, .int (f : Int)] g = .ok (.bl (r.lets s c f)) g := by
  intro r
  induction r with
  | apart l =>
    intro o n g hr hn
    obtain ⟨n, rfl⟩ : ∃ m, n = m + 2 := ⟨n - 2, by omega⟩
    refine Eq.trans (den_f HC.h_lets_of rfl (by decide)) ?_
    show endR (evB p.cs (den p (n + 1)) b_lets_of [.val (hlD s fs), .val (Rl.apart l).d, .val (ti c), .val (.int (f : Int))] g) = _
    have e := lets_plain_i (p := p) n g (r := .apart l) rfl hr hc hf h4
    have e0 := rl_0 (.apart l)
    have e1 := eqAll (.apart l)
    have e2 := eqAny (.apart l)
    have e3 := eqO (.apart l)
    generalize (Rl.apart l).d = R at *
    generalize (Rl.apart l).wd = W at *
    simp [b_lets_of, e0, e1, e2, e3, e, Rl.isO]
  | nested l =>
    intro o n g hr hn
    obtain ⟨n, rfl⟩ : ∃ m, n = m + 2 := ⟨n - 2, by omega⟩
    refine Eq.trans (den_f HC.h_lets_of rfl (by decide)) ?_
    show endR (evB p.cs (den p (n + 1)) b_lets_of [.val (hlD s fs), .val (Rl.nested l).d, .val (ti c), .val (.int (f : Int))] g) = _
    have e := lets_plain_i (p := p) n g (r := .nested l) rfl hr hc hf h4
    have e0 := rl_0 (.nested l)
    have e1 := eqAll (.nested l)
    have e2 := eqAny (.nested l)
    have e3 := eqO (.nested l)
    generalize (Rl.nested l).d = R at *
    generalize (Rl.nested l).wd = W at *
    simp [b_lets_of, e0, e1, e2, e3, e, Rl.isO]
  | kept l =>
    intro o n g hr hn
    obtain ⟨n, rfl⟩ : ∃ m, n = m + 2 := ⟨n - 2, by omega⟩
    refine Eq.trans (den_f HC.h_lets_of rfl (by decide)) ?_
    show endR (evB p.cs (den p (n + 1)) b_lets_of [.val (hlD s fs), .val (Rl.kept l).d, .val (ti c), .val (.int (f : Int))] g) = _
    have e := lets_plain_i (p := p) n g (r := .kept l) rfl hr hc hf h4
    have e0 := rl_0 (.kept l)
    have e1 := eqAll (.kept l)
    have e2 := eqAny (.kept l)
    have e3 := eqO (.kept l)
    generalize (Rl.kept l).d = R at *
    generalize (Rl.kept l).wd = W at *
    simp [b_lets_of, e0, e1, e2, e3, e, Rl.isO]
  | all a b iha ihb =>
    intro o n g hr hn
    simp only [Rl.deep] at hn
    obtain ⟨n, rfl⟩ : ∃ m, n = m + 1 := ⟨n - 1, by omega⟩
    refine Eq.trans (den_f HC.h_lets_of rfl (by decide)) ?_
    show endR (evB p.cs (den p n) b_lets_of [.val (hlD s fs), .val (Rl.all a b).d, .val (ti c), .val (.int (f : Int))] g) = _
    have ea := iha false n g hr.1 (by omega)
    have eb := ihb false n g hr.2 (by omega)
    have e0 := rl_0 (.all a b)
    have e1 := eqAll (.all a b)
    have i1 : idxD (Rl.all a b).d (.int 1) = some a.d := rfl
    have i2 : idxD (Rl.all a b).d (.int 2) = some b.d := rfl
    simp only [Rl.lets]
    generalize (Rl.all a b).d = R at *
    generalize (Rl.all a b).wd = W at *
    generalize a.d = A at *
    generalize b.d = B at *
    cases ha : a.lets s c f <;> simp [b_lets_of, e0, e1, i1, i2, ea, eb, ha]
  | any a b iha ihb =>
    intro o n g hr hn
    simp only [Rl.deep] at hn
    obtain ⟨n, rfl⟩ : ∃ m, n = m + 1 := ⟨n - 1, by omega⟩
    refine Eq.trans (den_f HC.h_lets_of rfl (by decide)) ?_
    show endR (evB p.cs (den p n) b_lets_of [.val (hlD s fs), .val (Rl.any a b).d, .val (ti c), .val (.int (f : Int))] g) = _
    have ea := iha false n g hr.1 (by omega)
    have eb := ihb false n g hr.2 (by omega)
    have e0 := rl_0 (.any a b)
    have e1 := eqAll (.any a b)
    have e2 := eqAny (.any a b)
    have i1 : idxD (Rl.any a b).d (.int 1) = some a.d := rfl
    have i2 : idxD (Rl.any a b).d (.int 2) = some b.d := rfl
    simp only [Rl.lets]
    generalize (Rl.any a b).d = R at *
    generalize (Rl.any a b).wd = W at *
    generalize a.d = A at *
    generalize b.d = B at *
    cases ha : a.lets s c f <;> simp [b_lets_of, e0, e1, e2, i1, i2, ea, eb, ha]
  | oust a fee iha =>
    intro o n g hr hn
    simp only [Rl.deep] at hn
    obtain ⟨n, rfl⟩ : ∃ m, n = m + 1 := ⟨n - 1, by omega⟩
    refine Eq.trans (den_f HC.h_lets_of rfl (by decide)) ?_
    show endR (evB p.cs (den p n) b_lets_of [.val (hlD s fs), .val (Rl.oust a fee).d, .val (ti c), .val (.int (f : Int))] g) = _
    have ea := iha false n g hr.2.1 (by omega)
    have e0 := rl_0 (.oust a fee)
    have e1 := eqAll (.oust a fee)
    have e2 := eqAny (.oust a fee)
    have e3 := eqO (.oust a fee)
    have i1 : idxD (Rl.oust a fee).d (.int 1) = some a.d := rfl
    simp only [Rl.lets]
    generalize (Rl.oust a fee).d = R at *
    generalize (Rl.oust a fee).wd = W at *
    generalize a.d = A at *
    simp [b_lets_of, e0, e1, e2, e3, i1, ea, Rl.isO]
/-! ### one step -/
def Rl.fee : Rl → Int
  | .oust _ fee => fee
  | _ => 0
/-- the fare that is ousted by a call -/
def ousts (fs : List Int) (r : Rl) (c : List Int) (f : Nat) : Option Nat := match r, chp c with
  | .oust _ fee, some l => if l < f ∧ fee < fs.getD f 0 - fs.getD l 0 then some l else none
  | _, _ => none
structure Stt where
  c : List Int
  paid : Int
  deed : Str
def stepR (s : Int) (fs : List Int) (r : Rl) (c : List Int) (paid : Int) (f : Nat) : Stt :=
  if c.sum < s ∧ r.lets s c f = true then ⟨addAt c f 1, paid, "taken"⟩
  else match ousts fs r c f with
    | some l => ⟨addAt (addAt c l (-1)) f 1, paid + r.fee, "ousted"⟩
    | none => ⟨c, paid, "refused"⟩
def Stt.d (x : Stt) : D := .tup [ti x.c, .int x.paid, .str x.deed]
theorem chp_lt {c : List Int} {l : Nat} (h : chp c = some l) : l < c.length := by
  unfold chp posL at h
  have := List.mem_of_mem_head? (Option.mem_def.mpr h)
  obtain ⟨q, hq, rfl⟩ := List.mem_map.mp this
  have h2 := List.mem_zipIdx (List.mem_filter.mp hq).1
  omega
theorem step_i (h : HOk s fs) {r : Rl} (hr : ROk s fs.length r) {c : List Int} {f : Nat} (hc : c.length = fs.length) (hf : f < fs.length) (k : Nat) (paid : Int) (g : G) :
    den p (k + 6) 71 [hlD s fs, r.d, ti c, .int paid, .int (f : Int)] g = .ok (stepR s fs r c paid f).d g := by
  have h4 := h.f4
  have hd := hr.d
  have e00 : den p (k + 6) 71 [hlD s fs, r.d, ti c, .int paid, .int (f : Int)] g = endR (evB p.cs (den p (k + 5)) b_step_of [.val (hlD s fs), .val r.d, .val (ti c), .val (.int paid), .val (.int (f : Int)), .no] g) := den_f HC.h_step_of rfl (by decide)
  rw [e00]
  have el := lets_i (p := p) (s := s) (fs := fs) hc hf (by omega) r true (k + 5) g hr.ok (by omega)
  have es := sum_ti c
  have ew := with_i (p := p) (k + 4) g (l := c) (n := f) (m := 1) (by omega) (by omega)
  have ec := cheap_i (p := p) (k + 4) g c
  have e0 := rl_0 r
  have e3 := eqO r
  unfold stepR
  by_cases hA : c.sum < s ∧ r.lets s c f = true
  · rw [if_pos hA]
    obtain ⟨a1, a2⟩ := hA
    rw [a2] at el
    generalize r.d = R at *
    simp [b_step_of, es, a1, el, ew, Stt.d]
  · rw [if_neg hA]
    have cond : evE p.cs (den p (k + 5)) (.and (.cmp .lt (.bi .sum (.cons (.var 2) .nil)) (.idx (.var 0) (.cst (.int 0)))) (.call 75 (.cons (.var 0) (.cons (.var 1) (.cons (.var 2) (.cons (.var 4) .nil)))))) [.val (hlD s fs), .val r.d, .val (ti c), .val (.int paid), .val (.int (f : Int)), .no] g = .ok (.bl false) g := by
      by_cases a1 : c.sum < s
      · have a2 : r.lets s c f = false := by
          cases hh : r.lets s c f with
          | false => rfl
          | true => exact absurd ⟨a1, hh⟩ hA
        rw [a2] at el
        generalize r.d = R at *
        simp [es, a1, el]
      · generalize r.d = R at *
        simp [es, a1]
    have st1 : evS p.cs (den p (k + 5)) (.ife (.and (.cmp .lt (.bi .sum (.cons (.var 2) .nil)) (.idx (.var 0) (.cst (.int 0)))) (.call 75 (.cons (.var 0) (.cons (.var 1) (.cons (.var 2) (.cons (.var 4) .nil)))))) (.cons (.ret (.tup (.cons (.call 72 (.cons (.var 2) (.cons (.var 4) (.cons (.cst (.int 1)) .nil)))) (.cons (.var 3) (.cons (.glb 16) .nil))))) .nil) .nil) [.val (hlD s fs), .val r.d, .val (ti c), .val (.int paid), .val (.int (f : Int)), .no] g = .ok (.nx [.val (hlD s fs), .val r.d, .val (ti c), .val (.int paid), .val (.int (f : Int)), .no]) g := by
      rw [s_ife', cond]
      simp
    have st2 : evS p.cs (den p (k + 5)) (.asg (.var 5) (.call 73 (.cons (.var 2) .nil))) [.val (hlD s fs), .val r.d, .val (ti c), .val (.int paid), .val (.int (f : Int)), .no] g = .ok (.nx [.val (hlD s fs), .val r.d, .val (ti c), .val (.int paid), .val (.int (f : Int)), .val (oN (chp c))]) g := by
      generalize r.d = R at *
      simp [ec]
    have fin : evB p.cs (den p (k + 5)) b_step_of [.val (hlD s fs), .val r.d, .val (ti c), .val (.int paid), .val (.int (f : Int)), .no] g = .ok (.rt (Stt.d (match ousts fs r c f with
      | some l => ⟨addAt (addAt c l (-1)) f 1, paid + r.fee, "ousted"⟩
      | none => ⟨c, paid, "refused"⟩))) g := by
      unfold b_step_of
      refine step_nx st1 (step_nx st2 ?_)
      have ef := ix_t (l := fs) (j := f) hf
      cases hch : chp c with
      | none =>
        have ho : ousts fs r c f = none := by unfold ousts; rw [hch]; cases r <;> rfl
        rw [ho]
        have nn : cmpD .notN .non .non = some false := rfl
        generalize r.d = R at *
        cases hO : r.isO <;> simp [e0, e3, hO, oN, nn, Stt.d]
      | some l =>
        have hl := chp_lt hch
        have ni : cmpD .notN (.int (l : Int)) .non = some true := rfl
        have el2 := ix_t (l := fs) (j := l) (by omega)
        cases hO : r.isO with
        | false =>
          have ho : ousts fs r c f = none := by unfold ousts; rw [hch]; cases r <;> first | rfl | cases hO
          rw [ho]
          generalize r.d = R at *
          simp [e0, e3, hO, oN, ni, Stt.d]
        | true =>
          cases r with
          | oust a fee =>
            have i2 : idxD (Rl.oust a fee).d (.int 2) = some (.int fee) := rfl
            have e5 := with_i (p := p) (k + 4) g (l := c) (n := l) (m := -1) (by omega) (by omega)
            have e6 := with_i (p := p) (k + 4) g (l := addAt c l (-1)) (n := f) (m := 1) (by rw [addAt_len]; omega) (by rw [addAt_len]; omega)
            have ho : ousts fs (.oust a fee) c f = if l < f ∧ fee < fs.getD f 0 - fs.getD l 0 then some l else none := by unfold ousts; rw [hch]
            rw [ho]
            have hfee : (Rl.oust a fee).fee = fee := rfl
            rw [hfee]
            generalize (Rl.oust a fee).d = R at *
            generalize (Rl.oust a fee).wd = W at *
            generalize fs.getD f 0 = x at *
            generalize fs.getD l 0 = y at *
            by_cases c1 : l < f
            · by_cases c2 : fee < x - y
              · simp [e0, e3, oN, ni, ef, el2, i2, c1, c2, e5, e6, hO, Stt.d]
              · simp [e0, e3, oN, ni, ef, el2, i2, c1, c2, hO, Stt.d]
            · simp [e0, e3, oN, ni, c1, hO, Stt.d]
          | _ => cases hO
    rw [fin]
    rfl
end
end Pk

set_option Elab.async false
set_option linter.all false
set_option maxRecDepth 100000
set_option maxHeartbeats 4000000
/-! Calls: rows, hindsight, regret, share. -/
namespace Pk
open PySem Bk
variable {p : Pr} [HP p] [HC p]
section
variable {s : Int} {fs : List Int}
/-- a row of calls -/
def RowOk (n : Nat) (row : List Nat) : Prop := row.length ≤ 400 ∧ ∀ f ∈ row, f < n
def rI (row : List Nat) : List Int := row.map fun f : Nat => (f : Int)
def bodyNC : B := (.cons (.ife (.not (.call 21 (.cons (.var 3) (.cons (.cst (.int 0)) (.cons (.bin .sub (.bi .len (.cons (.idx (.var 0) (.cst (.int 1))) .nil)) (.cst (.int 1))) .nil))))) (.cons .stop .nil) .nil) .nil)
theorem nc_loop (k : Nat) (g : G) (x : D) {row : List Nat} (hr : RowOk fs.length row) : ∃ t2 t3, forR (fun x Γ g => (lift (setT (.tup [.var 2, .var 3]) x Γ) g).bind fun Γ' g => evB p.cs (den p (k + 1)) bodyNC Γ' g) (enumD 0 ((rI row).map .int)) [.val (hlD s fs), .val x, .no, .no] g = .ok (.nx [.val (hlD s fs), .val x, t2, t3]) g := by
  have e := enumD_map (rI row) 0
  rw [show ((0 : Nat) : Int) = 0 from rfl] at e
  rw [e]
  have lp := for_nx (F := fun x Γ g => (lift (setT (.tup [.var 2, .var 3]) x Γ) g).bind fun Γ' g => evB p.cs (den p (k + 1)) bodyNC Γ' g) (J := fun i Γ g' => g' = g ∧ ∃ t2 t3, Γ = [.val (hlD s fs), .val x, t2, t3]) (((rI row).zipIdx 0).map fun q => D.tup [.int (q.2 : Int), .int q.1]) [.val (hlD s fs), .val x, .no, .no] g 0 ⟨rfl, _, _, rfl⟩ (fun i y Γ g' hy hJ => by
    obtain ⟨rfl, t2, t3, rfl⟩ := hJ
    obtain ⟨q, hq, rfl⟩ := List.mem_map.mp (List.mem_of_getElem? hy)
    have hm := (List.mem_zipIdx hq).2.2
    have hq1 : q.1 ∈ rI row := by rw [hm]; exact List.getElem_mem _
    obtain ⟨f, hf, e1⟩ := List.mem_map.mp hq1
    have hf' := hr.2 f hf
    refine ⟨[.val (hlD s fs), .val x, .val (.int (q.2 : Int)), .val (.int q.1)], g', ?_, rfl, _, _, rfl⟩
    rw [← e1]
    have w := is_whole_i (p := p) k (f : Int) 0 ((fs.length : Int) - 1) g'
    have c1 : (f : Int) ≤ (fs.length : Int) - 1 := by omega
    have c2 : (0 : Int) ≤ (f : Int) := by omega
    rw [decide_eq_true c1, decide_eq_true c2] at w
    simp [bodyNC, w])
  obtain ⟨Γ', g', e1, rfl, t2, t3, rfl⟩ := lp
  exact ⟨t2, t3, e1⟩
theorem need_calls_l (k : Nat) (g : G) {row : List Nat} (hr : RowOk fs.length row) : den p (k + 2) 63 [hlD s fs, li (rI row)] g = .ok (ti (rI row)) g := by
  have e0 : den p (k + 2) 63 [hlD s fs, li (rI row)] g = endR (evB p.cs (den p (k + 1)) b_need_calls [.val (hlD s fs), .val (li (rI row)), .no, .no] g) := den_f HC.h_need_calls rfl (by decide)
  rw [e0]
  obtain ⟨t2, t3, e1⟩ := nc_loop (p := p) (s := s) k g (li (rI row)) hr
  have hl : ¬ ((400 : Int) < ((rI row).length : Int)) := by have := hr.1; simp [rI]; omega
  have his : isiD [.list, .tuple] (li (rI row)) = some true := rfl
  have st : evS p.cs (den p (k + 1)) (.for_ (.tup [.var 2, .var 3]) (.enum (.var 1)) bodyNC) [.val (hlD s fs), .val (li (rI row)), .no, .no] g = .ok (.nx [.val (hlD s fs), .val (li (rI row)), t2, t3]) g := by
    rw [s_for']
    simp only [i_enum, x_var, List.getElem?_cons_zero, List.getElem?_cons_succ, r_ok, li_it, li_sq]
    exact e1
  have bt : biD .tuple [li (rI row)] = some (ti (rI row)) := rfl
  have e2 : evB p.cs (den p (k + 1)) b_need_calls [.val (hlD s fs), .val (li (rI row)), .no, .no] g = .ok (.rt (ti (rI row))) g := by
    unfold b_need_calls
    refine step_nx (Γ1 := [.val (hlD s fs), .val (li (rI row)), .no, .no]) (g1 := g) ?_ (step_nx st (step_rt ?_))
    · have := li_len (rI row)
      generalize li (rI row) = X at *
      simp [his, this, hl]
    · generalize li (rI row) = X at *
      simp [bt]
  rw [e2]; rfl
theorem need_calls_t (k : Nat) (g : G) {row : List Nat} (hr : RowOk fs.length row) : den p (k + 2) 63 [hlD s fs, ti (rI row)] g = .ok (ti (rI row)) g := by
  have e0 : den p (k + 2) 63 [hlD s fs, ti (rI row)] g = endR (evB p.cs (den p (k + 1)) b_need_calls [.val (hlD s fs), .val (ti (rI row)), .no, .no] g) := den_f HC.h_need_calls rfl (by decide)
  rw [e0]
  obtain ⟨t2, t3, e1⟩ := nc_loop (p := p) (s := s) k g (ti (rI row)) hr
  have hl : ¬ ((400 : Int) < ((rI row).length : Int)) := by have := hr.1; simp [rI]; omega
  have his : isiD [.list, .tuple] (ti (rI row)) = some true := rfl
  have st : evS p.cs (den p (k + 1)) (.for_ (.tup [.var 2, .var 3]) (.enum (.var 1)) bodyNC) [.val (hlD s fs), .val (ti (rI row)), .no, .no] g = .ok (.nx [.val (hlD s fs), .val (ti (rI row)), t2, t3]) g := by
    rw [s_for']
    simp only [i_enum, x_var, List.getElem?_cons_zero, List.getElem?_cons_succ, r_ok, ti_it, ti_sq]
    exact e1
  have bt : biD .tuple [ti (rI row)] = some (ti (rI row)) := rfl
  have e2 : evB p.cs (den p (k + 1)) b_need_calls [.val (hlD s fs), .val (ti (rI row)), .no, .no] g = .ok (.rt (ti (rI row))) g := by
    unfold b_need_calls
    refine step_nx (Γ1 := [.val (hlD s fs), .val (ti (rI row)), .no, .no]) (g1 := g) ?_ (step_nx st (step_rt ?_))
    · have := ti_len (rI row)
      generalize ti (rI row) = X at *
      simp [his, this, hl]
    · generalize ti (rI row) = X at *
      simp [bt]
  rw [e2]; rfl
/-! ### the way of a row -/
structure Wy where
  c : List Int
  paid : Int
  deeds : List Str
def wyStep (s : Int) (fs : List Int) (r : Rl) (x : Wy) (f : Nat) : Wy := ⟨(stepR s fs r x.c x.paid f).c, (stepR s fs r x.c x.paid f).paid, x.deeds ++ [(stepR s fs r x.c x.paid f).deed]⟩
def wy (s : Int) (fs : List Int) (r : Rl) (row : List Nat) : Wy := row.foldl (wyStep s fs r) ⟨List.replicate fs.length 0, 0, []⟩
theorem step_len (r : Rl) (c : List Int) (paid : Int) (f : Nat) : (stepR s fs r c paid f).c.length = c.length := by
  unfold stepR
  split
  · exact addAt_len _ _ _
  · split
    · rw [addAt_len, addAt_len]
    · rfl
theorem wy_len (r : Rl) : ∀ (row : List Nat) (x : Wy), (row.foldl (wyStep s fs r) x).c.length = x.c.length
  | [], x => rfl
  | f :: row, x => by
    rw [List.foldl_cons, wy_len r row]
    exact step_len r x.c x.paid f
def bodyWO : B := (.cons (.asg (.tup [(.var 4), (.var 5), (.var 7)]) (.call 71 (.cons (.var 0) (.cons (.var 1) (.cons (.var 4) (.cons (.var 5) (.cons (.var 3) .nil))))))) (.cons (.app 6 (.var 7)) .nil))
def sL (l : List Str) : List D := l.map .str
theorem wo_w (h : HOk s fs) {r : Rl} (hr : ROk s fs.length r) (k : Nat) (g : G) (z : D) : ∀ (row : List Nat) (x : Wy) (s3 s7 : Slot), x.c.length = fs.length → (∀ f ∈ row, f < fs.length) → x.deeds.length + row.length ≤ 1000 →
    ∃ t3 t7, forR (fun x Γ g => (lift (setT (.var 3) x Γ) g).bind fun Γ' g => evB p.cs (den p (k + 6)) bodyWO Γ' g) ((rI row).map .int) [.val (hlD s fs), .val r.d, .val z, s3, .val (ti x.c), .val (.int x.paid), .own (.lst (sL x.deeds)), s7] g
      = .ok (.nx [.val (hlD s fs), .val r.d, .val z, t3, .val (ti (row.foldl (wyStep s fs r) x).c), .val (.int (row.foldl (wyStep s fs r) x).paid), .own (.lst (sL (row.foldl (wyStep s fs r) x).deeds)), t7]) g
  | [], x, s3, s7, _, _, _ => ⟨s3, s7, rfl⟩
  | f :: row, x, s3, s7, hx, hrow, hl => by
    have e := step_i (p := p) h hr hx (hrow f List.mem_cons_self) k x.paid g
    obtain ⟨t3, t7, ih⟩ := wo_w h hr k g z row (wyStep s fs r x f) (.val (.int (f : Int))) (.val (.str (stepR s fs r x.c x.paid f).deed)) (by
      show (stepR s fs r x.c x.paid f).c.length = _
      rw [step_len, hx]) (fun a ha => hrow a (List.mem_cons_of_mem _ ha)) (by
      simp only [List.length_cons] at hl
      show (x.deeds ++ [_]).length + _ ≤ _
      simp
      omega)
    refine ⟨t3, t7, ?_⟩
    have hl2 : (sL x.deeds).length < 1000000 := by
      simp [sL]
      simp only [List.length_cons] at hl
      omega
    simp only [rI, List.map_cons, forR, List.foldl_cons]
    have st : (lift (setT (.var 3) (.int (f : Int)) [.val (hlD s fs), .val r.d, .val z, s3, .val (ti x.c), .val (.int x.paid), .own (.lst (sL x.deeds)), s7]) g).bind (fun Γ' g => evB p.cs (den p (k + 6)) bodyWO Γ' g) = .ok (.nx [.val (hlD s fs), .val r.d, .val z, .val (.int (f : Int)), .val (ti (wyStep s fs r x f).c), .val (.int (wyStep s fs r x f).paid), .own (.lst (sL (wyStep s fs r x f).deeds)), .val (.str (stepR s fs r x.c x.paid f).deed)]) g := by
      show evB p.cs (den p (k + 6)) bodyWO [.val (hlD s fs), .val r.d, .val z, .val (.int (f : Int)), .val (ti x.c), .val (.int x.paid), .own (.lst (sL x.deeds)), s7] g = _
      unfold bodyWO
      refine step_nx (Γ1 := [.val (hlD s fs), .val r.d, .val z, .val (.int (f : Int)), .val (ti (wyStep s fs r x f).c), .val (.int (wyStep s fs r x f).paid), .own (.lst (sL x.deeds)), .val (.str (stepR s fs r x.c x.paid f).deed)]) (g1 := g) ?_ (step_nx (Γ1 := _) (g1 := g) ?_ (b_nil ..))
      · rw [s_asg']
        simp only [x_call, a_cons, a_nil, x_var, List.getElem?_cons_zero, List.getElem?_cons_succ, r_ok, e]
        rfl
      · have e2 : sL (wyStep s fs r x f).deeds = sL x.deeds ++ [.str (stepR s fs r x.c x.paid f).deed] := by simp [sL, wyStep]
        rw [e2, s_app']
        simp only [List.getElem?_cons_zero, List.getElem?_cons_succ, x_var, r_ok, hl2, if_true]
        rfl
    rw [st, r_ok]
    exact ih
theorem went_of_i (h : HOk s fs) {r : Rl} (hr : ROk s fs.length r) (k : Nat) (g : G) {row : List Nat} (hrow : RowOk fs.length row) : den p (k + 7) 65 [hlD s fs, r.d, ti (rI row)] g = .ok (.tup [ti (wy s fs r row).c, .int (wy s fs r row).paid, .lst (sL (wy s fs r row).deeds)]) g := by
  have e0 : den p (k + 7) 65 [hlD s fs, r.d, ti (rI row)] g = endR (evB p.cs (den p (k + 6)) b_went_of [.val (hlD s fs), .val r.d, .val (ti (rI row)), .no, .no, .no, .no, .no] g) := den_f HC.h_went_of rfl (by decide)
  rw [e0]
  have en := none_i (p := p) (k + 5) g h
  obtain ⟨t3, t7, e⟩ := wo_w (p := p) h hr k g (ti (rI row)) row ⟨List.replicate fs.length 0, 0, []⟩ .no .no (by simp) hrow.2 (by have := hrow.1; simp; omega)
  have e1 : evB p.cs (den p (k + 6)) b_went_of [.val (hlD s fs), .val r.d, .val (ti (rI row)), .no, .no, .no, .no, .no] g = .ok (.rt (.tup [ti (wy s fs r row).c, .int (wy s fs r row).paid, .lst (sL (wy s fs r row).deeds)])) g := by
    unfold b_went_of
    refine step_nx (Γ1 := [.val (hlD s fs), .val r.d, .val (ti (rI row)), .no, .val (ti (List.replicate fs.length 0)), .val (.int 0), .own (.lst []), .no]) (g1 := g) ?_ (step_nx (Γ1 := [.val (hlD s fs), .val r.d, .val (ti (rI row)), t3, .val (ti (wy s fs r row).c), .val (.int (wy s fs r row).paid), .own (.lst (sL (wy s fs r row).deeds)), t7]) (g1 := g) ?_ (step_nx (Γ1 := [.val (hlD s fs), .val r.d, .val (ti (rI row)), t3, .val (ti (wy s fs r row).c), .val (.int (wy s fs r row).paid), .val (.lst (sL (wy s fs r row).deeds)), t7]) (g1 := g) ?_ (step_rt ?_)))
    · simp only [s_par', a_cons, a_nil, x_call, x_var, List.getElem?_cons_zero, List.getElem?_cons_succ, r_ok, en, x_cst, x_lst]
      rfl
    · rw [s_for']
      simp only [i_seq, x_var, List.getElem?_cons_zero, List.getElem?_cons_succ, r_ok, ti_it, ti_sq, l_some]
      exact e
    · rw [s_frz']
      rfl
    · simp
  rw [e1]; rfl
def Wy.d (x : Wy) : D := .tup [ti x.c, .int x.paid, .tup (sL x.deeds)]
theorem went_l (h : HOk s fs) {r : Rl} (hr : ROk s fs.length r) (k : Nat) (g : G) {row : List Nat} (hrow : RowOk fs.length row) (x : D) (hx : den p (k + 7) 63 [hlD s fs, x] g = .ok (ti (rI row)) g) : den p (k + 8) 58 [hlD s fs, r.d, x] g = .ok (wy s fs r row).d g := by
  have e0 : den p (k + 8) 58 [hlD s fs, r.d, x] g = endR (evB p.cs (den p (k + 7)) b_went [.val (hlD s fs), .val r.d, .val x, .no, .no, .no] g) := den_f HC.h_went rfl (by decide)
  rw [e0]
  have e1 := need_rule_i (p := p) (k + 2) h hr g
  have e2 := went_of_i (p := p) h hr k g hrow
  have e3 : evB p.cs (den p (k + 7)) b_went [.val (hlD s fs), .val r.d, .val x, .no, .no, .no] g = .ok (.rt (wy s fs r row).d) g := by
    unfold b_went
    generalize r.d = R at *
    refine step_nx (Γ1 := [.val (hlD s fs), .val R, .val x, .no, .no, .no]) (g1 := g) (by simp [e1]) (step_nx (Γ1 := [.val (hlD s fs), .val R, .val x, .val (ti (wy s fs r row).c), .val (.int (wy s fs r row).paid), .val (.lst (sL (wy s fs r row).deeds))]) (g1 := g) ?_ (step_rt ?_))
    · simp only [s_asg', x_call, a_cons, a_nil, x_var, List.getElem?_cons_zero, List.getElem?_cons_succ, r_ok, hx, e2]
      rfl
    · have bt : biD .tuple [.lst (sL (wy s fs r row).deeds)] = some (.tup (sL (wy s fs r row).deeds)) := rfl
      simp [bt, Wy.d]
  rw [e3]; rfl
end
end Pk

set_option Elab.async false
set_option linter.all false
set_option maxRecDepth 100000
set_option maxHeartbeats 4000000
/-! Calls: the dearest, hindsight, regret, share. -/
namespace Pk
open PySem Bk
variable {p : Pr} [HP p] [HC p]
section
variable {s : Int} {fs : List Int}
def seenR (s : Int) (c : List Int) (f : Nat) : List Int := if (addAt c f 1).sum ≤ s then addAt c f 1 else match chp (addAt c f 1) with
  | some l => addAt (addAt c f 1) l (-1)
  | none => addAt c f 1
theorem seenR_len (c : List Int) (f : Nat) : (seenR s c f).length = c.length := by
  unfold seenR
  split
  · exact addAt_len _ _ _
  · split
    · rw [addAt_len, addAt_len]
    · exact addAt_len _ _ _
/-- no negative counts -/
def Nn (c : List Int) : Prop := ∀ x ∈ c, 0 ≤ x
theorem chp_some {c : List Int} (h : 0 < c.sum) : ∃ l, chp c = some l := by
  unfold chp
  cases hp : posL c with
  | cons a r => exact ⟨a, rfl⟩
  | nil =>
    exfalso
    have : ∀ x ∈ c, x ≤ 0 := by
      intro x hx
      obtain ⟨i, hi⟩ := List.getElem?_of_mem hx
      apply Int.not_lt.mp
      intro hc
      have hm : (x, i) ∈ c.zipIdx := by
        rw [List.mem_zipIdx_iff_getElem?]
        simpa using hi
      have : i ∈ posL c := List.mem_map.mpr ⟨(x, i), List.mem_filter.mpr ⟨hm, by simpa using hc⟩, rfl⟩
      rw [hp] at this
      cases this
    have : c.sum ≤ 0 := by
      clear hp h
      induction c with
      | nil => simp
      | cons a c ih =>
        have h1 := this a List.mem_cons_self
        have h2 := ih (fun x hx => this x (List.mem_cons_of_mem _ hx))
        simp
        omega
    omega
theorem seen_with_i (h : HOk s fs) {c : List Int} {f : Nat} (hc : c.length = fs.length) (hf : f < fs.length) (k : Nat) (g : G) : den p (k + 2) 68 [hlD s fs, ti c, .int (f : Int)] g = .ok (ti (seenR s c f)) g := by
  have e0 : den p (k + 2) 68 [hlD s fs, ti c, .int (f : Int)] g = endR (evB p.cs (den p (k + 1)) b_seen_with [.val (hlD s fs), .val (ti c), .val (.int (f : Int)), .no] g) := den_f HC.h_seen_with rfl (by decide)
  rw [e0]
  have h4 := h.f4
  have hs := h.s1
  have e1 := with_i (p := p) k g (l := c) (n := f) (m := 1) (by omega) (by omega)
  have e2 := sum_ti (addAt c f 1)
  have e3 := cheap_i (p := p) k g (addAt c f 1)
  have hlen := addAt_len c f 1
  unfold seenR
  generalize addAt c f 1 = A at *
  by_cases c1 : A.sum ≤ s
  · rw [if_pos c1]
    simp [b_seen_with, e1, e2, c1]
  · rw [if_neg c1]
    obtain ⟨l, hl⟩ := chp_some (c := A) (by omega)
    have hl2 := chp_lt hl
    rw [hl] at e3 ⊢
    have e4 := with_i (p := p) k g (l := A) (n := l) (m := -1) hl2 (by omega)
    simp only [oN] at e3
    simp [b_seen_with, e1, e2, c1, e3, e4]
def seenL (s : Int) (n : Nat) (row : List Nat) : List Int := row.foldl (seenR s) (List.replicate n 0)
def bodySO : B := (.cons (.asg (.var 2) (.call 68 (.cons (.var 0) (.cons (.var 2) (.cons (.var 3) .nil))))) .nil)
theorem so_w (h : HOk s fs) (k : Nat) (g : G) (z : D) : ∀ (row : List Nat) (c : List Int) (s3 : Slot), c.length = fs.length → (∀ f ∈ row, f < fs.length) →
    ∃ t3, forR (fun x Γ g => (lift (setT (.var 3) x Γ) g).bind fun Γ' g => evB p.cs (den p (k + 2)) bodySO Γ' g) ((rI row).map .int) [.val (hlD s fs), .val z, .val (ti c), s3] g = .ok (.nx [.val (hlD s fs), .val z, .val (ti (row.foldl (seenR s) c)), t3]) g
  | [], c, s3, _, _ => ⟨s3, rfl⟩
  | f :: row, c, s3, hc, hrow => by
    have e := seen_with_i (p := p) h hc (hrow f List.mem_cons_self) k g
    obtain ⟨t3, ih⟩ := so_w h k g z row (seenR s c f) (.val (.int (f : Int))) (by rw [seenR_len, hc]) (fun a ha => hrow a (List.mem_cons_of_mem _ ha))
    refine ⟨t3, ?_⟩
    simp only [rI, List.map_cons, forR, List.foldl_cons]
    have st : (lift (setT (.var 3) (.int (f : Int)) [.val (hlD s fs), .val z, .val (ti c), s3]) g).bind (fun Γ' g => evB p.cs (den p (k + 2)) bodySO Γ' g) = .ok (.nx [.val (hlD s fs), .val z, .val (ti (seenR s c f)), .val (.int (f : Int))]) g := by
      simp [bodySO, e]
    rw [st, r_ok]
    exact ih
theorem seen_of_i (h : HOk s fs) (k : Nat) (g : G) {row : List Nat} (hrow : RowOk fs.length row) : den p (k + 3) 62 [hlD s fs, ti (rI row)] g = .ok (ti (seenL s fs.length row)) g := by
  have e0 : den p (k + 3) 62 [hlD s fs, ti (rI row)] g = endR (evB p.cs (den p (k + 2)) b_seen_of [.val (hlD s fs), .val (ti (rI row)), .no, .no] g) := den_f HC.h_seen_of rfl (by decide)
  rw [e0]
  have en := none_i (p := p) (k + 1) g h
  obtain ⟨t3, e⟩ := so_w (p := p) h k g (ti (rI row)) row (List.replicate fs.length 0) .no (by simp) hrow.2
  have e1 : evB p.cs (den p (k + 2)) b_seen_of [.val (hlD s fs), .val (ti (rI row)), .no, .no] g = .ok (.rt (ti (seenL s fs.length row))) g := by
    unfold b_seen_of
    refine step_nx (Γ1 := [.val (hlD s fs), .val (ti (rI row)), .val (ti (List.replicate fs.length 0)), .no]) (g1 := g) (by simp [en]) (step_nx (Γ1 := [.val (hlD s fs), .val (ti (rI row)), .val (ti (seenL s fs.length row)), t3]) (g1 := g) ?_ (step_rt (by simp)))
    rw [s_for']
    simp only [i_seq, x_var, List.getElem?_cons_zero, List.getElem?_cons_succ, r_ok, ti_it, ti_sq, l_some]
    exact e
  rw [e1]; rfl
theorem seen_l (h : HOk s fs) (k : Nat) (g : G) {row : List Nat} (hrow : RowOk fs.length row) (x : D) (hx : den p (k + 3) 63 [hlD s fs, x] g = .ok (ti (rI row)) g) : den p (k + 4) 60 [hlD s fs, x] g = .ok (ti (seenL s fs.length row)) g := by
  refine Eq.trans (den_f HC.h_seen rfl (by decide)) ?_
  show endR (evB p.cs (den p (k + 3)) b_seen [.val (hlD s fs), .val x] g) = _
  have e1 := need_hall_i (p := p) (k + 1) h g
  have e2 := seen_of_i (p := p) h k g hrow
  simp [b_seen, e1, hx, e2]
def worthL (fs c : List Int) : Int := ((fs.zip c).map fun q => q.1 * q.2).sum
theorem worth_i (k : Nat) (g : G) {c : List Int} (hf : ∀ f ∈ fs, Sm f) (hc : ∀ x ∈ c, Sm x) : den p (k + 1) 59 [hlD s fs, ti c] g = .ok (.int (worthL fs c)) g := by
  refine Eq.trans (den_f HC.h_worth_of rfl (by decide)) ?_
  show endR (evB p.cs (den p k) b_worth_of [.val (hlD s fs), .val (ti c), .no, .no] g) = _
  have e1 := lc_zip (cs := p.cs) (call := den p k) (elt := .bin .mul (.var 2) (.var 3)) (t := .tup [.var 2, .var 3]) (it := .zip (.idx (.var 0) (.cst (.int 1))) (.var 1)) (Γ := [.val (hlD s fs), .val (ti c), .no, .no]) (g := g) (xs := fs) (ys := c) (h := fun a b => .int (a * b))
    (by simp) (fun q hq g => by simp [o_mul (mulOk (hf _ (List.of_mem_zip hq).1) (hc _ (List.of_mem_zip hq).2))])
  have e2 : biD .sum [.lst ((fs.zip c).map fun q => D.int (q.1 * q.2))] = some (.int (worthL fs c)) := by
    simp only [biD, ints_mapf (fun q : Int × Int => q.1 * q.2), Option.map_some, worthL]
  simp [b_worth_of, e1, e2]
end
end Pk

set_option Elab.async false
set_option linter.all false
set_option maxRecDepth 100000
set_option maxHeartbeats 4000000
/-! Calls: what is sold stays within the seats; got, regret, share. -/
namespace Pk
open PySem Bk
variable {p : Pr} [HP p] [HC p]
theorem addAt_cons0 (a : Int) (l : List Int) (m : Int) : addAt (a :: l) 0 m = (a + m) :: l := by simp [addAt]
theorem addAt_consS (a : Int) (l : List Int) (n : Nat) (m : Int) : addAt (a :: l) (n + 1) m = a :: addAt l n m := by simp [addAt]
theorem addAt_sum : ∀ (l : List Int) (n : Nat) (m : Int), n < l.length → (addAt l n m).sum = l.sum + m
  | [], n, m, h => by simp at h
  | a :: l, 0, m, h => by rw [addAt_cons0]; simp; omega
  | a :: l, n + 1, m, h => by
    rw [addAt_consS]
    have := addAt_sum l n m (by simpa using h)
    simp
    omega
theorem addAt_worth : ∀ (fs l : List Int) (n : Nat) (m : Int), n < l.length → n < fs.length → worthL fs (addAt l n m) = worthL fs l + fs.getD n 0 * m
  | fs, [], n, m, h, _ => by simp at h
  | [], a :: l, n, m, _, h => by simp at h
  | f :: fs, a :: l, 0, m, _, _ => by
    rw [addAt_cons0]
    simp [worthL, Int.mul_add]
    omega
  | f :: fs, a :: l, n + 1, m, h, h2 => by
    rw [addAt_consS]
    have := addAt_worth fs l n m (by simpa using h) (by simpa using h2)
    simp [worthL] at this ⊢
    omega
theorem addAt_get : ∀ (l : List Int) (n j : Nat) (m : Int), n < l.length → (addAt l n m).getD j 0 = if j = n then l.getD n 0 + m else l.getD j 0 := by
  intro l n j m h
  unfold addAt
  rw [List.getD_eq_getElem?_getD, List.getElem?_set]
  by_cases e : n = j
  · subst e
    simp [h]
  · have : ¬ j = n := fun z => e z.symm
    simp [e, this]
theorem nn_get {l : List Int} (h : Nn l) (j : Nat) : 0 ≤ l.getD j 0 := by
  by_cases hj : j < l.length
  · exact h _ (mem_getD hj)
  · simp [List.getD_eq_getElem?_getD, List.getElem?_eq_none (Nat.le_of_not_lt hj)]
theorem nn_of {l : List Int} (h : ∀ j < l.length, 0 ≤ l.getD j 0) : Nn l := fun x hx => by
  obtain ⟨i, hi⟩ := List.getElem?_of_mem hx
  have := h i (List.getElem?_eq_some_iff.mp hi).1
  rw [List.getD_eq_getElem?_getD, hi] at this
  exact this
theorem addAt_nn {l : List Int} {n : Nat} {m : Int} (hn : n < l.length) (h : Nn l) (h2 : 0 ≤ l.getD n 0 + m) : Nn (addAt l n m) := nn_of (fun j hj => by
  rw [addAt_get l n j m hn]
  split
  · exact h2
  · exact nn_get h j)
theorem zip_find : ∀ (c : List Int) (k : Nat), ∀ l, (((c.zipIdx k).filter (fun q : Int × Nat => decide (0 < q.1))).map (·.2)).head? = some l → ∃ i, l = k + i ∧ i < c.length ∧ 0 < c.getD i 0 ∧ ∀ j < i, c.getD j 0 ≤ 0
  | [], k, l, h => by simp at h
  | a :: c, k, l, h => by
    rw [List.zipIdx_cons, List.filter_cons] at h
    by_cases ha : 0 < a
    · simp [ha] at h
      exact ⟨0, by omega, by simp, by simpa using ha, fun j hj => by omega⟩
    · simp only [ha, decide_false, Bool.false_eq_true, if_false] at h
      obtain ⟨i, h1, h2, h3, h4⟩ := zip_find c (k + 1) l h
      refine ⟨i + 1, by omega, by simp; omega, by simpa using h3, fun j hj => ?_⟩
      cases j with
      | zero => simp; omega
      | succ j => simpa using h4 j (by omega)
theorem chp_spec {c : List Int} {l : Nat} (h : chp c = some l) : l < c.length ∧ 0 < c.getD l 0 ∧ ∀ j < l, c.getD j 0 ≤ 0 := by
  obtain ⟨i, h1, h2, h3, h4⟩ := zip_find c 0 l h
  rw [show l = i by omega]
  exact ⟨h2, h3, h4⟩
/-- counts within the seats -/
structure CIn (s : Int) (n : Nat) (c : List Int) : Prop where
  len : c.length = n
  nn : Nn c
  sum : c.sum ≤ s
theorem sum_nn : ∀ {c : List Int}, Nn c → 0 ≤ c.sum
  | [], _ => by simp
  | a :: c, h => by
    have := h a List.mem_cons_self
    have := sum_nn (c := c) (fun x hx => h x (List.mem_cons_of_mem _ hx))
    simp
    omega
theorem le_sum : ∀ {c : List Int}, Nn c → ∀ x ∈ c, x ≤ c.sum
  | [], _, x, hx => by cases hx
  | a :: c, h, x, hx => by
    have h1 := h a List.mem_cons_self
    have h2 : Nn c := fun x hx => h x (List.mem_cons_of_mem _ hx)
    have h3 := sum_nn h2
    rcases List.mem_cons.mp hx with rfl | hx
    · simp; omega
    · have := le_sum h2 x hx
      simp; omega
theorem CIn.sm {s : Int} {n : Nat} {c : List Int} (h : CIn s n c) (hs : s ≤ 1000) : ∀ x ∈ c, Sm x := fun x hx => by
  have := h.nn x hx
  have := le_sum h.nn x hx
  have := h.sum
  exact sm_of (by omega) (by omega)
section
variable {s : Int} {fs : List Int}
theorem ousts_spec {r : Rl} {c : List Int} {f l : Nat} (h : ousts fs r c f = some l) : chp c = some l ∧ l < f ∧ r.fee < fs.getD f 0 - fs.getD l 0 := by
  unfold ousts at h
  split at h
  · rename_i a fee l' hc
    split at h
    · rename_i hh
      cases h
      exact ⟨hc, hh.1, hh.2⟩
    · cases h
  · cases h
theorem step_in {r : Rl} {c : List Int} {paid : Int} {f : Nat} (hc : CIn s fs.length c) (hf : f < fs.length) : CIn s fs.length (stepR s fs r c paid f).c := by
  have hl := hc.len
  unfold stepR
  split
  · rename_i hA
    refine ⟨by rw [addAt_len, hl], addAt_nn (by omega) hc.nn (by have := nn_get hc.nn f; omega), ?_⟩
    rw [addAt_sum _ _ _ (by omega)]
    omega
  · split
    · rename_i l ho
      obtain ⟨h1, h2, h3⟩ := ousts_spec ho
      obtain ⟨h4, h5, h6⟩ := chp_spec h1
      have n1 : Nn (addAt c l (-1)) := addAt_nn h4 hc.nn (by omega)
      refine ⟨by rw [addAt_len, addAt_len, hl], addAt_nn (by rw [addAt_len]; omega) n1 (by have := nn_get n1 f; omega), ?_⟩
      rw [addAt_sum _ _ _ (by rw [addAt_len]; omega), addAt_sum _ _ _ h4]
      have := hc.sum
      omega
    · exact hc
theorem step_gain (hfs : ∀ f ∈ fs, 1 ≤ f) {r : Rl} {c : List Int} {paid : Int} {f : Nat} (hc : CIn s fs.length c) (hf : f < fs.length) : worthL fs c - paid ≤ worthL fs (stepR s fs r c paid f).c - (stepR s fs r c paid f).paid := by
  have hl := hc.len
  have hff := hfs _ (mem_getD hf)
  unfold stepR
  split
  · dsimp only
    rw [addAt_worth _ _ _ _ (by omega) hf]
    omega
  · split
    · rename_i l ho
      obtain ⟨h1, h2, h3⟩ := ousts_spec ho
      obtain ⟨h4, h5, h6⟩ := chp_spec h1
      dsimp only
      rw [addAt_worth _ _ _ _ (by rw [addAt_len]; omega) hf, addAt_worth _ _ _ _ h4 (by omega)]
      omega
    · exact Int.le_refl _
theorem rep_in (hs : 0 ≤ s) (n : Nat) : CIn s n (List.replicate n 0) := ⟨by simp, fun x hx => by
  rw [(List.mem_replicate.mp hx).2]; exact Int.le_refl _, by
  have : (List.replicate n (0 : Int)).sum = 0 := by
    induction n with
    | zero => rfl
    | succ n ih => rw [List.replicate_succ, List.sum_cons, ih]; rfl
  omega⟩
theorem worth_rep : ∀ (fs : List Int) (n : Nat), worthL fs (List.replicate n 0) = 0
  | [], n => by simp [worthL]
  | f :: fs, 0 => by simp [worthL]
  | f :: fs, n + 1 => by
    have := worth_rep fs n
    simp [worthL, List.replicate_succ] at this ⊢
    exact this
structure WIn (s : Int) (fs : List Int) (x : Wy) : Prop where
  c : CIn s fs.length x.c
  gain : 0 ≤ worthL fs x.c - x.paid
  p0 : 0 ≤ x.paid
theorem wys_in (hfs : ∀ f ∈ fs, 1 ≤ f) {r : Rl} (hfee : 0 ≤ r.fee) : ∀ (row : List Nat) (x : Wy), (∀ f ∈ row, f < fs.length) → WIn s fs x → WIn s fs (row.foldl (wyStep s fs r) x)
  | [], x, _, h => h
  | f :: row, x, hr, h => by
    rw [List.foldl_cons]
    have hf := hr f List.mem_cons_self
    refine wys_in hfs hfee row _ (fun a ha => hr a (List.mem_cons_of_mem _ ha)) ⟨step_in h.c hf, ?_, ?_⟩
    · have := step_gain (r := r) (paid := x.paid) hfs h.c hf
      have := h.gain
      show 0 ≤ worthL fs (stepR s fs r x.c x.paid f).c - (stepR s fs r x.c x.paid f).paid
      omega
    · show 0 ≤ (stepR s fs r x.c x.paid f).paid
      have := h.p0
      unfold stepR
      split
      · exact h.p0
      · split
        · dsimp only; omega
        · exact h.p0
theorem wy_in (h : HOk s fs) {r : Rl} (hr : ROk s fs.length r) {row : List Nat} (hrow : RowOk fs.length row) : WIn s fs (wy s fs r row) := by
  have hs := h.s1
  refine wys_in (fun f hf => (h.f f hf).1) ?_ row _ hrow.2 ⟨rep_in (by omega) _, ?_, Int.le_refl _⟩
  · have := hr.ok
    cases r with
    | oust a fee => exact this.2.2.1
    | _ => exact Int.le_refl _
  · rw [worth_rep]
    exact Int.le_refl _
theorem seenR_in {c : List Int} {f : Nat} (hs : 1 ≤ s) (hc : CIn s fs.length c) (hf : f < fs.length) : CIn s fs.length (seenR s c f) := by
  have hl := hc.len
  have n1 : Nn (addAt c f 1) := addAt_nn (by omega) hc.nn (by have := nn_get hc.nn f; omega)
  have hsum := addAt_sum c f 1 (by omega)
  have hle := hc.sum
  unfold seenR
  split
  · rename_i hA
    exact ⟨by rw [addAt_len, hl], n1, hA⟩
  · obtain ⟨l, e⟩ := chp_some (c := addAt c f 1) (by omega)
    rw [e]
    obtain ⟨h4, h5, h6⟩ := chp_spec e
    refine ⟨by rw [addAt_len, addAt_len, hl], addAt_nn h4 n1 (by omega), ?_⟩
    dsimp only
    rw [addAt_sum _ _ _ h4]
    omega
theorem seens_in (hs : 1 ≤ s) : ∀ (row : List Nat) (c : List Int), (∀ f ∈ row, f < fs.length) → CIn s fs.length c → CIn s fs.length (row.foldl (seenR s) c)
  | [], c, _, h => h
  | f :: row, c, hr, h => by
    rw [List.foldl_cons]
    exact seens_in hs row _ (fun a ha => hr a (List.mem_cons_of_mem _ ha)) (seenR_in hs h (hr f List.mem_cons_self))
theorem seenL_in (h : HOk s fs) {row : List Nat} (hrow : RowOk fs.length row) : CIn s fs.length (seenL s fs.length row) := seens_in h.s1 row _ hrow.2 (rep_in (by have := h.s1; omega) _)
theorem HOk.fsm (h : HOk s fs) : ∀ f ∈ fs, Sm f := fun f hf => by
  have := h.f f hf
  exact sm_of (by omega) (by omega)
def gotR (s : Int) (fs : List Int) (r : Rl) (row : List Nat) : Int := worthL fs (wy s fs r row).c - (wy s fs r row).paid
def hindR (s : Int) (fs : List Int) (row : List Nat) : Int := worthL fs (seenL s fs.length row)
theorem got_l (h : HOk s fs) {r : Rl} (hr : ROk s fs.length r) (k : Nat) (g : G) {row : List Nat} (hrow : RowOk fs.length row) (x : D) (hx : den p (k + 7) 63 [hlD s fs, x] g = .ok (ti (rI row)) g) : den p (k + 9) 52 [hlD s fs, r.d, x] g = .ok (.int (gotR s fs r row)) g := by
  have e0 : den p (k + 9) 52 [hlD s fs, r.d, x] g = endR (evB p.cs (den p (k + 8)) b_got [.val (hlD s fs), .val r.d, .val x, .no, .no, .no] g) := den_f HC.h_got rfl (by decide)
  rw [e0]
  have e1 := went_l (p := p) h hr k g hrow x hx
  have w := wy_in h hr hrow
  have e2 := worth_i (p := p) (s := s) (k + 7) g h.fsm (w.c.sm (by have := h.s6; omega))
  have e3 : evB p.cs (den p (k + 8)) b_got [.val (hlD s fs), .val r.d, .val x, .no, .no, .no] g = .ok (.rt (.int (gotR s fs r row))) g := by
    unfold b_got
    refine step_nx (Γ1 := [.val (hlD s fs), .val r.d, .val x, .val (ti (wy s fs r row).c), .val (.int (wy s fs r row).paid), .val (.tup (sL (wy s fs r row).deeds))]) (g1 := g) ?_ (step_rt ?_)
    · simp only [s_asg', x_call, a_cons, a_nil, x_var, List.getElem?_cons_zero, List.getElem?_cons_succ, r_ok, e1]
      rfl
    · generalize r.d = R at *
      simp [e2, gotR]
  rw [e3]; rfl
theorem hind_l (h : HOk s fs) (k : Nat) (g : G) {row : List Nat} (hrow : RowOk fs.length row) (x : D) (hx : den p (k + 3) 63 [hlD s fs, x] g = .ok (ti (rI row)) g) : den p (k + 5) 53 [hlD s fs, x] g = .ok (.int (hindR s fs row)) g := by
  refine Eq.trans (den_f HC.h_hindsight rfl (by decide)) ?_
  show endR (evB p.cs (den p (k + 4)) b_hindsight [.val (hlD s fs), .val x] g) = _
  have e1 := seen_l (p := p) h k g hrow x hx
  have e2 := worth_i (p := p) (s := s) (k + 3) g h.fsm ((seenL_in h hrow).sm (by have := h.s6; omega))
  simp [b_hindsight, e1, e2, hindR]
theorem regret_c (h : HOk s fs) {r : Rl} (hr : ROk s fs.length r) (k : Nat) (g : G) {row : List Nat} (hrow : RowOk fs.length row) (x : D) (hx : ∀ k, den p (k + 2) 63 [hlD s fs, x] g = .ok (ti (rI row)) g) : den p (k + 10) 51 [hlD s fs, r.d, x] g = .ok (.int (hindR s fs row - gotR s fs r row)) g := by
  have e0 : den p (k + 10) 51 [hlD s fs, r.d, x] g = endR (evB p.cs (den p (k + 9)) b_regret [.val (hlD s fs), .val r.d, .val x, .no] g) := den_f HC.h_regret rfl (by decide)
  rw [e0]
  have e1 := got_l (p := p) h hr k g hrow x (hx (k + 5))
  have e2 := hind_l (p := p) h (k + 4) g hrow x (hx (k + 5))
  generalize r.d = R at *
  simp [b_regret, e1, e2]
theorem worth_bd : ∀ (fs c : List Int), (∀ f ∈ fs, 0 ≤ f ∧ f ≤ 99) → Nn c → 0 ≤ worthL fs c ∧ worthL fs c ≤ 99 * c.sum
  | [], c, _, hc => by simp [worthL]; have := sum_nn hc; omega
  | f :: fs, [], _, _ => by simp [worthL]
  | f :: fs, a :: c, hf, hc => by
    have h1 := worth_bd fs c (fun x hx => hf x (List.mem_cons_of_mem _ hx)) (fun x hx => hc x (List.mem_cons_of_mem _ hx))
    have h2 := hf f List.mem_cons_self
    have h3 := hc a List.mem_cons_self
    have h4 : f * a ≤ 99 * a := Int.mul_le_mul_of_nonneg_right h2.2 h3
    have h5 : 0 ≤ f * a := Int.mul_nonneg h2.1 h3
    simp [worthL] at h1 ⊢
    omega
theorem hind_bd (h : HOk s fs) {row : List Nat} (hrow : RowOk fs.length row) : 0 ≤ hindR s fs row ∧ hindR s fs row ≤ 600 := by
  have c := seenL_in h hrow
  have := worth_bd fs _ (fun f hf => by have := h.f f hf; omega) c.nn
  have := c.sum
  have := h.s6
  unfold hindR
  omega
theorem got_bd (h : HOk s fs) {r : Rl} (hr : ROk s fs.length r) {row : List Nat} (hrow : RowOk fs.length row) : 0 ≤ gotR s fs r row ∧ gotR s fs r row ≤ 600 := by
  have w := wy_in h hr hrow
  have := worth_bd fs _ (fun f hf => by have := h.f f hf; omega) w.c.nn
  have := w.c.sum
  have := w.p0
  have := w.gain
  have := h.s6
  unfold gotR
  omega
theorem share_c (h : HOk s fs) {r : Rl} (hr : ROk s fs.length r) (k : Nat) (g : G) {row : List Nat} (hrow : RowOk fs.length row) (x : D) (hx : ∀ k, den p (k + 2) 63 [hlD s fs, x] g = .ok (ti (rI row)) g) : den p (k + 10) 54 [hlD s fs, r.d, x] g = .ok (fracD (gotR s fs r row).toNat (hindR s fs row).toNat) g := by
  have e0 : den p (k + 10) 54 [hlD s fs, r.d, x] g = endR (evB p.cs (den p (k + 9)) b_share [.val (hlD s fs), .val r.d, .val x] g) := den_f HC.h_share rfl (by decide)
  rw [e0]
  have e1 := got_l (p := p) h hr k g hrow x (hx (k + 5))
  have e2 := hind_l (p := p) h (k + 4) g hrow x (hx (k + 5))
  have b1 := got_bd h hr hrow
  have b2 := hind_bd h hrow
  have e3 := fraction_i (p := p) (k + 7) (gotR s fs r row).toNat (hindR s fs row).toNat g (by omega)
  rw [Int.toNat_of_nonneg b1.1, Int.toNat_of_nonneg b2.1] at e3
  generalize r.d = R at *
  simp [b_share, e1, e2, e3]
end
end Pk

set_option Elab.async false
set_option linter.all false
namespace Pk
open PySem Bk
class H03 (p : Bk.Pr) : Prop where
  h__law_yard : p.ds.lookup 46 = some Bk.f__law_yard.2
  h__law_book : p.ds.lookup 47 = some Bk.f__law_book.2
  h__law_bare : p.ds.lookup 48 = some Bk.f__law_bare.2
  h__law_dearest : p.ds.lookup 49 = some Bk.f__law_dearest.2
  h__law_like_50 : p.ds.lookup 50 = some Bk.f__law_like_50.2
  h__law_step : p.ds.lookup 55 = some Bk.f__law_step.2
  h__law_lets : p.ds.lookup 56 = some Bk.f__law_lets.2
  h__law_sum : p.ds.lookup 57 = some Bk.f__law_sum.2
  h__law_lowest : p.ds.lookup 66 = some Bk.f__law_lowest.2
end Pk

set_option Elab.async false
set_option linter.all false
set_option maxRecDepth 100000
set_option maxHeartbeats 4000000
/-! k03: the law's own going along. -/
namespace Pk
open PySem Bk
variable {p : Pr} [HP p] [HC p] [H03 p]
section
variable {s : Int} {fs : List Int}
theorem sl_take_l (l : List Int) (k : Nat) : slD (li l) none (some (k : Int)) = some (li (l.take k)) := by
  have h : ¬ ((k : Int) < 0) := by omega
  simp only [li, sl_lst, cutD, sIxD, h, if_false, List.drop_zero, Nat.sub_zero, List.length_map, Int.toNat_natCast]
  rw [← List.map_take, List.take_eq_take_min (i := k)]
theorem take_addAt : ∀ (c : List Int) (f k : Nat) (m : Int), f < c.length → f < k → ((addAt c f m).take k).sum = (c.take k).sum + m
  | [], f, k, m, h, _ => by simp at h
  | a :: c, 0, k + 1, m, _, _ => by rw [addAt_cons0]; simp; omega
  | a :: c, f + 1, 0, m, _, h => by omega
  | a :: c, 0, 0, m, _, h => by omega
  | a :: c, f + 1, k + 1, m, h, h2 => by
    rw [addAt_consS]
    have := take_addAt c f k m (by simpa using h) (by omega)
    simp
    omega
theorem more_eq (c : List Int) (f : Nat) (hf : f < c.length) : ((List.range c.length).map fun i : Nat => c.getD i 0 + (if i = f then 1 else 0)) = addAt c f 1 := by
  apply List.ext_getElem?
  intro i
  by_cases hi : i < c.length
  · have h1 : (addAt c f 1)[i]? = some ((addAt c f 1).getD i 0) := by
      rw [List.getD_eq_getElem?_getD, List.getElem?_eq_getElem (by rw [addAt_len]; exact hi)]
      rfl
    rw [h1, addAt_get c f i 1 hf, List.getElem?_map, List.getElem?_range hi]
    simp only [Option.map_some]
    congr 1
    split
    · rename_i e; rw [e]
    · omega
  · rw [List.getElem?_eq_none (by simp; omega), List.getElem?_eq_none (by rw [addAt_len]; omega)]
theorem int_eq (a b : Nat) : biD .int [.bl (decide ((a : Int) = (b : Int)))] = some (.int (if a = b then 1 else 0)) := by
  by_cases h : a = b
  · subst h
    simp [biD]
  · have : ¬ ((a : Int) = (b : Int)) := by omega
    simp [biD, h, this]
theorem fil_nst (l c : List Int) (f : Nat) (hf : f < c.length) : ((List.range (c.length - f)).filter fun i => decide (l.getD (f + i) 0 < ((addAt c f 1).take (f + i + 1)).sum)).isEmpty = nst l c f := by
  unfold nst
  rw [Bool.eq_iff_iff, List.isEmpty_iff, List.filter_eq_nil_iff, List.all_eq_true]
  constructor
  · intro h i hi
    have := h i hi
    rw [take_addAt c f _ 1 hf (by omega)] at this
    simp only [decide_eq_true_eq] at this ⊢
    omega
  · intro h i hi
    have := h i hi
    rw [take_addAt c f _ 1 hf (by omega)]
    simp only [decide_eq_true_eq] at this ⊢
    omega
theorem llets_i {c : List Int} {f : Nat} (hc : c.length = fs.length) (hf : f < fs.length) (h4 : fs.length ≤ 1000) : ∀ (r : Rl) (o : Bool) (n : Nat) (g : G), r.Ok s fs.length o → r.deep + 1 ≤ n → den p n 56 [hlD s fs, r.d, ti c, .int (f : Int)] g = .ok (.bl (r.lets s c f)) g := by
  intro r
  induction r with
  | apart l =>
    intro o n g hr hn
    obtain ⟨n, rfl⟩ : ∃ m, n = m + 1 := ⟨n - 1, by omega⟩
    refine Eq.trans (den_f H03.h__law_lets rfl (by decide)) ?_
    show endR (evB p.cs (den p n) b__law_lets [.val (hlD s fs), .val (Rl.apart l).d, .val (ti c), .val (.int (f : Int)), .no, .no, .no] g) = _
    have e0 : idxD (Rl.apart l).d (.int 0) = some (.str "apart") := rfl
    have i1 : idxD (Rl.apart l).d (.int 1) = some (ti l) := rfl
    have c1 : cmpD .eq (.str "apart") (.str "all") = some false := rfl
    have c2 : cmpD .eq (.str "apart") (.str "any") = some false := rfl
    have c3 : cmpD .eq (.str "apart") (.str "oust") = some false := rfl
    have c4 : cmpD .eq (.str "apart") (.str "apart") = some true := rfl
    have e1 := ix_t (l := c) (j := f) (by omega)
    have e3 := ix_t (l := l) (j := f) (by rw [hr.1]; exact hf)
    simp only [Rl.lets]
    generalize (Rl.apart l).d = R at *
    generalize c.getD f 0 = x at *
    generalize l.getD f 0 = y at *
    simp [b__law_lets, e0, c1, c2, c3, c4, i1, e1, e3, -c_eqs]
    omega
  | kept l =>
    intro o n g hr hn
    obtain ⟨n, rfl⟩ : ∃ m, n = m + 1 := ⟨n - 1, by omega⟩
    refine Eq.trans (den_f H03.h__law_lets rfl (by decide)) ?_
    show endR (evB p.cs (den p n) b__law_lets [.val (hlD s fs), .val (Rl.kept l).d, .val (ti c), .val (.int (f : Int)), .no, .no, .no] g) = _
    have e0 : idxD (Rl.kept l).d (.int 0) = some (.str "kept") := rfl
    have i1 : idxD (Rl.kept l).d (.int 1) = some (ti l) := rfl
    have c1 : cmpD .eq (.str "kept") (.str "all") = some false := rfl
    have c2 : cmpD .eq (.str "kept") (.str "any") = some false := rfl
    have c3 : cmpD .eq (.str "kept") (.str "oust") = some false := rfl
    have c4 : cmpD .eq (.str "kept") (.str "apart") = some false := rfl
    have c5 : cmpD .eq (.str "kept") (.str "kept") = some true := rfl
    have e1 := sum_ti c
    have e3 := ix_t (l := l) (j := f) (by rw [hr.1]; exact hf)
    simp only [Rl.lets]
    generalize (Rl.kept l).d = R at *
    generalize l.getD f 0 = y at *
    simp [b__law_lets, e0, c1, c2, c3, c4, c5, i1, e1, e3, -c_eqs]
    omega
  | nested l =>
    intro o n g hr hn
    obtain ⟨n, rfl⟩ : ∃ m, n = m + 1 := ⟨n - 1, by omega⟩
    refine Eq.trans (den_f H03.h__law_lets rfl (by decide)) ?_
    show endR (evB p.cs (den p n) b__law_lets [.val (hlD s fs), .val (Rl.nested l).d, .val (ti c), .val (.int (f : Int)), .no, .no, .no] g) = _
    have e0 : idxD (Rl.nested l).d (.int 0) = some (.str "nested") := rfl
    have i1 : idxD (Rl.nested l).d (.int 1) = some (ti l) := rfl
    have c1 : cmpD .eq (.str "nested") (.str "all") = some false := rfl
    have c2 : cmpD .eq (.str "nested") (.str "any") = some false := rfl
    have c3 : cmpD .eq (.str "nested") (.str "oust") = some false := rfl
    have c4 : cmpD .eq (.str "nested") (.str "apart") = some false := rfl
    have c5 : cmpD .eq (.str "nested") (.str "kept") = some false := rfl
    have hcl : c.length ≤ 1000 := by omega
    have hm := lc_map (cs := p.cs) (call := den p n) (elt := (.bin .add (.idx (.var 2) (.var 6)) (.bi .int (.cons (.cmp .eq (.var 6) (.var 3)) .nil)))) (t := .var 6) (it := .rng1 (.bi .len (.cons (.var 2) .nil))) (Γ := [.val (hlD s fs), .val (Rl.nested l).d, .val (ti c), .val (.int (f : Int)), .no, .no, .no]) (g := g) (l := List.range c.length) (enc := fun i : Nat => .int ((0 : Int) + (i : Int))) (h := fun i => .int (c.getD i 0 + (if i = f then 1 else 0)))
      (by
        rw [rng1_i (i := (c.length : Int)) (by simp) (by omega), rngD_map]
        rfl) (fun i hi g => by
        have hi' := List.mem_range.mp hi
        have a1 := ix_t (l := c) (j := i) hi'
        have a2 := int_eq i f
        generalize c.getD i 0 = x at *
        simp only [Int.zero_add]
        simp [a1, a2])
    have hme : D.lst ((List.range c.length).map fun i : Nat => D.int (c.getD i 0 + (if i = f then 1 else 0))) = li (addAt c f 1) := by
      rw [← more_eq c f (by omega)]
      simp [li]
    rw [hme] at hm
    have hf2 := lc_filter (cs := p.cs) (call := den p n) (elt := .var 6) (cond := (.cmp .gt (.bi .sum (.cons (.sl (.var 4) none (some (.bin .add (.var 6) (.cst (.int 1))))) .nil)) (.idx (.idx (.var 1) (.cst (.int 1))) (.var 6)))) (t := .var 6) (it := .rng2 (.var 3) (.bi .len (.cons (.var 2) .nil))) (Γ := [.val (hlD s fs), .val (Rl.nested l).d, .val (ti c), .val (.int (f : Int)), .val (li (addAt c f 1)), .no, .no]) (g := g) (l := List.range (c.length - f)) (enc := fun i : Nat => .int ((f : Int) + (i : Int))) (h := fun i => .int ((f : Int) + (i : Int))) (c := fun i => decide (l.getD (f + i) 0 < ((addAt c f 1).take (f + i + 1)).sum))
      (by
        rw [rng2_i (i := (f : Int)) (j := (c.length : Int)) (by simp) (by simp) (by omega) (by omega), rngD_map]
        congr 3
        omega) (fun i hi g => by
        have hi' := List.mem_range.mp hi
        have a1 := sl_take_l (addAt c f 1) (f + i + 1)
        have a2 := sum_li ((addAt c f 1).take (f + i + 1))
        have a3 := ix_t (l := l) (j := f + i) (by rw [hr.1.1]; omega)
        rw [show ((f + i + 1 : Nat) : Int) = (f : Int) + (i : Int) + 1 by omega] at a1
        rw [show ((f + i : Nat) : Int) = (f : Int) + (i : Int) by omega] at a3
        generalize l.getD (f + i) 0 = y at *
        generalize (addAt c f 1).take (f + i + 1) = T at *
        generalize (Rl.nested l).d = R at *
        simp [a1, a2, a3, i1]) (fun i hi hc g => by simp)
    have e5 := eq_nil_l (((List.range (c.length - f)).filter fun i => decide (l.getD (f + i) 0 < ((addAt c f 1).take (f + i + 1)).sum)).map fun i : Nat => (f : Int) + (i : Int))
    have e6 : D.lst (((List.range (c.length - f)).filter fun i => decide (l.getD (f + i) 0 < ((addAt c f 1).take (f + i + 1)).sum)).map fun i : Nat => D.int ((f : Int) + (i : Int))) = li (((List.range (c.length - f)).filter fun i => decide (l.getD (f + i) 0 < ((addAt c f 1).take (f + i + 1)).sum)).map fun i : Nat => (f : Int) + (i : Int)) := by simp [li]
    rw [e6] at hf2
    rw [List.isEmpty_map, fil_nst l c f (by omega)] at e5
    simp only [Rl.lets]
    generalize li (((List.range (c.length - f)).filter fun i => decide (l.getD (f + i) 0 < ((addAt c f 1).take (f + i + 1)).sum)).map fun i : Nat => (f : Int) + (i : Int)) = X at *
    generalize (Rl.nested l).d = R at *
    simp [b__law_lets, e0, c1, c2, c3, c4, c5, hm, hf2, e5, -c_eqs]
  | all a b iha ihb =>
    intro o n g hr hn
    simp only [Rl.deep] at hn
    obtain ⟨n, rfl⟩ : ∃ m, n = m + 1 := ⟨n - 1, by omega⟩
    refine Eq.trans (den_f H03.h__law_lets rfl (by decide)) ?_
    show endR (evB p.cs (den p n) b__law_lets [.val (hlD s fs), .val (Rl.all a b).d, .val (ti c), .val (.int (f : Int)), .no, .no, .no] g) = _
    have ea := iha false n g hr.1 (by omega)
    have eb := ihb false n g hr.2 (by omega)
    have e0 := rl_0 (.all a b)
    have e1 := eqAll (.all a b)
    have i1 : idxD (Rl.all a b).d (.int 1) = some a.d := rfl
    have i2 : idxD (Rl.all a b).d (.int 2) = some b.d := rfl
    simp only [Rl.lets]
    generalize (Rl.all a b).d = R at *
    generalize (Rl.all a b).wd = W at *
    generalize a.d = A at *
    generalize b.d = B at *
    cases ha : a.lets s c f <;> simp [b__law_lets, e0, e1, i1, i2, ea, eb, ha]
  | any a b iha ihb =>
    intro o n g hr hn
    simp only [Rl.deep] at hn
    obtain ⟨n, rfl⟩ : ∃ m, n = m + 1 := ⟨n - 1, by omega⟩
    refine Eq.trans (den_f H03.h__law_lets rfl (by decide)) ?_
    show endR (evB p.cs (den p n) b__law_lets [.val (hlD s fs), .val (Rl.any a b).d, .val (ti c), .val (.int (f : Int)), .no, .no, .no] g) = _
    have ea := iha false n g hr.1 (by omega)
    have eb := ihb false n g hr.2 (by omega)
    have e0 := rl_0 (.any a b)
    have e1 := eqAll (.any a b)
    have e2 := eqAny (.any a b)
    have i1 : idxD (Rl.any a b).d (.int 1) = some a.d := rfl
    have i2 : idxD (Rl.any a b).d (.int 2) = some b.d := rfl
    simp only [Rl.lets]
    generalize (Rl.any a b).d = R at *
    generalize (Rl.any a b).wd = W at *
    generalize a.d = A at *
    generalize b.d = B at *
    cases ha : a.lets s c f <;> simp [b__law_lets, e0, e1, e2, i1, i2, ea, eb, ha]
  | oust a fee iha =>
    intro o n g hr hn
    simp only [Rl.deep] at hn
    obtain ⟨n, rfl⟩ : ∃ m, n = m + 1 := ⟨n - 1, by omega⟩
    refine Eq.trans (den_f H03.h__law_lets rfl (by decide)) ?_
    show endR (evB p.cs (den p n) b__law_lets [.val (hlD s fs), .val (Rl.oust a fee).d, .val (ti c), .val (.int (f : Int)), .no, .no, .no] g) = _
    have ea := iha false n g hr.2.1 (by omega)
    have e0 := rl_0 (.oust a fee)
    have e1 := eqAll (.oust a fee)
    have e2 := eqAny (.oust a fee)
    have e3 := eqO (.oust a fee)
    have i1 : idxD (Rl.oust a fee).d (.int 1) = some a.d := rfl
    simp only [Rl.lets]
    generalize (Rl.oust a fee).d = R at *
    generalize (Rl.oust a fee).wd = W at *
    generalize a.d = A at *
    simp [b__law_lets, e0, e1, e2, e3, i1, ea, Rl.isO]
end
end Pk

set_option Elab.async false
set_option linter.all false
set_option maxRecDepth 100000
set_option maxHeartbeats 4000000
/-! k03: the law's own step, sums, fractions. -/
namespace Pk
open PySem Bk
variable {p : Pr} [HP p] [HC p] [H03 p]
section
variable {s : Int} {fs : List Int}
def lessL (c : List Int) (f : Nat) : List Nat := (List.range f).filter fun k => decide (0 < c.getD k 0)
theorem head_filter {l : Nat} (P : Nat → Bool) : ∀ (n : Nat), ((List.range n).filter P).head? = some l ↔ (l < n ∧ P l = true ∧ ∀ j < l, P j = false)
  | 0 => by simp
  | n + 1 => by
    rw [List.range_succ, List.filter_append, List.head?_append]
    have ih := head_filter (l := l) P n
    cases h : ((List.range n).filter P).head? with
    | some a =>
      rw [h] at ih
      simp only [Option.some_or]
      constructor
      · intro e
        obtain ⟨h1, h2, h3⟩ := ih.mp e
        exact ⟨by omega, h2, h3⟩
      · rintro ⟨h1, h2, h3⟩
        have ha := (head_filter (l := a) P n).mp h
        by_cases hl : l < n
        · exact ih.mpr ⟨hl, h2, h3⟩
        · have := h3 a (by omega)
          rw [ha.2.1] at this
          cases this
    | none =>
      simp only [Option.none_or]
      have hn : ∀ j < n, P j = false := by
        intro j hj
        have := List.head?_eq_none_iff.mp h
        have := List.filter_eq_nil_iff.mp this j (List.mem_range.mpr hj)
        simpa using this
      cases hp : P n with
      | false =>
        simp [hp]
        intro h1 h2
        by_cases hl : l < n
        · rw [hn l hl] at h2; cases h2
        · rw [show l = n by omega, hp] at h2; cases h2
      | true =>
        simp [hp]
        constructor
        · rintro rfl
          exact ⟨by omega, hp, hn⟩
        · rintro ⟨h1, h2, h3⟩
          apply Nat.le_antisymm
          · apply Nat.le_of_not_lt
            intro hc
            rw [hn l hc] at h2
            cases h2
          · omega
theorem chp_none {c : List Int} (h : chp c = none) : ∀ j, c.getD j 0 ≤ 0 := by
  intro j
  apply Int.not_lt.mp
  intro hc
  have hj : j < c.length := by
    apply Nat.lt_of_not_le
    intro z
    rw [List.getD_eq_getElem?_getD, List.getElem?_eq_none z] at hc
    simp at hc
  have hm : (c.getD j 0, j) ∈ c.zipIdx := by
    rw [List.mem_zipIdx_iff_getElem?]
    simp [hj]
  have : j ∈ posL c := List.mem_map.mpr ⟨_, List.mem_filter.mpr ⟨hm, by simpa using hc⟩, rfl⟩
  unfold chp at h
  rw [List.head?_eq_none_iff] at h
  rw [h] at this
  cases this
/-- the first of less is the cheapest, if that is cheaper than the call -/
theorem less_head (c : List Int) (f : Nat) : (lessL c f).head? = (match chp c with | some l => if l < f then some l else none | none => none) := by
  cases h : chp c with
  | none =>
    have hn := chp_none h
    rw [List.head?_eq_none_iff]
    apply List.filter_eq_nil_iff.mpr
    intro j _
    have := hn j
    simp only [decide_eq_true_eq]
    omega
  | some l =>
    obtain ⟨h1, h2, h3⟩ := chp_spec h
    by_cases hl : l < f
    · simp only [hl, if_true]
      exact (head_filter _ f).mpr ⟨hl, by simpa using h2, fun j hj => by
        have := h3 j hj
        simp only [decide_eq_false_iff_not]
        omega⟩
    · simp only [hl, if_false]
      rw [List.head?_eq_none_iff]
      apply List.filter_eq_nil_iff.mpr
      intro j hj
      have := h3 j (by have := List.mem_range.mp hj; omega)
      simp only [decide_eq_true_eq]
      omega
theorem idxO_l {l : List Int} {j : Nat} (h : j < l.length) : atD (l.map D.int) (j : Int) = some (.int (l.getD j 0)) := by simp [atD, h]
theorem ixD_l {n j : Nat} (h : j < n) : ixD n (j : Int) = some j := by
  have h0 : (0 : Int) ≤ (j : Int) := by omega
  simp [ixD, h0, h]
theorem set_add (l : List Int) (j : Nat) (m : Int) : (l.map D.int).set j (.int (l.getD j 0 + m)) = (addAt l j m).map D.int := by
  simp [addAt, List.map_set]
theorem lstep_i (h : HOk s fs) {r : Rl} (hr : ROk s fs.length r) {c : List Int} {f : Nat} (hc : c.length = fs.length) (hf : f < fs.length) (k : Nat) (paid : Int) (g : G) :
    den p (k + 6) 55 [hlD s fs, r.d, ti c, .int paid, .int (f : Int)] g = .ok (stepR s fs r c paid f).d g := by
  have h4 := h.f4
  have hd := hr.d
  have e00 : den p (k + 6) 55 [hlD s fs, r.d, ti c, .int paid, .int (f : Int)] g = endR (evB p.cs (den p (k + 5)) b__law_step [.val (hlD s fs), .val r.d, .val (ti c), .val (.int paid), .val (.int (f : Int)), .no, .no, .no] g) := den_f H03.h__law_step rfl (by decide)
  rw [e00]
  have el := llets_i (p := p) (s := s) (fs := fs) hc hf (by omega) r true (k + 5) g hr.ok (by omega)
  have es := sum_ti c
  have e0 := rl_0 r
  have e3 := eqO r
  have st0 : evS p.cs (den p (k + 5)) (.own 5 (.bi .list (.cons (.var 2) .nil))) [.val (hlD s fs), .val r.d, .val (ti c), .val (.int paid), .val (.int (f : Int)), .no, .no, .no] g = .ok (.nx [.val (hlD s fs), .val r.d, .val (ti c), .val (.int paid), .val (.int (f : Int)), .own (li c), .no, .no]) g := by
    rw [s_own']
    simp only [x_bi, a_cons, a_nil, x_var, List.getElem?_cons_zero, List.getElem?_cons_succ, r_ok]
    rfl
  have fin : evB p.cs (den p (k + 5)) b__law_step [.val (hlD s fs), .val r.d, .val (ti c), .val (.int paid), .val (.int (f : Int)), .no, .no, .no] g = .ok (.rt (stepR s fs r c paid f).d) g := by
    unfold b__law_step stepR
    refine step_nx st0 ?_
    have tl : ∀ l : List Int, biD .tuple [li l] = some (ti l) := fun _ => rfl
    have hfl : f < c.length := by omega
    by_cases hA : c.sum < s ∧ r.lets s c f = true
    · rw [if_pos hA]
      obtain ⟨a1, a2⟩ := hA
      rw [a2] at el
      have o1 := idxO_l hfl
      have o2 := ixD_l hfl
      have o3 := set_add c f 1
      refine step_rt ?_
      rw [s_ife']
      have cond : evE p.cs (den p (k + 5)) (.and (.cmp .lt (.bi .sum (.cons (.var 2) .nil)) (.idx (.var 0) (.cst (.int 0)))) (.call 56 (.cons (.var 0) (.cons (.var 1) (.cons (.var 2) (.cons (.var 4) .nil)))))) [.val (hlD s fs), .val r.d, .val (ti c), .val (.int paid), .val (.int (f : Int)), .own (li c), .no, .no] g = .ok (.bl true) g := by
        generalize r.d = R at *
        simp [es, a1, el]
      rw [cond, b_ok, r_ok, if_pos rfl]
      refine step_nx (Γ1 := [.val (hlD s fs), .val r.d, .val (ti c), .val (.int paid), .val (.int (f : Int)), .own (li (addAt c f 1)), .no, .no]) (g1 := g) ?_ (step_nx (Γ1 := [.val (hlD s fs), .val r.d, .val (ti c), .val (.int paid), .val (.int (f : Int)), .val (li (addAt c f 1)), .no, .no]) (g1 := g) (by rw [s_frz']; rfl) (step_rt ?_))
      · rw [s_sto']
        simp only [li, x_bin, x_idxO, ix_lst, x_var, x_cst, List.getElem?_cons_zero, List.getElem?_cons_succ, r_ok, o1, l_some, o_add, List.length_map, o2, o3]
        rfl
      · have := tl (addAt c f 1)
        generalize li (addAt c f 1) = X at *
        generalize r.d = R at *
        simp [this, Stt.d]
    · rw [if_neg hA]
      have cond : evE p.cs (den p (k + 5)) (.and (.cmp .lt (.bi .sum (.cons (.var 2) .nil)) (.idx (.var 0) (.cst (.int 0)))) (.call 56 (.cons (.var 0) (.cons (.var 1) (.cons (.var 2) (.cons (.var 4) .nil)))))) [.val (hlD s fs), .val r.d, .val (ti c), .val (.int paid), .val (.int (f : Int)), .own (li c), .no, .no] g = .ok (.bl false) g := by
        by_cases a1 : c.sum < s
        · have a2 : r.lets s c f = false := by
            cases hh : r.lets s c f with
            | false => rfl
            | true => exact absurd ⟨a1, hh⟩ hA
          rw [a2] at el
          generalize r.d = R at *
          simp [es, a1, el]
        · generalize r.d = R at *
          simp [es, a1]
      refine step_nx (Γ1 := [.val (hlD s fs), .val r.d, .val (ti c), .val (.int paid), .val (.int (f : Int)), .own (li c), .no, .no]) (g1 := g) (by rw [s_ife', cond]; rfl) ?_
      have hle := lc_filter (cs := p.cs) (call := den p (k + 5)) (elt := .var 7) (cond := (.cmp .gt (.idx (.var 2) (.var 7)) (.cst (.int 0)))) (t := .var 7) (it := .rng1 (.var 4)) (Γ := [.val (hlD s fs), .val r.d, .val (ti c), .val (.int paid), .val (.int (f : Int)), .own (li c), .no, .no]) (g := g) (l := List.range f) (enc := fun i : Nat => .int ((0 : Int) + (i : Int))) (h := fun i => .int ((0 : Int) + (i : Int))) (c := fun i => decide (0 < c.getD i 0))
        (by
          rw [rng1_i (i := (f : Int)) (by simp) (by omega), rngD_map]
          rfl) (fun i hi g => by
          have hi' := List.mem_range.mp hi
          have a1 := ix_t (l := c) (j := i) (by omega)
          generalize c.getD i 0 = x at *
          simp only [Int.zero_add]
          simp [a1]) (fun i hi hc g => by simp)
      have hl2 : D.lst (((List.range f).filter fun i => decide (0 < c.getD i 0)).map fun i : Nat => D.int ((0 : Int) + (i : Int))) = li ((lessL c f).map fun i : Nat => (i : Int)) := by simp [li, lessL]
      rw [hl2] at hle
      refine step_nx (Γ1 := [.val (hlD s fs), .val r.d, .val (ti c), .val (.int paid), .val (.int (f : Int)), .own (li c), .val (li ((lessL c f).map fun i : Nat => (i : Int))), .no]) (g1 := g) (by rw [s_asg', hle]; rfl) ?_
      have hnn := ne_nil_l ((lessL c f).map fun i : Nat => (i : Int))
      have hh := less_head c f
      cases hO : r.isO with
      | false =>
        have ho : ousts fs r c f = none := by unfold ousts; cases r <;> first | rfl | cases hO
        rw [ho]
        generalize r.d = R at *
        generalize li ((lessL c f).map fun i : Nat => (i : Int)) = X at *
        simp [e0, e3, hO, Stt.d]
      | true =>
        cases r with
        | oust a fee =>
          have i2 : idxD (Rl.oust a fee).d (.int 2) = some (.int fee) := rfl
          have ho : ousts fs (.oust a fee) c f = (match (lessL c f).head? with | some l => if fee < fs.getD f 0 - fs.getD l 0 then some l else none | none => none) := by
            rw [hh]
            unfold ousts
            cases chp c with
            | none => rfl
            | some l =>
              by_cases hl : l < f
              · simp [hl]
              · simp [hl]
          rw [ho]
          have hfee : (Rl.oust a fee).fee = fee := rfl
          rw [hfee]
          cases hL : lessL c f with
          | nil =>
            rw [hL] at hnn
            simp only [List.map_nil, List.isEmpty_nil, Bool.not_true, List.head?_nil] at hnn ⊢
            generalize (Rl.oust a fee).d = R at *
            generalize (Rl.oust a fee).wd = W at *
            simp [e0, e3, hO, hnn, Stt.d]
          | cons l r' =>
            rw [hL] at hnn hh
            have hlm : l ∈ lessL c f := by rw [hL]; exact List.mem_cons_self
            have hlf : l < f := List.mem_range.mp (List.mem_filter.mp hlm).1
            have ixX : idxD (li ((l :: r').map fun i : Nat => (i : Int))) (.int 0) = some (.int (l : Int)) := rfl
            have ef := ix_t (l := fs) (j := f) hf
            have ef2 := ix_t (l := fs) (j := l) (by omega)
            simp only [List.head?_cons]
            generalize li ((l :: r').map fun i : Nat => (i : Int)) = X at *
            by_cases c2 : fee < fs.getD f 0 - fs.getD l 0
            · rw [if_pos c2]
              dsimp only
              have c3 : fs.getD l 0 + fee < fs.getD f 0 := by omega
              refine step_rt ?_
              have cond2 : evE p.cs (den p (k + 5)) (.and (.cmp .eq (.idx (.var 1) (.cst (.int 0))) (.cst (.str "oust"))) (.and (.cmp .ne (.var 6) (.lst .nil)) (.cmp .gt (.idx (.idx (.var 0) (.cst (.int 1))) (.var 4)) (.bin .add (.idx (.idx (.var 0) (.cst (.int 1))) (.idx (.var 6) (.cst (.int 0)))) (.idx (.var 1) (.cst (.int 2))))))) [.val (hlD s fs), .val (Rl.oust a fee).d, .val (ti c), .val (.int paid), .val (.int (f : Int)), .own (li c), .val X, .no] g = .ok (.bl true) g := by
                clear ho c2
                generalize (Rl.oust a fee).d = R at *
                generalize (Rl.oust a fee).wd = W at *
                generalize fs.getD f 0 = x at *
                generalize fs.getD l 0 = y at *
                simp [e0, e3, hO, hnn, ixX, ef, ef2, i2, c3]
              rw [s_ife', cond2, b_ok, r_ok, if_pos rfl]
              have o1 := idxO_l (l := c) (j := l) (by omega)
              have o2 := ixD_l (n := c.length) (j := l) (by omega)
              have o3 := set_add c l (-1)
              have p1 := idxO_l (l := addAt c l (-1)) (j := f) (by rw [addAt_len]; omega)
              have p2 := ixD_l (n := c.length) (j := f) (by omega)
              have p3 := set_add (addAt c l (-1)) f 1
              refine step_nx (Γ1 := [.val (hlD s fs), .val (Rl.oust a fee).d, .val (ti c), .val (.int paid), .val (.int (f : Int)), .own (li (addAt c l (-1))), .val X, .no]) (g1 := g) ?_ (step_nx (Γ1 := [.val (hlD s fs), .val (Rl.oust a fee).d, .val (ti c), .val (.int paid), .val (.int (f : Int)), .own (li (addAt (addAt c l (-1)) f 1)), .val X, .no]) (g1 := g) ?_ (step_nx (Γ1 := [.val (hlD s fs), .val (Rl.oust a fee).d, .val (ti c), .val (.int paid), .val (.int (f : Int)), .val (li (addAt (addAt c l (-1)) f 1)), .val X, .no]) (g1 := g) (by rw [s_frz']; rfl) (step_rt ?_)))
              · rw [s_sto']
                simp only [li, x_bin, x_idxO, ix_lst, x_idx, x_var, x_cst, List.getElem?_cons_zero, List.getElem?_cons_succ, r_ok, ixX, l_some, o1, o_sub, List.length_map, o2, Int.sub_eq_add_neg, o3]
                rfl
              · rw [s_sto']
                simp only [li, x_bin, x_idxO, ix_lst, x_var, x_cst, List.getElem?_cons_zero, List.getElem?_cons_succ, r_ok, p1, l_some, o_add, List.length_map, addAt_len, p2, p3]
                rfl
              · have := tl (addAt (addAt c l (-1)) f 1)
                generalize li (addAt (addAt c l (-1)) f 1) = Y at *
                generalize (Rl.oust a fee).d = R at *
                simp [this, i2, Stt.d]
            · rw [if_neg c2]
              dsimp only
              have c3 : ¬ (fs.getD l 0 + fee < fs.getD f 0) := by omega
              clear ho c2
              generalize (Rl.oust a fee).d = R at *
              generalize (Rl.oust a fee).wd = W at *
              generalize fs.getD f 0 = x at *
              generalize fs.getD l 0 = y at *
              simp [e0, e3, hO, hnn, ixX, ef, ef2, i2, c3, Stt.d]
        | _ => cases hO
  rw [fin]
  rfl
end
end Pk

set_option Elab.async false
set_option linter.all false
set_option maxRecDepth 100000
set_option maxHeartbeats 4000000
/-! k03: the dearest calls by sorting. -/
namespace Pk
open PySem Bk
def cntN (b : List Int) (k : Nat) : Int := ((b.filter fun x => decide (x = (k : Int))).length : Int)
def cntL (n : Nat) (b : List Int) : List Int := (List.range n).map (cntN b)
theorem cntL_len (n : Nat) (b : List Int) : (cntL n b).length = n := by simp [cntL]
theorem cntL_get {n : Nat} (b : List Int) {j : Nat} (hj : j < n) : (cntL n b).getD j 0 = cntN b j := by
  simp [cntL, hj]
theorem cntN_perm {b b' : List Int} (h : b.Perm b') (k : Nat) : cntN b k = cntN b' k := by
  unfold cntN
  rw [(h.filter _).length_eq]
theorem cntL_perm {n : Nat} {b b' : List Int} (h : b.Perm b') : cntL n b = cntL n b' := by
  unfold cntL
  congr 1
  funext k
  exact cntN_perm h k
theorem getD_ext {a b : List Int} (hl : a.length = b.length) (h : ∀ j < a.length, a.getD j 0 = b.getD j 0) : a = b := by
  apply List.ext_getElem? 
  intro i
  by_cases hi : i < a.length
  · have := h i hi
    rw [List.getD_eq_getElem?_getD, List.getD_eq_getElem?_getD, List.getElem?_eq_getElem hi, List.getElem?_eq_getElem (by omega)] at this
    simp only [Option.getD_some] at this
    rw [List.getElem?_eq_getElem hi, List.getElem?_eq_getElem (by omega), this]
  · rw [List.getElem?_eq_none (by omega), List.getElem?_eq_none (by omega)]
theorem cntL_cons {n : Nat} {x : Int} {b : List Int} (h0 : 0 ≤ x) (h1 : x < n) : cntL n (x :: b) = addAt (cntL n b) x.toNat 1 := by
  have hx : x.toNat < n := by omega
  apply getD_ext
  · rw [addAt_len, cntL_len, cntL_len]
  · intro j hj
    rw [cntL_len] at hj
    rw [addAt_get _ _ _ _ (by rw [cntL_len]; exact hx), cntL_get _ hj, cntL_get _ hx, cntL_get _ hj]
    unfold cntN
    rw [List.filter_cons]
    by_cases e : j = x.toNat
    · have e2 : x = (j : Int) := by omega
      rw [if_pos e, ← e]
      simp [e2]
    · have e2 : ¬ x = (j : Int) := by omega
      rw [if_neg e]
      simp [e2]
theorem cntL_nil (n : Nat) : cntL n [] = List.replicate n 0 := by
  apply getD_ext
  · simp [cntL]
  · intro j hj
    rw [cntL_len] at hj
    rw [cntL_get _ hj]
    simp [cntN, hj]
def InR (n : Nat) (b : List Int) : Prop := ∀ x ∈ b, 0 ≤ x ∧ x < n
theorem cntL_sum {n : Nat} : ∀ {b : List Int}, InR n b → (cntL n b).sum = b.length
  | [], _ => by
    have := rep_in (s := 0) (by decide) n
    rw [cntL_nil]
    have h1 := this.sum
    have h2 := sum_nn this.nn
    rw [List.length_nil]
    omega
  | x :: b, h => by
    have hx := h x List.mem_cons_self
    have ih := cntL_sum (b := b) (fun y hy => h y (List.mem_cons_of_mem _ hy))
    rw [cntL_cons hx.1 hx.2, addAt_sum _ _ _ (by rw [cntL_len]; omega), ih]
    simp
theorem cntN_pos {b : List Int} {k : Nat} (h : (k : Int) ∈ b) : 0 < cntN b k := by
  unfold cntN
  have : (k : Int) ∈ b.filter fun x => decide (x = (k : Int)) := List.mem_filter.mpr ⟨h, by simp⟩
  have := List.length_pos_of_mem this
  omega
theorem cntN_zero {b : List Int} {k : Nat} (h : ∀ x ∈ b, x ≠ (k : Int)) : cntN b k = 0 := by
  unfold cntN
  have : b.filter (fun x => decide (x = (k : Int))) = [] := List.filter_eq_nil_iff.mpr (fun x hx => by simpa using h x hx)
  rw [this]
  rfl
theorem chp_cnt {n : Nat} {x : Int} {r : List Int} (h : InR n (x :: r)) (hs : ∀ y ∈ r, x ≤ y) : chp (cntL n (x :: r)) = some x.toNat := by
  have hx := h x List.mem_cons_self
  have hsum := cntL_sum h
  obtain ⟨l, e⟩ := chp_some (c := cntL n (x :: r)) (by rw [hsum, List.length_cons]; omega)
  obtain ⟨h1, h2, h3⟩ := chp_spec e
  rw [cntL_len] at h1
  rw [cntL_get _ h1] at h2
  rw [e]
  congr 1
  have hge : x.toNat ≤ l := by
    apply Nat.le_of_not_lt
    intro hc
    have := cntN_zero (b := x :: r) (k := l) (fun y hy => by
      rcases List.mem_cons.mp hy with rfl | hy
      · omega
      · have := hs y hy; omega)
    omega
  have hle : l ≤ x.toNat := by
    apply Nat.le_of_not_lt
    intro hc
    have := h3 x.toNat hc
    rw [cntL_get _ (by omega)] at this
    have := cntN_pos (b := x :: r) (k := x.toNat) (by rw [Int.toNat_of_nonneg hx.1]; exact List.mem_cons_self)
    omega
  omega
/-! ### the last of sorted ones -/
def topI (s : Nat) (A : List Int) : List Int := A.drop (A.length - s)
theorem ins_len (f : Int) : ∀ A : List Int, (insI f A).length = A.length + 1 := fun A => (insI_perm' f A).length_eq
theorem ins_low {f : Int} : ∀ {T : List Int}, (∀ y ∈ T, f ≤ y) → insI f T = f :: T
  | [], _ => rfl
  | a :: T, h => by
    unfold insI
    rw [if_pos (h a List.mem_cons_self)]
theorem ins_drop {f : Int} : ∀ (P T : List Int), (P ++ T).Pairwise (· ≤ ·) → P ≠ [] → (insI f (P ++ T)).drop (P.length + 1) = if P = [] then insI f T else (insI f T).drop 1
  | [], T, _, h => absurd rfl h
  | a :: P, T, hs, _ => by
    rw [if_neg (by simp)]
    have hs' := List.pairwise_cons.mp hs
    have e0 : insI f (a :: P ++ T) = if f ≤ a then f :: a :: (P ++ T) else a :: insI f (P ++ T) := rfl
    rw [e0]
    by_cases c : f ≤ a
    · rw [if_pos c]
      have : insI f T = f :: T := ins_low (fun y hy => Int.le_trans c (hs'.1 y (List.mem_append_right _ hy)))
      rw [this]
      simp
    · rw [if_neg c]
      by_cases hP : P = []
      · subst hP
        simp
      · have ih := ins_drop (f := f) P T hs'.2 hP
        rw [if_neg hP] at ih
        simpa using ih
theorem top_ins {s : Nat} {f : Int} {A : List Int} (hs : A.Pairwise (· ≤ ·)) (h : s ≤ A.length) : topI s (insI f A) = (insI f (topI s A)).drop 1 := by
  unfold topI
  rw [ins_len]
  have e : A = A.take (A.length - s) ++ A.drop (A.length - s) := (List.take_append_drop _ _).symm
  by_cases hz : A.length = s
  · rw [show A.length + 1 - s = 1 by omega, show A.length - s = 0 by omega]
    simp
  · have hP : A.take (A.length - s) ≠ [] := by
      intro z
      have := congrArg List.length z
      simp at this
      omega
    have := ins_drop (f := f) (A.take (A.length - s)) (A.drop (A.length - s)) (by rw [← e]; exact hs) hP
    rw [if_neg hP, ← e] at this
    rw [show A.length + 1 - s = (A.take (A.length - s)).length + 1 by simp; omega]
    exact this
theorem seen_step {n : Nat} {s : Int} (h1 : 1 ≤ s) {A : List Int} (hA : A.Pairwise (· ≤ ·)) (hr : InR n A) {f : Nat} (hf : f < n) : seenR s (cntL n (topI s.toNat A)) f = cntL n (topI s.toNat (insI (f : Int) A)) := by
  have hT : InR n (topI s.toNat A) := fun x hx => hr x (List.mem_of_mem_drop hx)
  have hTs : (topI s.toNat A).Pairwise (· ≤ ·) := hA.sublist (List.drop_sublist _ _)
  have hX : (insI (f : Int) (topI s.toNat A)).Perm ((f : Int) :: topI s.toNat A) := insI_perm' _ _
  have hXs := insI_sorted' (f : Int) _ hTs
  have hXr : InR n (insI (f : Int) (topI s.toNat A)) := fun x hx => by
    rcases List.mem_cons.mp (hX.mem_iff.mp hx) with rfl | hx
    · omega
    · exact hT x hx
  have ec : addAt (cntL n (topI s.toNat A)) f 1 = cntL n (insI (f : Int) (topI s.toNat A)) := by
    rw [cntL_perm hX, cntL_cons (by omega) (by omega)]
    simp
  have el : (topI s.toNat A).length = min A.length s.toNat := by
    unfold topI
    rw [List.length_drop]
    omega
  have esum : (cntL n (insI (f : Int) (topI s.toNat A))).sum = ((topI s.toNat A).length : Int) + 1 := by
    rw [cntL_sum hXr, ins_len]
    omega
  unfold seenR
  rw [ec, esum]
  by_cases c : A.length < s.toNat
  · rw [if_pos (by omega)]
    have e1 : topI s.toNat A = A := by
      unfold topI
      rw [show A.length - s.toNat = 0 by omega]
      rfl
    have e2 : topI s.toNat (insI (f : Int) A) = insI (f : Int) A := by
      unfold topI
      rw [ins_len, show A.length + 1 - s.toNat = 0 by omega]
      rfl
    rw [e1, e2]
  · rw [if_neg (by omega), top_ins hA (by omega)]
    cases hX2 : insI (f : Int) (topI s.toNat A) with
    | nil =>
      have := ins_len (f : Int) (topI s.toNat A)
      rw [hX2] at this
      simp at this
    | cons x r =>
      rw [hX2] at hXr hXs
      have hmin := (List.pairwise_cons.mp hXs).1
      rw [chp_cnt hXr hmin]
      have hx := hXr x List.mem_cons_self
      dsimp only
      have e3 : cntL n (x :: r) = addAt (cntL n r) x.toNat 1 := cntL_cons hx.1 hx.2
      rw [e3]
      simp only [List.drop_succ_cons, List.drop_zero]
      apply getD_ext
      · rw [addAt_len, addAt_len]
      · intro j hj
        rw [addAt_get _ _ _ _ (by rw [addAt_len, cntL_len]; omega)]
        rw [addAt_get _ _ _ _ (by rw [cntL_len]; omega), addAt_get _ _ _ _ (by rw [cntL_len]; omega)]
        by_cases e : j = x.toNat
        · rw [if_pos e, if_pos rfl, e]
          omega
        · rw [if_neg e, if_neg e]
theorem sort_snoc (l : List Int) (x : Int) : sortI (l ++ [x]) = insI x (sortI l) :=
  PySem.W.ksm_same ((sortI_perm' _).trans ((List.perm_append_comm).trans (((sortI_perm' l).symm.cons x).trans (insI_perm' x _).symm))) (sortI_sorted' _) (insI_sorted' x _ (sortI_sorted' l))
theorem seen_sort {n : Nat} {s : Int} (h1 : 1 ≤ s) (row : List Nat) (hr : ∀ f ∈ row, f < n) : seenL s n row = cntL n (topI s.toNat (sortI (rI row))) := by
  have key : ∀ l : List Nat, (∀ f ∈ l, f < n) → seenL s n l.reverse = cntL n (topI s.toNat (sortI (rI l.reverse))) := by
    intro l
    induction l with
    | nil =>
      intro _
      show List.replicate n 0 = cntL n (topI s.toNat [])
      rw [show topI s.toNat [] = [] by simp [topI], cntL_nil]
    | cons f l ih =>
      intro hr
      have e := ih (fun a ha => hr a (List.mem_cons_of_mem _ ha))
      rw [List.reverse_cons]
      have e1 : seenL s n (l.reverse ++ [f]) = seenR s (seenL s n l.reverse) f := by simp [seenL]
      have e2 : rI (l.reverse ++ [f]) = rI l.reverse ++ [(f : Int)] := by simp [rI]
      rw [e1, e, e2, sort_snoc]
      refine seen_step h1 (sortI_sorted' _) (fun x hx => ?_) (hr f List.mem_cons_self)
      obtain ⟨a, ha, rfl⟩ := List.mem_map.mp ((sortI_perm' _).mem_iff.mp hx)
      have := hr a (List.mem_cons_of_mem _ (List.mem_reverse.mp ha))
      omega
  have := key row.reverse (fun f hf => hr f (List.mem_reverse.mp hf))
  rwa [List.reverse_reverse] at this
end Pk

set_option Elab.async false
set_option linter.all false
set_option maxRecDepth 100000
set_option maxHeartbeats 4000000
/-! k03: the law's own dearest, sums, fractions. -/
namespace Pk
open PySem Bk
variable {p : Pr} [HP p] [HC p] [H03 p]
section
variable {s : Int} {fs : List Int}
theorem li_map {α : Type} (f : α → Int) (l : List α) : D.lst (l.map fun a => D.int (f a)) = li (l.map f) := by simp [li]
theorem dearest_i (h : HOk s fs) (k : Nat) (g : G) {row : List Nat} (hrow : RowOk fs.length row) : den p (k + 1) 49 [hlD s fs, li (rI row)] g = .ok (ti (seenL s fs.length row)) g := by
  have e0 : den p (k + 1) 49 [hlD s fs, li (rI row)] g = endR (evB p.cs (den p k) b__law_dearest [.val (hlD s fs), .val (li (rI row)), .no, .no, .no] g) := den_f H03.h__law_dearest rfl (by decide)
  rw [e0]
  have hs := h.s1
  have h4 := h.f4
  have es : biD .sorted [li (rI row)] = some (li (sortI (rI row))) := by
    simp only [li, biD, ints_map, Option.map_some]
  have er : evE p.cs (den p k) (.rev (.bi .sorted (.cons (.var 1) .nil))) [.val (hlD s fs), .val (li (rI row)), .no, .no, .no] g = .ok (li (sortI (rI row)).reverse) g := by
    have : evE p.cs (den p k) (.bi .sorted (.cons (.var 1) .nil)) [.val (hlD s fs), .val (li (rI row)), .no, .no, .no] g = .ok (li (sortI (rI row))) g := by
      simp only [x_bi, a_cons, a_nil, x_var, List.getElem?_cons_zero, List.getElem?_cons_succ, r_ok, es, l_some]
    rw [x_rev, this, r_ok]
    simp [li]
  have et := sl_take_l (sortI (rI row)).reverse s.toNat
  rw [Int.toNat_of_nonneg (by omega)] at et
  generalize hB : (sortI (rI row)).reverse.take s.toNat = Bs at *
  have st1 : evS p.cs (den p k) (.asg (.var 2) (.sl (.rev (.bi .sorted (.cons (.var 1) .nil))) none (some (.idx (.var 0) (.cst (.int 0)))))) [.val (hlD s fs), .val (li (rI row)), .no, .no, .no] g = .ok (.nx [.val (hlD s fs), .val (li (rI row)), .val (li Bs), .no, .no]) g := by
    rw [s_asg', x_sl, er]
    simp only [x_var, List.getElem?_cons_zero, List.getElem?_cons_succ, r_ok, l_some, o_none, o_some, x_idx, x_cst, hl_0, et]
    rfl
  have inner : ∀ (i : Nat) (g : G), evE p.cs (den p k) (.bi .len (.cons (.lc (.var 4) (.var 4) (.seq (.var 2)) (some (.cmp .eq (.var 4) (.var 3)))) .nil)) [.val (hlD s fs), .val (li (rI row)), .val (li Bs), .val (.int (i : Int)), .no] g = .ok (.int (cntN Bs i)) g := fun i g => by
    have := lc_filter (cs := p.cs) (call := den p k) (elt := .var 4) (cond := (.cmp .eq (.var 4) (.var 3))) (t := .var 4) (it := .seq (.var 2)) (Γ := [.val (hlD s fs), .val (li (rI row)), .val (li Bs), .val (.int (i : Int)), .no]) (g := g) (l := Bs) (enc := D.int) (h := D.int) (c := fun x => decide (x = (i : Int)))
      (by simp [li]) (fun q hq g => by simp) (fun q hq hc g => by simp)
    rw [x_bi, a_cons, this]
    simp [cntN]
  have outer := lc_map (cs := p.cs) (call := den p k) (elt := (.bi .len (.cons (.lc (.var 4) (.var 4) (.seq (.var 2)) (some (.cmp .eq (.var 4) (.var 3)))) .nil))) (t := .var 3) (it := .rng1 (.bi .len (.cons (.idx (.var 0) (.cst (.int 1))) .nil))) (Γ := [.val (hlD s fs), .val (li (rI row)), .val (li Bs), .no, .no]) (g := g) (l := List.range fs.length) (enc := fun i : Nat => .int ((0 : Int) + (i : Int))) (h := fun i => .int (cntN Bs i))
    (by
      rw [rng1_i (i := (fs.length : Int)) (by simp) (by omega), rngD_map]
      rfl) (fun i hi g => by
      have e := inner i g
      rw [← e]
      simp only [Int.zero_add]
      rfl)
  rw [li_map (cntN Bs)] at outer
  have ecnt : (List.range fs.length).map (cntN Bs) = seenL s fs.length row := by
    rw [seen_sort hs row hrow.2]
    show cntL fs.length Bs = _
    apply cntL_perm
    rw [← hB]
    have : topI s.toNat (sortI (rI row)) = ((sortI (rI row)).reverse.take s.toNat).reverse := by
      unfold topI
      rw [List.take_reverse, List.reverse_reverse]
    rw [this]
    exact (List.reverse_perm _).symm
  rw [ecnt] at outer
  have bt : biD .tuple [li (seenL s fs.length row)] = some (ti (seenL s fs.length row)) := rfl
  have fin : evB p.cs (den p k) b__law_dearest [.val (hlD s fs), .val (li (rI row)), .no, .no, .no] g = .ok (.rt (ti (seenL s fs.length row))) g := by
    unfold b__law_dearest
    refine step_nx st1 (step_rt ?_)
    rw [s_ret', x_bi, a_cons, outer, r_ok, a_nil, r_ok, r_ok, bt]
    rfl
  rw [fin]; rfl
theorem zip_range : ∀ (fs c : List Int), c.length = fs.length → (List.range c.length).map (fun i => fs.getD i 0 * c.getD i 0) = (fs.zip c).map fun q => q.1 * q.2
  | [], [], _ => rfl
  | [], a :: c, h => by simp at h
  | f :: fs, [], h => by simp at h
  | f :: fs, a :: c, h => by
    have := zip_range fs c (by simpa using h)
    rw [List.length_cons, List.range_succ_eq_map, List.map_cons, List.map_map, List.zip_cons_cons, List.map_cons, ← this]
    simp [Function.comp_def]
theorem lsum_i (h : HOk s fs) (k : Nat) (g : G) {c : List Int} (hc : CIn s fs.length c) : den p (k + 1) 57 [hlD s fs, ti c] g = .ok (.int (worthL fs c)) g := by
  refine Eq.trans (den_f H03.h__law_sum rfl (by decide)) ?_
  show endR (evB p.cs (den p k) b__law_sum [.val (hlD s fs), .val (ti c), .no] g) = _
  have hl := hc.len
  have h4 := h.f4
  have h6 := h.s6
  have outer := lc_map (cs := p.cs) (call := den p k) (elt := (.bin .mul (.idx (.idx (.var 0) (.cst (.int 1))) (.var 2)) (.idx (.var 1) (.var 2)))) (t := .var 2) (it := .rng1 (.bi .len (.cons (.var 1) .nil))) (Γ := [.val (hlD s fs), .val (ti c), .no]) (g := g) (l := List.range c.length) (enc := fun i : Nat => .int ((0 : Int) + (i : Int))) (h := fun i => .int (fs.getD i 0 * c.getD i 0))
    (by
      rw [rng1_i (i := (c.length : Int)) (by simp) (by omega), rngD_map]
      rfl) (fun i hi g => by
      have hi' := List.mem_range.mp hi
      have a1 := ix_t (l := fs) (j := i) (by omega)
      have a2 := ix_t (l := c) (j := i) hi'
      have a3 : opD .mul (.int (fs.getD i 0)) (.int (c.getD i 0)) = some (.int (fs.getD i 0 * c.getD i 0)) := o_mul (mulOk (h.fsm _ (mem_getD (by omega))) (hc.sm (by omega) _ (mem_getD hi')))
      generalize fs.getD i 0 = x at *
      generalize c.getD i 0 = y at *
      simp only [Int.zero_add]
      simp [a1, a2, a3])
  rw [li_map (fun i : Nat => fs.getD i 0 * c.getD i 0), zip_range fs c hl] at outer
  have es := sum_li ((fs.zip c).map fun q => q.1 * q.2)
  generalize hW : li ((fs.zip c).map fun q => q.1 * q.2) = X at *
  simp [b__law_sum, outer, es, worthL]
theorem last_filter {l : Nat} (P : Nat → Bool) : ∀ (n : Nat), l < n → P l = true → (∀ j < n, l < j → P j = false) → ((List.range n).filter P).getLast? = some l
  | 0, h, _, _ => by omega
  | n + 1, h1, h2, h3 => by
    rw [List.range_succ, List.filter_append, List.getLast?_append]
    by_cases e : l = n
    · subst e
      simp [h2]
    · have := h3 n (by omega) (by omega)
      have ih := last_filter P n (by omega) h2 (fun j hj hl => h3 j (by omega) hl)
      simp [this, ih]
theorem ix_last (l : List Int) {x : Int} (h : l.getLast? = some x) : idxD (li l) (.int (-1)) = some (.int x) := by
  have hne : l ≠ [] := by rintro rfl; simp at h
  have hl : 0 < l.length := by
    cases l with
    | nil => exact absurd rfl hne
    | cons a l => simp
  show atD (l.map D.int) (-1) = _
  have a1 : ¬ ((0 : Int) ≤ -1) := by decide
  have a2 : (0 : Int) ≤ -1 + (l.map D.int).length := by rw [List.length_map]; omega
  have a3 : (-1 + ((l.map D.int).length : Int)).toNat = l.length - 1 := by rw [List.length_map]; omega
  rw [atD, if_neg a1, if_pos a2, a3, List.getElem?_map, ← List.getLast?_eq_getElem?, h]
  rfl
theorem lowest_i (k : Nat) (g : G) {a b : Nat} (ha : a ≤ 100000) (hb : b ≤ 100000) : den p (k + 1) 66 [.int (a : Int), .int (b : Int)] g = .ok (fracD a b) g := by
  have e0 : den p (k + 1) 66 [.int (a : Int), .int (b : Int)] g = endR (evB p.cs (den p k) b__law_lowest [.val (.int (a : Int)), .val (.int (b : Int)), .no, .no] g) := den_f H03.h__law_lowest rfl (by decide)
  rw [e0]
  by_cases hz : b = 0
  · subst hz
    simp [b__law_lowest, fracD]
  have hb0 : ¬ ((b : Int) = 0) := by omega
  have fl := lc_filter (cs := p.cs) (call := den p k) (elt := .var 3) (cond := (.and (.cmp .eq (.bin .mod (.bi .int (.cons (.var 0) .nil)) (.var 3)) (.cst (.int 0))) (.cmp .eq (.bin .mod (.bi .int (.cons (.var 1) .nil)) (.var 3)) (.cst (.int 0))))) (t := .var 3) (it := .rng2 (.cst (.int 1)) (.bin .add (.var 1) (.cst (.int 1)))) (Γ := [.val (.int (a : Int)), .val (.int (b : Int)), .no, .no]) (g := g) (l := List.range b) (enc := fun i : Nat => .int ((1 : Int) + (i : Int))) (h := fun i => .int ((1 : Int) + (i : Int))) (c := fun i => decide (a % (i + 1) = 0) && decide (b % (i + 1) = 0))
    (by
      rw [rng2_i (i := 1) (j := (b : Int) + 1) (by simp) (by simp) (by omega) (by omega), rngD_map]
      congr 3
      omega) (fun i hi g => by
      have m1 : opD .mod (.int (a : Int)) (.int ((1 : Int) + (i : Int))) = some (.int ((a : Int) % (1 + (i : Int)))) := o_mod (by omega)
      have m2 : opD .mod (.int (b : Int)) (.int ((1 : Int) + (i : Int))) = some (.int ((b : Int) % (1 + (i : Int)))) := o_mod (by omega)
      have bi1 : biD .int [.int (a : Int)] = some (.int (a : Int)) := rfl
      have bi2 : biD .int [.int (b : Int)] = some (.int (b : Int)) := rfl
      have c1 : ((a : Int) % (1 + (i : Int)) = 0) ↔ a % (i + 1) = 0 := by
        rw [show (1 : Int) + (i : Int) = ((i + 1 : Nat) : Int) by omega, ← Int.natCast_emod]
        omega
      have c2 : ((b : Int) % (1 + (i : Int)) = 0) ↔ b % (i + 1) = 0 := by
        rw [show (1 : Int) + (i : Int) = ((i + 1 : Nat) : Int) by omega, ← Int.natCast_emod]
        omega
      by_cases d1 : a % (i + 1) = 0 <;> by_cases d2 : b % (i + 1) = 0 <;> simp [bi1, bi2, m1, m2, c1, c2, d1, d2]) (fun i hi hc g => by simp)
  rw [li_map (fun i : Nat => (1 : Int) + (i : Int))] at fl
  have hgp : 0 < Nat.gcd a b := Nat.gcd_pos_of_pos_right a (by omega)
  have hgb : Nat.gcd a b ≤ b := Nat.gcd_le_right a (by omega)
  have hl := last_filter (l := Nat.gcd a b - 1) (fun i => decide (a % (i + 1) = 0) && decide (b % (i + 1) = 0)) b (by omega) (by
    rw [show Nat.gcd a b - 1 + 1 = Nat.gcd a b by omega]
    simp [Nat.mod_eq_zero_of_dvd (Nat.gcd_dvd_left a b), Nat.mod_eq_zero_of_dvd (Nat.gcd_dvd_right a b)]) (fun j hj hlt => by
    cases hc : (decide (a % (j + 1) = 0) && decide (b % (j + 1) = 0)) with
    | false => rfl
    | true =>
      exfalso
      simp only [Bool.and_eq_true, decide_eq_true_eq] at hc
      have := Nat.le_of_dvd hgp (Nat.dvd_gcd (Nat.dvd_of_mod_eq_zero hc.1) (Nat.dvd_of_mod_eq_zero hc.2))
      omega)
  have hix := ix_last (((List.range b).filter fun i => decide (a % (i + 1) = 0) && decide (b % (i + 1) = 0)).map fun i : Nat => (1 : Int) + (i : Int)) (x := (Nat.gcd a b : Int)) (by
    rw [List.getLast?_map, hl]
    simp
    omega)
  have d1 : opD .div (.int (a : Int)) (.int (Nat.gcd a b : Int)) = some (.int ((a : Int) / (Nat.gcd a b : Int))) := o_div (divOk (by omega) (sm_of (by omega) (by omega)))
  have d2 : opD .div (.int (b : Int)) (.int (Nat.gcd a b : Int)) = some (.int ((b : Int) / (Nat.gcd a b : Int))) := o_div (divOk (by omega) (sm_of (by omega) (by omega)))
  have hfr : fracD a b = .tup [.int ((a : Int) / (Nat.gcd a b : Int)), .int ((b : Int) / (Nat.gcd a b : Int))] := by
    unfold fracD
    rw [if_neg hz]
    rfl
  rw [hfr]
  generalize li (((List.range b).filter fun i => decide (a % (i + 1) = 0) && decide (b % (i + 1) = 0)).map fun i : Nat => (1 : Int) + (i : Int)) = X at *
  have fin : evB p.cs (den p k) b__law_lowest [.val (.int (a : Int)), .val (.int (b : Int)), .no, .no] g = .ok (.rt (.tup [.int ((a : Int) / (Nat.gcd a b : Int)), .int ((b : Int) / (Nat.gcd a b : Int))])) g := by
    unfold b__law_lowest
    refine step_nx (Γ1 := [.val (.int (a : Int)), .val (.int (b : Int)), .no, .no]) (g1 := g) (by simp [hb0, hz]) (step_nx (Γ1 := [.val (.int (a : Int)), .val (.int (b : Int)), .val X, .no]) (g1 := g) (by rw [s_asg', fl]; rfl) (step_rt ?_))
    simp [hix, d1, d2]
  rw [fin]; rfl
end
end Pk

set_option Elab.async false
set_option linter.all false
set_option maxRecDepth 100000
set_option maxHeartbeats 4000000
/-! How long what is told is. -/
namespace Pk
open PySem Bk
section
variable {s : Int} {fs : List Int}
theorem Sz.wd {x : Str} (h : x ∈ (["apart", "nested", "kept", "all", "any", "oust", "taken", "ousted", "refused"] : List Str)) : Sz 12 0 (.str x) := by
  simp only [List.mem_cons, List.not_mem_nil, or_false] at h
  rcases h with rfl | rfl | rfl | rfl | rfl | rfl | rfl | rfl | rfl <;> exact ⟨rfl, by decide +kernel, by decide +kernel, by decide +kernel⟩
theorem Sz.small {i : Int} (h : i.natAbs < 10 ^ 9) : Sz 10 0 (.int i) := by
  have hl : i.natAbs.log2 < 1920 := by
    by_cases hz : i.natAbs = 0
    · rw [hz]; decide
    · exact (Nat.log2_lt hz).mpr (Nat.lt_trans h (by decide +kernel))
  refine ⟨by simp [D.pl], by simp only [D.py, PyData.showable]; exact decide_eq_true (by omega), by simp [D.py, PyData.depth], ?_⟩
  simp only [D.py, PyData.shown]
  rw [PySem.ofString_length]
  exact PySem.int_text_length_le10 (by decide) h
theorem Sz.tsm {l : List Int} (H : ∀ x ∈ l, x.natAbs < 10 ^ 9) : Sz (12 * l.length + 3) 1 (Pk.ti l) := by
  have := Sz.tup (n := 10) (h := 0) (ds := l.map .int) fun d hd => by
    obtain ⟨x, hx, rfl⟩ := List.mem_map.mp hd
    exact Sz.small (H x hx)
  simpa [Pk.ti] using this
theorem Sz.lsm {l : List Int} (H : ∀ x ∈ l, x.natAbs < 10 ^ 9) : Sz (12 * l.length + 3) 1 (Pk.li l) := by
  have := Sz.lst (n := 10) (h := 0) (ds := l.map .int) fun d hd => by
    obtain ⟨x, hx, rfl⟩ := List.mem_map.mp hd
    exact Sz.small (H x hx)
  simpa [Pk.li] using this
def rlN : Nat → Nat
  | 0 => 200
  | d + 1 => (rlN d + 2) * 3 + 3
theorem rlN_mono {a b : Nat} (h : a ≤ b) : rlN a ≤ rlN b := by
  induction h with
  | refl => exact Nat.le_refl _
  | step h ih => simp only [rlN]; omega
theorem rlN_ge (a : Nat) : 200 ≤ rlN a := rlN_mono (Nat.zero_le a)
theorem lim_sz {n : Nat} {l : List Int} {x : Str} (hs : s ≤ 1000) (hn : n ≤ 6) (h : LimOk s n l) (hx : x ∈ (["apart", "nested", "kept", "all", "any", "oust", "taken", "ousted", "refused"] : List Str)) : Sz 200 2 (.tup [.str x, ti l]) := by
  refine (Sz.tup (n := 75) (h := 1) fun d hd => ?_).mono (by simp) (by decide)
  simp only [List.mem_cons, List.not_mem_nil, or_false] at hd
  rcases hd with rfl | rfl
  · exact (Sz.wd hx).mono (by decide) (by decide)
  · exact (Sz.tsm fun q hq => by have := h.2 q hq; omega).mono (by rw [h.1]; omega) (by decide)
theorem rl_sz {n : Nat} (hs : s ≤ 1000) (hn : n ≤ 6) : ∀ (r : Rl) (o : Bool), r.Ok s n o → Sz (rlN r.deep) (r.deep + 2) r.d
  | .apart l, o, h => lim_sz hs hn h (by decide)
  | .nested l, o, h => lim_sz hs hn h.1 (by decide)
  | .kept l, o, h => lim_sz hs hn h (by decide)
  | .all a b, o, h => by
    have h1 := rl_sz hs hn a false h.1
    have h2 := rl_sz hs hn b false h.2
    refine (Sz.tup (n := rlN (max a.deep b.deep)) (h := max a.deep b.deep + 2) fun d hd => ?_).mono (by simp only [Rl.deep, List.length_cons, List.length_nil, Nat.add_comm 1]; exact Nat.le_refl _) (by simp only [Rl.deep]; omega)
    simp only [List.mem_cons, List.not_mem_nil, or_false] at hd
    have := rlN_ge (max a.deep b.deep)
    rcases hd with rfl | rfl | rfl
    · exact (Sz.wd (by decide)).mono (by omega) (by omega)
    · exact h1.mono (rlN_mono (by omega)) (by omega)
    · exact h2.mono (rlN_mono (by omega)) (by omega)
  | .any a b, o, h => by
    have h1 := rl_sz hs hn a false h.1
    have h2 := rl_sz hs hn b false h.2
    refine (Sz.tup (n := rlN (max a.deep b.deep)) (h := max a.deep b.deep + 2) fun d hd => ?_).mono (by simp only [Rl.deep, List.length_cons, List.length_nil, Nat.add_comm 1]; exact Nat.le_refl _) (by simp only [Rl.deep]; omega)
    simp only [List.mem_cons, List.not_mem_nil, or_false] at hd
    have := rlN_ge (max a.deep b.deep)
    rcases hd with rfl | rfl | rfl
    · exact (Sz.wd (by decide)).mono (by omega) (by omega)
    · exact h1.mono (rlN_mono (by omega)) (by omega)
    · exact h2.mono (rlN_mono (by omega)) (by omega)
  | .oust a fee, o, h => by
    have h1 := rl_sz hs hn a false h.2.1
    refine (Sz.tup (n := rlN a.deep) (h := a.deep + 2) fun d hd => ?_).mono (by simp only [Rl.deep, List.length_cons, List.length_nil, Nat.add_comm 1]; exact Nat.le_refl _) (by simp only [Rl.deep]; omega)
    simp only [List.mem_cons, List.not_mem_nil, or_false] at hd
    have := rlN_ge a.deep
    rcases hd with rfl | rfl | rfl
    · exact (Sz.wd (by decide)).mono (by omega) (by omega)
    · exact h1
    · exact (Sz.small (by have := h.2.2; omega)).mono (by omega) (by omega)
theorem hl_sz (h : HOk s fs) : Sz 200 2 (hlD s fs) := by
  have h6 := h.s6
  have h1 := h.s1
  have f4 := h.f4
  refine (Sz.tup (n := 60) (h := 1) fun d hd => ?_).mono (by simp) (by decide)
  simp only [List.mem_cons, List.not_mem_nil, or_false] at hd
  rcases hd with rfl | rfl
  · exact (Sz.small (by omega)).mono (by decide) (by decide)
  · exact (Sz.tsm fun q hq => by have := h.f q hq; omega).mono (by omega) (by decide)
end
end Pk

set_option Elab.async false
set_option linter.all false
namespace Pk
open PySem Bk
class H89 (p : Bk.Pr) : Prop where
  h__law_row : p.ds.lookup 78 = some Bk.f__law_row.2
  h__law_nets : p.ds.lookup 79 = some Bk.f__law_nets.2
  h__law_worth : p.ds.lookup 82 = some Bk.f__law_worth.2
  h__law_best : p.ds.lookup 81 = some Bk.f__law_best.2
  h__law_deal : p.ds.lookup 80 = some Bk.f__law_deal.2
  h__law_lets_84 : p.ds.lookup 84 = some Bk.f__law_lets_84.2
  h__law_more : p.ds.lookup 85 = some Bk.f__law_more.2
  h__law_is_less : p.ds.lookup 83 = some Bk.f__law_is_less.2
  h__law_like : p.ds.lookup 17 = some Bk.f__law_like.2
  h__law_least : p.ds.lookup 27 = some Bk.f__law_least.2
end Pk

set_option Elab.async false
set_option linter.all false
set_option maxRecDepth 100000
set_option maxHeartbeats 4000000
/-! The laws' own dealing (third part). -/
namespace Pk
open PySem Bk
variable {p : Pr} [HP p] [HC p] [H89 p]
section
variable {s : Int} {fs : List Int}
theorem more_i (k : Nat) (g : G) {l : List Int} {n : Nat} {m : Int} (hn : n < l.length) (hl : l.length ≤ 1000) : den p (k + 1) 85 [ti l, .int (n : Int), .int m] g = .ok (ti (addAt l n m)) g := by
  refine Eq.trans (den_f H89.h__law_more rfl (by decide)) ?_
  show endR (evB p.cs (den p k) b__law_more [.val (ti l), .val (.int (n : Int)), .val (.int m)] g) = _
  have e1 := sl_take l n
  have e2 := sl_drop l (n + 1)
  have e3 := ix_t hn
  rw [show ((n + 1 : Nat) : Int) = (n : Int) + 1 by omega] at e2
  have e4 := add_ti (a := l.take n) (b := [l.getD n 0 + m]) (by simp; omega)
  have e5 := add_ti (a := l.take n ++ [l.getD n 0 + m]) (b := l.drop (n + 1)) (by simp; omega)
  have e6 : l.take n ++ [l.getD n 0 + m] ++ l.drop (n + 1) = addAt l n m := by
    unfold addAt
    rw [List.set_eq_take_append_cons_drop, if_pos hn]
    simp
  rw [e6] at e5
  generalize addAt l n m = A at *
  clear e6
  generalize l.getD n 0 = z at *
  simp only [b__law_more, b_cons, s_ret', x_bin, x_sl, x_var, List.getElem?_cons_zero, List.getElem?_cons_succ, r_ok, o_none, o_some, e1, l_some, x_tup, a_cons, a_nil, x_idx, e3, o_add, ti_one, e4, x_cst, e2, e5, e_rt]
/-! ### lets -/
def bodyLt : B := (.cons (.ife (.cmp .ge (.bi .sum (.cons (.sl (.var 2) none (some (.bin .add (.var 4) (.cst (.int 1))))) .nil)) (.idx (.idx (.var 1) (.cst (.int 1))) (.var 4))) (.cons (.ret (.cst (.bl false))) .nil) .nil) .nil)
theorem lt_w (cs : List (Nat × D)) (call : Nat → List D → G → R D) (g : G) (z : Slot) (R : D) {l c : List Int} (hR : idxD R (.int 1) = some (ti l)) (hl : l.length = c.length) (z3 : Slot) : ∀ (n f : Nat) (s4 : Slot), f + n = c.length →
    (nst l c f = true ∧ ∃ t4, forR (fun x Γ g => (lift (setT (.var 4) x Γ) g).bind fun Γ' g => evB cs call bodyLt Γ' g) (rngD (f : Int) n) [z, .val R, .val (ti c), z3, s4] g = .ok (.nx [z, .val R, .val (ti c), z3, t4]) g) ∨
    (nst l c f = false ∧ forR (fun x Γ g => (lift (setT (.var 4) x Γ) g).bind fun Γ' g => evB cs call bodyLt Γ' g) (rngD (f : Int) n) [z, .val R, .val (ti c), z3, s4] g = .ok (.rt (.bl false)) g)
  | 0, f, s4, h => .inl ⟨by unfold nst; rw [show c.length - f = 0 by omega]; rfl, s4, rfl⟩
  | n + 1, f, s4, h => by
    have a1 := sl_take c (f + 1)
    have a2 := sum_ti (c.take (f + 1))
    have a3 := ix_t (l := l) (j := f) (by omega)
    rw [show ((f + 1 : Nat) : Int) = (f : Int) + 1 by omega] at a1
    have en : nst l c f = (decide ((c.take (f + 1)).sum < l.getD f 0) && nst l c (f + 1)) := by
      unfold nst
      rw [show c.length - f = (c.length - (f + 1)) + 1 by omega, List.range_succ_eq_map, List.all_cons, List.all_map]
      congr 2
      funext i
      simp only [Function.comp, show f + i.succ = f + 1 + i by omega]
    have ih := lt_w cs call g z R hR hl z3 n (f + 1) (.val (.int (f : Int))) (by omega)
    rw [show ((f + 1 : Nat) : Int) = (f : Int) + 1 by omega] at ih
    rw [en]
    generalize l.getD f 0 = y at *
    generalize c.take (f + 1) = T at *
    by_cases hc : T.sum < y
    · have hc2 : ¬ (y ≤ T.sum) := by omega
      have st : (lift (setT (.var 4) (.int (f : Int)) [z, .val R, .val (ti c), z3, s4]) g).bind (fun Γ' g => evB cs call bodyLt Γ' g) = .ok (.nx [z, .val R, .val (ti c), z3, .val (.int (f : Int))]) g := by
        simp [bodyLt, a1, a2, a3, hR, hc2]
      rw [decide_eq_true hc, Bool.true_and]
      simp only [rngD, forR, st, r_ok]
      exact ih
    · have hc2 : y ≤ T.sum := by omega
      have st : (lift (setT (.var 4) (.int (f : Int)) [z, .val R, .val (ti c), z3, s4]) g).bind (fun Γ' g => evB cs call bodyLt Γ' g) = .ok (.rt (.bl false)) g := by
        simp [bodyLt, a1, a2, a3, hR, hc2]
      rw [decide_eq_false hc, Bool.false_and]
      refine .inr ⟨rfl, ?_⟩
      simp only [rngD, forR, st, r_ok]
theorem tlets_i {c : List Int} {f : Nat} (hc : c.length = fs.length) (hf : f < fs.length) (h4 : fs.length ≤ 1000) : ∀ (r : Rl) (o : Bool) (n : Nat) (g : G), r.Ok s fs.length o → r.deep + 1 ≤ n → den p n 84 [.int s, r.d, ti c, .int (f : Int)] g = .ok (.bl (r.lets s c f)) g := by
  intro r
  induction r with
  | apart l =>
    intro o n g hr hn
    obtain ⟨n, rfl⟩ : ∃ m, n = m + 1 := ⟨n - 1, by omega⟩
    refine Eq.trans (den_f H89.h__law_lets_84 rfl (by decide)) ?_
    show endR (evB p.cs (den p n) b__law_lets_84 [.val (.int s), .val (Rl.apart l).d, .val (ti c), .val (.int (f : Int)), .no] g) = _
    have e0 : idxD (Rl.apart l).d (.int 0) = some (.str "apart") := rfl
    have i1 : idxD (Rl.apart l).d (.int 1) = some (ti l) := rfl
    have c1 : cmpD .eq (.str "apart") (.str "all") = some false := rfl
    have c2 : cmpD .eq (.str "apart") (.str "any") = some false := rfl
    have c3 : cmpD .eq (.str "apart") (.str "oust") = some false := rfl
    have c4 : cmpD .eq (.str "apart") (.str "apart") = some true := rfl
    have e1 := ix_t (l := c) (j := f) (by omega)
    have e3 := ix_t (l := l) (j := f) (by rw [hr.1]; exact hf)
    simp only [Rl.lets]
    generalize (Rl.apart l).d = R at *
    generalize c.getD f 0 = x at *
    generalize l.getD f 0 = y at *
    simp [b__law_lets_84, e0, c1, c2, c3, c4, i1, e1, e3, -c_eqs]
  | kept l =>
    intro o n g hr hn
    obtain ⟨n, rfl⟩ : ∃ m, n = m + 1 := ⟨n - 1, by omega⟩
    refine Eq.trans (den_f H89.h__law_lets_84 rfl (by decide)) ?_
    show endR (evB p.cs (den p n) b__law_lets_84 [.val (.int s), .val (Rl.kept l).d, .val (ti c), .val (.int (f : Int)), .no] g) = _
    have e0 : idxD (Rl.kept l).d (.int 0) = some (.str "kept") := rfl
    have i1 : idxD (Rl.kept l).d (.int 1) = some (ti l) := rfl
    have c1 : cmpD .eq (.str "kept") (.str "all") = some false := rfl
    have c2 : cmpD .eq (.str "kept") (.str "any") = some false := rfl
    have c3 : cmpD .eq (.str "kept") (.str "oust") = some false := rfl
    have c4 : cmpD .eq (.str "kept") (.str "apart") = some false := rfl
    have c5 : cmpD .eq (.str "kept") (.str "kept") = some true := rfl
    have e1 := sum_ti c
    have e3 := ix_t (l := l) (j := f) (by rw [hr.1]; exact hf)
    simp only [Rl.lets]
    generalize (Rl.kept l).d = R at *
    generalize l.getD f 0 = y at *
    simp [b__law_lets_84, e0, c1, c2, c3, c4, c5, i1, e1, e3, -c_eqs]
  | nested l =>
    intro o n g hr hn
    obtain ⟨n, rfl⟩ : ∃ m, n = m + 1 := ⟨n - 1, by omega⟩
    refine Eq.trans (den_f H89.h__law_lets_84 rfl (by decide)) ?_
    show endR (evB p.cs (den p n) b__law_lets_84 [.val (.int s), .val (Rl.nested l).d, .val (ti c), .val (.int (f : Int)), .no] g) = _
    have e0 : idxD (Rl.nested l).d (.int 0) = some (.str "nested") := rfl
    have i1 : idxD (Rl.nested l).d (.int 1) = some (ti l) := rfl
    have c1 : cmpD .eq (.str "nested") (.str "all") = some false := rfl
    have c2 : cmpD .eq (.str "nested") (.str "any") = some false := rfl
    have c3 : cmpD .eq (.str "nested") (.str "oust") = some false := rfl
    have c4 : cmpD .eq (.str "nested") (.str "apart") = some false := rfl
    have c5 : cmpD .eq (.str "nested") (.str "kept") = some false := rfl
    have w := lt_w p.cs (den p n) g (.val (.int s)) (Rl.nested l).d (l := l) (c := c) i1 (by rw [hr.1.1, hc]) (.val (.int (f : Int))) (c.length - f) f .no (by omega)
    have ei : evI p.cs (den p n) (.rng2 (.var 3) (.bi .len (.cons (.var 2) .nil))) [.val (.int s), .val (Rl.nested l).d, .val (ti c), .val (.int (f : Int)), .no] g = .ok (rngD (f : Int) (c.length - f)) g := by
      rw [rng2_i (i := (f : Int)) (j := (c.length : Int)) (by simp) (by simp) (by omega) (by omega)]
      congr 2
      omega
    simp only [Rl.lets]
    generalize (Rl.nested l).d = R at *
    have fin : evB p.cs (den p n) b__law_lets_84 [.val (.int s), .val R, .val (ti c), .val (.int (f : Int)), .no] g = .ok (.rt (.bl (nst l c f))) g := by
      unfold b__law_lets_84
      have sk : ∀ (W : Str) (b : B), cmpD .eq (.str "nested") (.str W) = some false → evS p.cs (den p n) (.ife (.cmp .eq (.idx (.var 1) (.cst (.int 0))) (.cst (.str W))) b .nil) [.val (.int s), .val R, .val (ti c), .val (.int (f : Int)), .no] g = .ok (.nx [.val (.int s), .val R, .val (ti c), .val (.int (f : Int)), .no]) g := fun W b hW => by
        simp [e0, hW, -c_eqs]
      refine step_nx (sk _ _ c1) (step_nx (sk _ _ c2) (step_nx (sk _ _ c3) (step_nx (sk _ _ c4) (step_nx (sk _ _ c5) ?_))))
      rcases w with ⟨w1, t4, w2⟩ | ⟨w1, w2⟩
      · rw [w1]
        exact step_nx (by rw [s_for', ei, r_ok]; exact w2) (step_rt (by simp))
      · rw [w1]
        exact step_rt (by rw [s_for', ei, r_ok]; exact w2)
    rw [fin]; rfl
  | all a b iha ihb =>
    intro o n g hr hn
    simp only [Rl.deep] at hn
    obtain ⟨n, rfl⟩ : ∃ m, n = m + 1 := ⟨n - 1, by omega⟩
    refine Eq.trans (den_f H89.h__law_lets_84 rfl (by decide)) ?_
    show endR (evB p.cs (den p n) b__law_lets_84 [.val (.int s), .val (Rl.all a b).d, .val (ti c), .val (.int (f : Int)), .no] g) = _
    have ea := iha false n g hr.1 (by omega)
    have eb := ihb false n g hr.2 (by omega)
    have e0 := rl_0 (.all a b)
    have e1 := eqAll (.all a b)
    have i1 : idxD (Rl.all a b).d (.int 1) = some a.d := rfl
    have i2 : idxD (Rl.all a b).d (.int 2) = some b.d := rfl
    simp only [Rl.lets]
    generalize (Rl.all a b).d = R at *
    generalize (Rl.all a b).wd = W at *
    generalize a.d = A at *
    generalize b.d = B at *
    cases ha : a.lets s c f <;> simp [b__law_lets_84, e0, e1, i1, i2, ea, eb, ha]
  | any a b iha ihb =>
    intro o n g hr hn
    simp only [Rl.deep] at hn
    obtain ⟨n, rfl⟩ : ∃ m, n = m + 1 := ⟨n - 1, by omega⟩
    refine Eq.trans (den_f H89.h__law_lets_84 rfl (by decide)) ?_
    show endR (evB p.cs (den p n) b__law_lets_84 [.val (.int s), .val (Rl.any a b).d, .val (ti c), .val (.int (f : Int)), .no] g) = _
    have ea := iha false n g hr.1 (by omega)
    have eb := ihb false n g hr.2 (by omega)
    have e0 := rl_0 (.any a b)
    have e1 := eqAll (.any a b)
    have e2 := eqAny (.any a b)
    have i1 : idxD (Rl.any a b).d (.int 1) = some a.d := rfl
    have i2 : idxD (Rl.any a b).d (.int 2) = some b.d := rfl
    simp only [Rl.lets]
    generalize (Rl.any a b).d = R at *
    generalize (Rl.any a b).wd = W at *
    generalize a.d = A at *
    generalize b.d = B at *
    cases ha : a.lets s c f <;> simp [b__law_lets_84, e0, e1, e2, i1, i2, ea, eb, ha]
  | oust a fee iha =>
    intro o n g hr hn
    simp only [Rl.deep] at hn
    obtain ⟨n, rfl⟩ : ∃ m, n = m + 1 := ⟨n - 1, by omega⟩
    refine Eq.trans (den_f H89.h__law_lets_84 rfl (by decide)) ?_
    show endR (evB p.cs (den p n) b__law_lets_84 [.val (.int s), .val (Rl.oust a fee).d, .val (ti c), .val (.int (f : Int)), .no] g) = _
    have ea := iha false n g hr.2.1 (by omega)
    have e0 := rl_0 (.oust a fee)
    have e1 := eqAll (.oust a fee)
    have e2 := eqAny (.oust a fee)
    have e3 := eqO (.oust a fee)
    have i1 : idxD (Rl.oust a fee).d (.int 1) = some a.d := rfl
    simp only [Rl.lets]
    generalize (Rl.oust a fee).d = R at *
    generalize (Rl.oust a fee).wd = W at *
    generalize a.d = A at *
    simp [b__law_lets_84, e0, e1, e2, e3, i1, ea, Rl.isO]
/-! ### the law's dealing -/
theorem deal_i (h : HOk s fs) {r : Rl} (hr : ROk s fs.length r) {c : List Int} {f : Nat} (hc : c.length = fs.length) (hf : f < fs.length) (k : Nat) (paid : Int) (g : G) :
    den p (k + 6) 80 [hlD s fs, r.d, ti c, .int paid, .int (f : Int)] g = .ok (stepR s fs r c paid f).d g := by
  have h4 := h.f4
  have hd := hr.d
  have e00 : den p (k + 6) 80 [hlD s fs, r.d, ti c, .int paid, .int (f : Int)] g = endR (evB p.cs (den p (k + 5)) b__law_deal [.val (hlD s fs), .val r.d, .val (ti c), .val (.int paid), .val (.int (f : Int)), .no, .no] g) := den_f H89.h__law_deal rfl (by decide)
  rw [e00]
  have el := tlets_i (p := p) (s := s) (fs := fs) hc hf (by omega) r true (k + 5) g hr.ok (by omega)
  have es := sum_ti c
  have ew := more_i (p := p) (k + 4) g (l := c) (n := f) (m := 1) (by omega) (by omega)
  have e0 := rl_0 r
  have e3 := eqO r
  unfold stepR
  by_cases hA : c.sum < s ∧ r.lets s c f = true
  · rw [if_pos hA]
    obtain ⟨a1, a2⟩ := hA
    rw [a2] at el
    generalize r.d = R at *
    simp [b__law_deal, es, a1, el, ew, Stt.d]
  · rw [if_neg hA]
    have cond : evE p.cs (den p (k + 5)) (.and (.cmp .lt (.bi .sum (.cons (.var 2) .nil)) (.idx (.var 0) (.cst (.int 0)))) (.call 84 (.cons (.idx (.var 0) (.cst (.int 0))) (.cons (.var 1) (.cons (.var 2) (.cons (.var 4) .nil)))))) [.val (hlD s fs), .val r.d, .val (ti c), .val (.int paid), .val (.int (f : Int)), .no, .no] g = .ok (.bl false) g := by
      by_cases a1 : c.sum < s
      · have a2 : r.lets s c f = false := by
          cases hh : r.lets s c f with
          | false => rfl
          | true => exact absurd ⟨a1, hh⟩ hA
        rw [a2] at el
        generalize r.d = R at *
        simp [es, a1, el]
      · generalize r.d = R at *
        simp [es, a1]
    have hle := lc_filter (cs := p.cs) (call := den p (k + 5)) (elt := .var 6) (cond := (.cmp .gt (.idx (.var 2) (.var 6)) (.cst (.int 0)))) (t := .var 6) (it := .rng1 (.var 4)) (Γ := [.val (hlD s fs), .val r.d, .val (ti c), .val (.int paid), .val (.int (f : Int)), .no, .no]) (g := g) (l := List.range f) (enc := fun i : Nat => .int ((0 : Int) + (i : Int))) (h := fun i => .int ((0 : Int) + (i : Int))) (c := fun i => decide (0 < c.getD i 0))
      (by
        rw [rng1_i (i := (f : Int)) (by simp) (by omega), rngD_map]
        rfl) (fun i hi g => by
        have hi' := List.mem_range.mp hi
        have a1 := ix_t (l := c) (j := i) (by omega)
        generalize c.getD i 0 = x at *
        simp only [Int.zero_add]
        simp [a1]) (fun i hi hc g => by simp)
    have hl2 : D.lst (((List.range f).filter fun i => decide (0 < c.getD i 0)).map fun i : Nat => D.int ((0 : Int) + (i : Int))) = li ((lessL c f).map fun i : Nat => (i : Int)) := by simp [li, lessL]
    rw [hl2] at hle
    have hnn := ne_nil_l ((lessL c f).map fun i : Nat => (i : Int))
    have hh := less_head c f
    have fin : evB p.cs (den p (k + 5)) b__law_deal [.val (hlD s fs), .val r.d, .val (ti c), .val (.int paid), .val (.int (f : Int)), .no, .no] g = .ok (.rt (Stt.d (match ousts fs r c f with
      | some l => ⟨addAt (addAt c l (-1)) f 1, paid + r.fee, "ousted"⟩
      | none => ⟨c, paid, "refused"⟩))) g := by
      unfold b__law_deal
      refine step_nx (Γ1 := [.val (hlD s fs), .val r.d, .val (ti c), .val (.int paid), .val (.int (f : Int)), .no, .no]) (g1 := g) (by rw [s_ife', cond]; rfl) (step_nx (Γ1 := [.val (hlD s fs), .val r.d, .val (ti c), .val (.int paid), .val (.int (f : Int)), .val (li ((lessL c f).map fun i : Nat => (i : Int))), .no]) (g1 := g) (by rw [s_asg', hle]; rfl) ?_)
      cases hO : r.isO with
      | false =>
        have ho : ousts fs r c f = none := by unfold ousts; cases r <;> first | rfl | cases hO
        rw [ho]
        generalize r.d = R at *
        generalize li ((lessL c f).map fun i : Nat => (i : Int)) = X at *
        simp [e0, e3, hO, Stt.d]
      | true =>
        cases r with
        | oust a fee =>
          have i2 : idxD (Rl.oust a fee).d (.int 2) = some (.int fee) := rfl
          have ho : ousts fs (.oust a fee) c f = (match (lessL c f).head? with | some l => if fee < fs.getD f 0 - fs.getD l 0 then some l else none | none => none) := by
            rw [hh]
            unfold ousts
            cases chp c with
            | none => rfl
            | some l =>
              by_cases hl : l < f
              · simp [hl]
              · simp [hl]
          rw [ho]
          have hfee : (Rl.oust a fee).fee = fee := rfl
          rw [hfee]
          cases hL : lessL c f with
          | nil =>
            rw [hL] at hnn
            simp only [List.map_nil, List.isEmpty_nil, Bool.not_true, List.head?_nil] at hnn ⊢
            generalize (Rl.oust a fee).d = R at *
            generalize (Rl.oust a fee).wd = W at *
            simp [e0, e3, hO, hnn, Stt.d]
          | cons l r' =>
            rw [hL] at hnn hh
            have hlm : l ∈ lessL c f := by rw [hL]; exact List.mem_cons_self
            have hlf : l < f := List.mem_range.mp (List.mem_filter.mp hlm).1
            have ixX : idxD (li ((l :: r').map fun i : Nat => (i : Int))) (.int 0) = some (.int (l : Int)) := rfl
            have ef := ix_t (l := fs) (j := f) hf
            have ef2 := ix_t (l := fs) (j := l) (by omega)
            have m1 := more_i (p := p) (k + 4) g (l := c) (n := l) (m := -1) (by omega) (by omega)
            have m2 := more_i (p := p) (k + 4) g (l := addAt c l (-1)) (n := f) (m := 1) (by rw [addAt_len]; omega) (by rw [addAt_len]; omega)
            simp only [List.head?_cons]
            clear ho
            generalize li ((l :: r').map fun i : Nat => (i : Int)) = X at *
            generalize (Rl.oust a fee).d = R at *
            generalize (Rl.oust a fee).wd = W at *
            generalize fs.getD f 0 = x at *
            generalize fs.getD l 0 = y at *
            by_cases c2 : fee < x - y
            · simp [e0, e3, hO, hnn, ixX, ef, ef2, i2, c2, m1, m2, Stt.d]
            · simp [e0, e3, hO, hnn, ixX, ef, ef2, i2, c2, Stt.d]
        | _ => cases hO
    rw [fin]
    rfl
theorem tworth_i (h : HOk s fs) (k : Nat) (g : G) {c : List Int} (hc : CIn s fs.length c) : den p (k + 1) 82 [hlD s fs, ti c] g = .ok (.int (worthL fs c)) g := by
  refine Eq.trans (den_f H89.h__law_worth rfl (by decide)) ?_
  show endR (evB p.cs (den p k) b__law_worth [.val (hlD s fs), .val (ti c), .no] g) = _
  have hl := hc.len
  have h4 := h.f4
  have h6 := h.s6
  have outer := lc_map (cs := p.cs) (call := den p k) (elt := (.bin .mul (.idx (.idx (.var 0) (.cst (.int 1))) (.var 2)) (.idx (.var 1) (.var 2)))) (t := .var 2) (it := .rng1 (.bi .len (.cons (.var 1) .nil))) (Γ := [.val (hlD s fs), .val (ti c), .no]) (g := g) (l := List.range c.length) (enc := fun i : Nat => .int ((0 : Int) + (i : Int))) (h := fun i => .int (fs.getD i 0 * c.getD i 0))
    (by
      rw [rng1_i (i := (c.length : Int)) (by simp) (by omega), rngD_map]
      rfl) (fun i hi g => by
      have hi' := List.mem_range.mp hi
      have a1 := ix_t (l := c) (j := i) hi'
      have a2 := ix_t (l := fs) (j := i) (by omega)
      have m := o_mul (mulOk (h.fsm _ (mem_getD (l := fs) (i := i) (by omega))) (hc.sm (by omega) _ (mem_getD (l := c) (i := i) hi')))
      generalize c.getD i 0 = x at *
      generalize fs.getD i 0 = y at *
      simp only [Int.zero_add]
      simp [a1, a2, m])
  have es : biD .sum [.lst ((List.range c.length).map fun i : Nat => D.int (fs.getD i 0 * c.getD i 0))] = some (.int (worthL fs c)) := by
    simp only [biD, ints_mapf (fun i : Nat => fs.getD i 0 * c.getD i 0), Option.map_some, worthL, zip_range fs c hl]
  generalize D.lst ((List.range c.length).map fun i : Nat => D.int (fs.getD i 0 * c.getD i 0)) = X at outer es
  simp [b__law_worth, outer, es]
end
end Pk

set_option Elab.async false
set_option linter.all false
set_option maxRecDepth 100000
set_option maxHeartbeats 4000000
/-! k89: what a row gets, and what hindsight gets, by the law's own sums. -/
namespace Pk
open PySem Bk
variable {p : Pr} [HP p] [HC p] [H89 p]
/-! ### the dearest, by fares -/
theorem sum_app : ∀ a b : List Int, (a ++ b).sum = a.sum + b.sum
  | [], b => by simp
  | x :: a, b => by
    have := sum_app a b
    simp only [List.cons_append, List.sum_cons] at this ⊢
    omega
theorem sum_rev : ∀ l : List Int, l.reverse.sum = l.sum
  | [] => rfl
  | x :: l => by
    have := sum_rev l
    rw [List.reverse_cons, sum_app, this]
    simp
    omega
theorem sortI_id : ∀ {l : List Int}, l.Pairwise (· ≤ ·) → sortI l = l := fun {l} h => PySem.W.ksm_same (sortI_perm' l) (sortI_sorted' l) h
theorem up_get : ∀ {fs : List Int}, upS fs = true → ∀ i j, i ≤ j → j < fs.length → fs.getD i 0 ≤ fs.getD j 0
  | [], _, i, j, _, h => by simp at h
  | [a], _, i, j, h, h2 => by
    have : j = 0 := by simp at h2; exact h2
    have : i = 0 := by omega
    subst_vars; exact Int.le_refl _
  | a :: b :: r, hu, i, j, h, h2 => by
    have hu2 : upS (b :: r) = true ∧ a < b := by
      simp only [upS, List.tail_cons, List.zip_cons_cons, List.all_cons, Bool.and_eq_true, decide_eq_true_eq] at hu ⊢
      exact ⟨hu.2, hu.1⟩
    cases j with
    | zero => have : i = 0 := by omega
              subst this; exact Int.le_refl _
    | succ j =>
      cases i with
      | zero =>
        have := up_get hu2.1 0 j (by omega) (by simpa using h2)
        simp only [List.getD_cons_zero, List.getD_cons_succ] at this ⊢
        omega
      | succ i => simpa using up_get hu2.1 i j (by omega) (by simpa using h2)
theorem sort_map {fs : List Int} (hu : upS fs = true) {l : List Int} (hl : InR fs.length l) : sortI (l.map fun x => fs.getD x.toNat 0) = (sortI l).map fun x => fs.getD x.toNat 0 := by
  refine PySem.W.ksm_same ((sortI_perm' _).trans ((sortI_perm' l).symm.map _)) (sortI_sorted' _) ?_
  refine List.pairwise_map.mpr ?_
  have h1 := sortI_sorted' l
  have hm : ∀ x ∈ sortI l, 0 ≤ x ∧ x < fs.length := fun x hx => hl x ((sortI_perm' l).mem_iff.mp hx)
  exact h1.imp_of_mem fun {a b} ha hb hab => up_get hu _ _ (by have := hm a ha; have := hm b hb; omega) (by have := hm b hb; omega)
theorem worth_cnt {fs : List Int} : ∀ {b : List Int}, InR fs.length b → worthL fs (cntL fs.length b) = (b.map fun x => fs.getD x.toNat 0).sum
  | [], _ => by rw [cntL_nil, worth_rep]; rfl
  | x :: b, h => by
    have hx := h x List.mem_cons_self
    rw [cntL_cons hx.1 hx.2, addAt_worth _ _ _ _ (by rw [cntL_len]; omega) (by omega), worth_cnt (fun y hy => h y (List.mem_cons_of_mem _ hy)), List.map_cons, List.sum_cons]
    omega
theorem row_of89 {n : Nat} : ∀ {ns : List Int}, (∀ x ∈ ns, 0 ≤ x ∧ x < (n : Int)) → ∃ row : List Nat, rI row = ns ∧ ∀ f ∈ row, f < n
  | [], _ => ⟨[], rfl, by simp⟩
  | x :: ns, h => by
    obtain ⟨row, e, hr⟩ := row_of89 (ns := ns) (fun y hy => h y (List.mem_cons_of_mem _ hy))
    have hx := h x List.mem_cons_self
    refine ⟨x.toNat :: row, ?_, fun f hf => ?_⟩
    · simp only [rI, List.map_cons] at e ⊢
      rw [e, Int.toNat_of_nonneg hx.1]
    · rcases List.mem_cons.mp hf with rfl | hf
      · omega
      · exact hr f hf
section
variable {s : Int} {fs : List Int}
theorem inR_row {n : Nat} {row : List Nat} (h : ∀ f ∈ row, f < n) : InR n (rI row) := fun x hx => by
  obtain ⟨f, hf, rfl⟩ := List.mem_map.mp hx
  have := h f hf
  omega
theorem best_i (h : HOk s fs) (k : Nat) (g : G) {row : List Nat} (hrow : ∀ f ∈ row, f < fs.length) : den p (k + 1) 81 [hlD s fs, ti (rI row)] g = .ok (.int (hindR s fs row)) g := by
  have e0 : den p (k + 1) 81 [hlD s fs, ti (rI row)] g = endR (evB p.cs (den p k) b__law_best [.val (hlD s fs), .val (ti (rI row)), .no] g) := den_f H89.h__law_best rfl (by decide)
  rw [e0]
  have hs := h.s1
  have inner := lc_map (cs := p.cs) (call := den p k) (elt := (.idx (.idx (.var 0) (.cst (.int 1))) (.var 2))) (t := .var 2) (it := .seq (.var 1)) (Γ := [.val (hlD s fs), .val (ti (rI row)), .no]) (g := g) (l := rI row) (enc := D.int) (h := fun x => .int (fs.getD x.toNat 0))
    (by simp [ti]) (fun x hx g => by
      have hx2 := inR_row hrow x hx
      have a2 := ix_ti (l := fs) (j := x) hx2.1 (by omega)
      generalize fs.getD x.toNat 0 = y at *
      simp [a2])
  rw [li_map (fun x : Int => fs.getD x.toNat 0)] at inner
  have hR := inR_row hrow
  have es : biD .sorted [li ((rI row).map fun x => fs.getD x.toNat 0)] = some (li ((sortI (rI row)).map fun x => fs.getD x.toNat 0)) := by
    simp only [li, biD, ints_map, Option.map_some, sort_map h.up hR]
  generalize hS : sortI (rI row) = S at *
  have et := sl_take_l (S.map fun x => fs.getD x.toNat 0).reverse s.toNat
  rw [Int.toNat_of_nonneg (by omega)] at et
  have esum := sum_li ((S.map fun x => fs.getD x.toNat 0).reverse.take s.toNat)
  have key : ((S.map fun x => fs.getD x.toNat 0).reverse.take s.toNat).sum = hindR s fs row := by
    have hSR : InR fs.length (topI s.toNat S) := fun x hx => hR x ((sortI_perm' _).mem_iff.mp (hS ▸ List.mem_of_mem_drop hx))
    unfold hindR
    rw [seen_sort hs row hrow, hS, worth_cnt hSR]
    unfold topI
    rw [List.take_reverse, List.length_map, List.map_drop]
    exact sum_rev _
  rw [key] at esum
  have rv : evE p.cs (den p k) (.rev (.bi .sorted (.cons (.lc (.idx (.idx (.var 0) (.cst (.int 1))) (.var 2)) (.var 2) (.seq (.var 1)) none) .nil))) [.val (hlD s fs), .val (ti (rI row)), .no] g = .ok (li (S.map fun x => fs.getD x.toNat 0).reverse) g := by
    rw [x_rev, x_bi, a_cons, inner, r_ok, a_nil, r_ok, r_ok, es]
    simp [li]
  have fin : evB p.cs (den p k) b__law_best [.val (hlD s fs), .val (ti (rI row)), .no] g = .ok (.rt (.int (hindR s fs row))) g := by
    unfold b__law_best
    refine step_rt ?_
    rw [s_ret', x_bi, a_cons, x_sl, rv]
    simp only [r_ok, o_none, o_some, x_idx, x_var, x_cst, List.getElem?_cons_zero, List.getElem?_cons_succ, hl_0, l_some, et, a_nil, esum]
  rw [fin]; rfl
/-! ### nets -/
theorem wy_nested_paid {l : List Int} : ∀ (row : List Nat) (x : Wy), (row.foldl (wyStep s fs (.nested l)) x).paid = x.paid
  | [], x => rfl
  | f :: row, x => by
    rw [List.foldl_cons, wy_nested_paid row]
    show (stepR s fs (.nested l) x.c x.paid f).paid = _
    unfold stepR
    split
    · rfl
    · have : ousts fs (.nested l) x.c f = none := by unfold ousts; rfl
      rw [this]
theorem wyStep_c {r : Rl} (x y : Wy) (f : Nat) (h : x.c = y.c) : (wyStep s fs r x f).c = (wyStep s fs r y f).c := by
  show (stepR s fs r x.c x.paid f).c = (stepR s fs r y.c y.paid f).c
  rw [h]
  unfold stepR
  split
  · rfl
  · split <;> rfl
def bodyNe : B := (.cons (.asg (.var 3) (.idx (.call 80 (.cons (.var 0) (.cons (.tup (.cons (.cst (.str "nested")) (.cons (.var 1) .nil))) (.cons (.var 3) (.cons (.cst (.int 0)) (.cons (.var 4) .nil)))))) (.cst (.int 0)))) .nil)
theorem ne_w (h : HOk s fs) {l : List Int} (hr : ROk s fs.length (.nested l)) (k : Nat) (g : G) (z : Slot) : ∀ (row : List Nat) (x : Wy) (s4 : Slot), x.c.length = fs.length → x.paid = 0 → (∀ f ∈ row, f < fs.length) →
    ∃ t4, forR (fun x Γ g => (lift (setT (.var 4) x Γ) g).bind fun Γ' g => evB p.cs (den p (k + 6)) bodyNe Γ' g) ((rI row).map .int) [.val (hlD s fs), .val (ti l), z, .val (ti x.c), s4] g = .ok (.nx [.val (hlD s fs), .val (ti l), z, .val (ti (row.foldl (wyStep s fs (.nested l)) x).c), t4]) g
  | [], x, s4, _, _, _ => ⟨s4, rfl⟩
  | f :: row, x, s4, hx, hp, hrow => by
    have e := deal_i (p := p) h hr hx (hrow f List.mem_cons_self) k 0 g
    have hst : (stepR s fs (.nested l) x.c 0 f) = (stepR s fs (.nested l) x.c x.paid f) := by rw [hp]
    rw [hst] at e
    obtain ⟨t4, ih⟩ := ne_w h hr k g z row (wyStep s fs (.nested l) x f) (.val (.int (f : Int))) (by
      show (stepR s fs (.nested l) x.c x.paid f).c.length = _
      rw [step_len, hx]) (by have := wy_nested_paid (s := s) (fs := fs) (l := l) [f] x; rw [← hp]; exact this) (fun a ha => hrow a (List.mem_cons_of_mem _ ha))
    refine ⟨t4, ?_⟩
    simp only [rI, List.map_cons, forR, List.foldl_cons]
    have i0 : idxD (stepR s fs (.nested l) x.c x.paid f).d (.int 0) = some (ti (wyStep s fs (.nested l) x f).c) := rfl
    have st : (lift (setT (.var 4) (.int (f : Int)) [.val (hlD s fs), .val (ti l), z, .val (ti x.c), s4]) g).bind (fun Γ' g => evB p.cs (den p (k + 6)) bodyNe Γ' g) = .ok (.nx [.val (hlD s fs), .val (ti l), z, .val (ti (wyStep s fs (.nested l) x f).c), .val (.int (f : Int))]) g := by
      have ed : D.tup [.str "nested", ti l] = (Rl.nested l).d := rfl
      generalize (stepR s fs (.nested l) x.c x.paid f).d = SD at *
      generalize (Rl.nested l).d = RD at *
      simp [bodyNe, ed, e, i0]
    rw [st, r_ok]
    exact ih
theorem nets_i (h : HOk s fs) {l : List Int} (hr : ROk s fs.length (.nested l)) (k : Nat) (g : G) {row : List Nat} (hrow : RowOk fs.length row) : den p (k + 7) 79 [hlD s fs, ti l, ti (rI row)] g = .ok (.tup [.int (gotR s fs (.nested l) row), .int (hindR s fs row)]) g := by
  have e0 : den p (k + 7) 79 [hlD s fs, ti l, ti (rI row)] g = endR (evB p.cs (den p (k + 6)) b__law_nets [.val (hlD s fs), .val (ti l), .val (ti (rI row)), .no, .no] g) := den_f H89.h__law_nets rfl (by decide)
  rw [e0]
  have f1 := h.f1
  have f4 := h.f4
  obtain ⟨t4, e1⟩ := ne_w (p := p) h hr k g (.val (ti (rI row))) row ⟨List.replicate fs.length 0, 0, []⟩ .no (by simp) rfl hrow.2
  have rep : opD .mul (.tup [.int 0]) (.int (fs.length : Int)) = some (ti (List.replicate fs.length 0)) := by
    have c : ¬ ([D.int 0] = []) ∧ 1 ≤ (fs.length : Int) ∧ (fs.length : Int) ≤ 1000 ∧ [D.int 0].length ≤ 1000 := ⟨by simp, by omega, by omega, by decide⟩
    simp only [opD]
    rw [if_pos c]
    simp [ti, List.map_replicate]
  have w := wy_in h hr hrow
  have e2 := tworth_i (p := p) h (k + 5) g w.c
  have e3 := best_i (p := p) h (k + 5) g hrow.2
  have ep : (wy s fs (.nested l) row).paid = 0 := wy_nested_paid row _
  have eg : gotR s fs (.nested l) row = worthL fs (wy s fs (.nested l) row).c := by unfold gotR; rw [ep]; omega
  have fin : evB p.cs (den p (k + 6)) b__law_nets [.val (hlD s fs), .val (ti l), .val (ti (rI row)), .no, .no] g = .ok (.rt (.tup [.int (gotR s fs (.nested l) row), .int (hindR s fs row)])) g := by
    unfold b__law_nets
    refine step_nx (Γ1 := [.val (hlD s fs), .val (ti l), .val (ti (rI row)), .val (ti (List.replicate fs.length 0)), .no]) (g1 := g) (by simp [rep]) (step_nx (Γ1 := [.val (hlD s fs), .val (ti l), .val (ti (rI row)), .val (ti (wy s fs (.nested l) row).c), t4]) (g1 := g) ?_ (step_rt ?_))
    · rw [s_for']
      simp only [i_seq, x_var, List.getElem?_cons_zero, List.getElem?_cons_succ, r_ok, ti_it, ti_sq, l_some]
      exact e1
    · rw [eg]
      generalize ti (rI row) = Y at *
      simp [e2, e3]
  rw [fin]; rfl
theorem isless_i (k : Nat) (g : G) {a b c d : Int} (ha : Sm a) (hb : Sm b) (hc : Sm c) (hd : Sm d) : den p (k + 1) 83 [.tup [.int a, .int b], .tup [.int c, .int d]] g = .ok (.bl (decide (a * d < c * b))) g := by
  refine Eq.trans (den_f H89.h__law_is_less rfl (by decide)) ?_
  show endR (evB p.cs (den p k) b__law_is_less [.val (.tup [.int a, .int b]), .val (.tup [.int c, .int d])] g) = _
  have m1 := o_mul (mulOk ha hd)
  have m2 := o_mul (mulOk hc hb)
  simp [b__law_is_less, m1, m2]
theorem row_d (h : HOk s fs) (k : Nat) (g : G) (hs : g.spot + 100 < 2 ^ 60) : ∃ row g', den p (k + 1) 78 [.m, hlD s fs, .int 14] g = .ok (ti (rI row)) g' ∧ (∀ f ∈ row, f < fs.length) ∧ row.length ≤ 14 ∧ g'.spot ≤ g.spot + 15 := by
  have f1 := h.f1
  have f4 := h.f4
  obtain ⟨v, g2, e2, v0, v1, hg2⟩ := drw_ok (lim := 15) (g := g) (by decide) (by decide) (by omega)
  obtain ⟨ns, g3, e3, n1, n2, hg3⟩ := lc_draws (f := fun x g => (lift (setT (.var 3) x (wipeG [.val .m, .val (hlD s fs), .val (.int 14), .no] (T.var 3).vars)) g).bind fun Γ' g => (evE p.cs (den p k) (.draw (.var 0) (.bi .len (.cons (.idx (.var 1) (.cst (.int 1))) .nil))) Γ' g).bind fun y g => .ok (some y) g) (lim := (fs.length : Int)) (fun x g hg => by
    obtain ⟨u, g', e, u0, u1, hg'⟩ := drw_ok (lim := (fs.length : Int)) (g := g) (by omega) (by omega) hg
    exact ⟨u, g', by simp [-x_draw, x_drw, e], u0, u1, hg'⟩) (rngD 0 v.toNat) g2 (by rw [rngD_len]; omega)
  rw [rngD_len] at n1 hg3
  obtain ⟨row, erow, hrow⟩ := row_of89 n2
  have hrl : row.length = v.toNat := by
    have : (rI row).length = row.length := by simp [rI]
    rw [erow] at this
    omega
  refine ⟨row, g3, ?_, hrow, by omega, by omega⟩
  have e0 : den p (k + 1) 78 [.m, hlD s fs, .int 14] g = endR (evB p.cs (den p k) b__law_row [.val .m, .val (hlD s fs), .val (.int 14), .no] g) := den_f H89.h__law_row rfl (by decide)
  rw [e0]
  have lc : evE p.cs (den p k) (.lc (.draw (.var 0) (.bi .len (.cons (.idx (.var 1) (.cst (.int 1))) .nil))) (.var 3) (.rng1 (.draw (.var 0) (.bin .add (.var 2) (.cst (.int 1))))) none) [.val .m, .val (hlD s fs), .val (.int 14), .no] g = .ok (li (rI row)) g3 := by
    rw [x_lc0]
    have ei : evI p.cs (den p k) (.rng1 (.draw (.var 0) (.bin .add (.var 2) (.cst (.int 1))))) [.val .m, .val (hlD s fs), .val (.int 14), .no] g = .ok (rngD 0 v.toNat) g2 := by
      rw [i_rng1, x_drw]
      simp only [x_var, x_cst, x_bin, List.getElem?_cons_zero, List.getElem?_cons_succ, r_ok, o_add, l_some]
      rw [show (14 : Int) + 1 = 15 from rfl, e2, r_ok]
      exact if_pos (by omega)
    rw [ei, r_ok, e3, erow]
    rfl
  have bt : biD .tuple [li (rI row)] = some (ti (rI row)) := rfl
  have fin : evB p.cs (den p k) b__law_row [.val .m, .val (hlD s fs), .val (.int 14), .no] g = .ok (.rt (ti (rI row))) g3 := by
    unfold b__law_row
    refine step_rt ?_
    rw [s_ret', x_bi, a_cons, lc, r_ok, a_nil, r_ok, r_ok, bt]
    rfl
  rw [fin]; rfl
end
end Pk

set_option Elab.async false
set_option linter.all false
set_option maxRecDepth 100000
set_option maxHeartbeats 4000000
/-! Nested limits: no row does worse than calls that rise. -/
namespace Pk
open PySem Bk
/-! ### sums -/
theorem worth_cons (f : Int) (fs : List Int) (x : Int) (c : List Int) : worthL (f :: fs) (x :: c) = f * x + worthL fs c := by simp [worthL]
theorem worth_nil (c : List Int) : worthL [] c = 0 := by simp [worthL]
theorem worth_nil2 (fs : List Int) : worthL fs [] = 0 := by cases fs <;> simp [worthL]
theorem worth_split : ∀ (fs c : List Int) (k : Nat), worthL fs c = worthL (fs.take k) (c.take k) + worthL (fs.drop k) (c.drop k)
  | fs, c, 0 => by simp [worth_nil]
  | [], c, k + 1 => by simp [worth_nil]
  | f :: fs, [], k + 1 => by simp [worth_nil2]
  | f :: fs, x :: c, k + 1 => by
    have := worth_split fs c k
    simp only [List.take_succ_cons, List.drop_succ_cons, worth_cons]
    omega
theorem worth_hi {F : Int} (hF : 0 ≤ F) : ∀ (fs d : List Int), (∀ f ∈ fs, f ≤ F) → Nn d → worthL fs d ≤ F * d.sum
  | [], d, _, hd => by rw [worth_nil]; exact Int.mul_nonneg hF (sum_nn hd)
  | f :: fs, [], _, _ => by simp [worth_nil2]
  | f :: fs, x :: d, h, hd => by
    have ih := worth_hi hF fs d (fun y hy => h y (List.mem_cons_of_mem _ hy)) (fun y hy => hd y (List.mem_cons_of_mem _ hy))
    have h1 : f * x ≤ F * x := Int.mul_le_mul_of_nonneg_right (h f List.mem_cons_self) (hd x List.mem_cons_self)
    rw [worth_cons, List.sum_cons, Int.mul_add]
    omega
theorem worth_mono {F : Int} : ∀ (fs d c : List Int), d.length = fs.length → c.length = fs.length → (∀ f ∈ fs, F ≤ f) → (∀ k < fs.length, d.getD k 0 ≤ c.getD k 0) → worthL fs d - F * d.sum ≤ worthL fs c - F * c.sum
  | [], [], [], _, _, _, _ => Int.le_refl _
  | f :: fs, x :: d, y :: c, h1, h2, hF, hk => by
    have ih := worth_mono fs d c (by simpa using h1) (by simpa using h2) (fun z hz => hF z (List.mem_cons_of_mem _ hz)) (fun k hk2 => by
      have := hk (k + 1) (by simp; omega)
      simpa using this)
    have h0 : x ≤ y := by simpa using hk 0 (by simp)
    have h3 : 0 ≤ (f - F) * (y - x) := Int.mul_nonneg (by have := hF f List.mem_cons_self; omega) (by omega)
    rw [Int.sub_mul, Int.mul_sub, Int.mul_sub] at h3
    rw [worth_cons, worth_cons, List.sum_cons, List.sum_cons, Int.mul_add, Int.mul_add]
    omega
  | [], _ :: _, _, h1, _, _, _ => by simp at h1
  | [], [], _ :: _, _, h2, _, _ => by simp at h2
  | _ :: _, [], _, h1, _, _, _ => by simp at h1
  | _ :: _, _ :: _, [], _, h2, _, _ => by simp at h2
theorem up_all : ∀ {l : List Int} {a : Int}, Up a l → ∀ x ∈ l, a ≤ x
  | [], _, _, x, hx => by cases hx
  | b :: l, a, h, x, hx => by
    rcases List.mem_cons.mp hx with rfl | hx
    · exact h.1
    · have := up_all h.2 x hx
      have := h.1
      omega
theorem up_mono {l : List Int} {a b : Int} (h : Up b l) (hab : a ≤ b) : Up a l := by
  cases l with
  | nil => trivial
  | cons x l => exact ⟨Int.le_trans hab h.1, h.2⟩
/-- summation by parts -/
theorem abel : ∀ (fs cs ls : List Int) (f0 a q t : Int) (J : Nat), Up f0 fs → cs.length = fs.length → ls.length = fs.length → J < fs.length → q ≤ a → (∀ j ≤ J, q + (cs.take (j + 1)).sum ≤ ls.getD j 0) → q + (cs.take (J + 1)).sum = ls.getD J 0 →
    (gI fs ls a t).getD J 0 - t + fs.getD 0 0 * (a - q) ≤ worthL (fs.take (J + 1)) (cs.take (J + 1))
  | f :: fs, c :: cs, l :: ls, f0, a, q, t, 0, _, _, _, _, _, _, he => by
    simp at he
    simp [gI, worth_cons, worth_nil]
    have e : c = (l - a) + (a - q) := by omega
    rw [e, Int.mul_add]
    omega
  | f :: fs, c :: cs, l :: ls, f0, a, q, t, J + 1, hu, h1, h2, hJ, hq, hle, he => by
    have l0 : q + c ≤ l := by simpa using hle 0 (by omega)
    have ih := abel fs cs ls f l (q + c) (t + f * (l - a)) J hu.2 (by simpa using h1) (by simpa using h2) (by simpa using hJ) l0 (fun j hj => by
      have := hle (j + 1) (by omega)
      simp only [List.take_succ_cons, List.sum_cons, List.getD_cons_succ] at this
      omega) (by
      simp only [List.take_succ_cons, List.sum_cons, List.getD_cons_succ] at he
      omega)
    have hf : f ≤ fs.getD 0 0 := by
      cases fs with
      | nil => simp at hJ
      | cons f' fs => exact hu.2.1
    have h3 : f * (l - (q + c)) ≤ fs.getD 0 0 * (l - (q + c)) := Int.mul_le_mul_of_nonneg_right hf (by omega)
    simp only [gI, List.getD_cons_succ, List.getD_cons_zero, List.take_succ_cons, worth_cons] at ih ⊢
    have e1 : f * (l - (q + c)) = f * (l - a) + f * (a - q) - f * c := by
      rw [show l - (q + c) = (l - a) + (a - q) - c by omega, Int.mul_sub, Int.mul_add]
    omega
  | [], _, _, _, _, _, _, _, _, _, _, h, _, _, _ => by simp at h
  | _ :: _, [], _, _, _, _, _, _, _, h, _, _, _, _, _ => by simp at h
  | _ :: _, _ :: _, [], _, _, _, _, _, _, _, h, _, _, _, _ => by simp at h
theorem gI_le : ∀ (fs ls : List Int) (f0 a t : Int) (J : Nat), Up f0 fs → Up a ls → ls.length = fs.length → J < fs.length → (gI fs ls a t).getD J 0 ≤ t + fs.getD J 0 * (ls.getD J 0 - a)
  | f :: fs, l :: ls, f0, a, t, 0, _, _, _, _ => by simp [gI]
  | f :: fs, l :: ls, f0, a, t, J + 1, hu, hl, h2, hJ => by
    have ih := gI_le fs ls f l (t + f * (l - a)) J hu.2 hl.2 (by simpa using h2) (by simpa using hJ)
    have hm : fs.getD J 0 ∈ fs := mem_getD (by simpa using hJ)
    have hf : f ≤ fs.getD J 0 := up_all hu.2 _ hm
    have h3 : f * (l - a) ≤ fs.getD J 0 * (l - a) := Int.mul_le_mul_of_nonneg_right hf (by have := hl.1; omega)
    simp only [gI, List.getD_cons_succ]
    rw [show ls.getD J 0 - a = (ls.getD J 0 - l) + (l - a) by omega, Int.mul_add]
    omega
  | [], _, _, _, _, _, _, _, _, h => by simp at h
  | _ :: _, [], _, _, _, _, _, _, h, _ => by simp at h
/-! ### the invariant of a row by nested limits -/
structure NI (L c : List Int) (n : Nat → Int) : Prop where
  len : c.length = L.length
  nn : Nn c
  le : ∀ j < L.length, (c.take (j + 1)).sum ≤ L.getD j 0
  cn : ∀ k < L.length, c.getD k 0 ≤ n k
  ti : ∀ k < L.length, c.getD k 0 < n k → ∃ J, k ≤ J ∧ J < L.length ∧ (c.take (J + 1)).sum = L.getD J 0
theorem take_lo (c : List Int) (f k : Nat) (m : Int) (h : k ≤ f) : (addAt c f m).take k = c.take k := by
  unfold addAt
  rw [List.take_set_of_le h]
theorem nst_lt {L c : List Int} {f : Nat} (h : nst L c f = true) {j : Nat} (h1 : f ≤ j) (h2 : j < c.length) : (c.take (j + 1)).sum < L.getD j 0 := by
  unfold nst at h
  rw [List.all_eq_true] at h
  have := h (j - f) (List.mem_range.mpr (by omega))
  rw [show f + (j - f) = j by omega] at this
  exact of_decide_eq_true this
theorem nst_not {L c : List Int} {f : Nat} (h : nst L c f = false) : ∃ j, f ≤ j ∧ j < c.length ∧ L.getD j 0 ≤ (c.take (j + 1)).sum := by
  unfold nst at h
  rw [List.all_eq_false] at h
  obtain ⟨i, hi, hh⟩ := h
  have := List.mem_range.mp hi
  simp only [decide_eq_true_eq] at hh
  exact ⟨f + i, by omega, by omega, by omega⟩
theorem ni_step {s : Int} {fs L c : List Int} {n : Nat → Int} (hL : ∀ l ∈ L, l ≤ s) (h : NI L c n) {f : Nat} (hf : f < L.length) (paid : Int) : NI L (stepR s fs (.nested L) c paid f).c (fun k => n k + if k = f then 1 else 0) := by
  have hlen := h.len
  unfold stepR
  by_cases hA : c.sum < s ∧ (Rl.nested L).lets s c f = true
  · rw [if_pos hA]
    have hn : nst L c f = true := hA.2
    dsimp only
    refine ⟨by rw [addAt_len, hlen], addAt_nn (by omega) h.nn (by have := nn_get h.nn f; omega), fun j hj => ?_, fun k hk => ?_, fun k hk hlt => ?_⟩
    · by_cases hjf : f ≤ j
      · rw [take_addAt c f (j + 1) 1 (by omega) (by omega)]
        have := nst_lt hn hjf (by omega)
        omega
      · rw [take_lo c f (j + 1) 1 (by omega)]
        exact h.le j hj
    · rw [addAt_get c f k 1 (by omega)]
      have := h.cn k hk
      by_cases e : k = f
      · subst e; rw [if_pos rfl, if_pos rfl]; omega
      · rw [if_neg e, if_neg e]; omega
    · have hlt2 : c.getD k 0 < n k := by
        rw [addAt_get c f k 1 (by omega)] at hlt
        by_cases e : k = f
        · subst e; rw [if_pos rfl, if_pos rfl] at hlt; omega
        · rw [if_neg e, if_neg e] at hlt; omega
      obtain ⟨J, h1, h2, h3⟩ := h.ti k hk hlt2
      by_cases hJ : f ≤ J
      · have := nst_lt hn hJ (by omega)
        omega
      · exact ⟨J, h1, h2, by rw [take_lo c f (J + 1) 1 (by omega)]; exact h3⟩
  · rw [if_neg hA]
    have ho : ousts fs (.nested L) c f = none := by unfold ousts; rfl
    rw [ho]
    dsimp only
    refine ⟨hlen, h.nn, h.le, fun k hk => ?_, fun k hk hlt => ?_⟩
    · have := h.cn k hk
      split <;> omega
    · by_cases e : k = f
      · subst e
        by_cases hs : c.sum < s
        · have hn : nst L c k = false := by
            cases hh : nst L c k with
            | false => rfl
            | true => exact absurd ⟨hs, hh⟩ hA
          obtain ⟨j, h1, h2, h3⟩ := nst_not hn
          have := h.le j (by omega)
          exact ⟨j, h1, by omega, by omega⟩
        · have e1 : (c.take (L.length - 1 + 1)).sum = c.sum := by rw [List.take_of_length_le (by omega)]
          have h1 := h.le (L.length - 1) (by omega)
          have h2 := hL _ (mem_getD (l := L) (i := L.length - 1) (by omega))
          exact ⟨L.length - 1, by omega, by omega, by omega⟩
      · refine h.ti k hk ?_
        rw [if_neg e] at hlt
        omega
def cnR (row : List Nat) (k : Nat) : Int := ((row.filter fun f => decide (f = k)).length : Int)
theorem ni_row {s : Int} {fs L : List Int} (hL : ∀ l ∈ L, l ≤ s) : ∀ (row : List Nat) (x : Wy) (n : Nat → Int), NI L x.c n → (∀ f ∈ row, f < L.length) → NI L (row.foldl (wyStep s fs (.nested L)) x).c (fun k => n k + cnR row k)
  | [], x, n, h, _ => by simpa [cnR] using h
  | f :: row, x, n, h, hr => by
    have st := ni_step (fs := fs) hL h (hr f List.mem_cons_self) x.paid
    have := ni_row (fs := fs) hL row (wyStep s fs (.nested L) x f) _ st (fun a ha => hr a (List.mem_cons_of_mem _ ha))
    rw [List.foldl_cons]
    have e : (fun k => n k + cnR (f :: row) k) = (fun k => n k + (if k = f then 1 else 0) + cnR row k) := by
      funext k
      unfold cnR
      rw [List.filter_cons]
      by_cases e : k = f
      · subst e; simp; omega
      · have : ¬ f = k := fun z => e z.symm
        simp [e, this]
    rw [e]
    exact this
theorem seen_cn {s : Int} {m : Nat} : ∀ (row : List Nat) (c : List Int) (n : Nat → Int), c.length = m → (∀ f ∈ row, f < m) → (∀ k, c.getD k 0 ≤ n k) → ∀ k, (row.foldl (seenR s) c).getD k 0 ≤ n k + cnR row k
  | [], c, n, _, _, h, k => by simpa [cnR] using h k
  | f :: row, c, n, hc, hr, h, k => by
    have hf := hr f List.mem_cons_self
    have key : ∀ k, (seenR s c f).getD k 0 ≤ n k + (if k = f then 1 else 0) := fun k => by
      have h1 : (addAt c f 1).getD k 0 ≤ n k + (if k = f then 1 else 0) := by
        rw [addAt_get c f k 1 (by omega)]
        have := h k
        by_cases e : k = f
        · subst e; rw [if_pos rfl, if_pos rfl]; omega
        · rw [if_neg e, if_neg e]; omega
      unfold seenR
      split
      · exact h1
      · split
        · rename_i l hl
          rw [addAt_get _ _ _ _ (chp_lt hl)]
          split
          · rename_i e; subst e; omega
          · exact h1
        · exact h1
    have ih := seen_cn (s := s) row (seenR s c f) _ (by rw [seenR_len, hc]) (fun a ha => hr a (List.mem_cons_of_mem _ ha)) key k
    rw [List.foldl_cons]
    have e : cnR (f :: row) k = (if k = f then 1 else 0) + cnR row k := by
      unfold cnR
      rw [List.filter_cons]
      by_cases e : k = f
      · subst e; simp; omega
      · have : ¬ f = k := fun z => e z.symm
        simp [e, this]
    omega
theorem last_of (P : Nat → Prop) : ∀ n, (∃ J, J < n ∧ P J) → ∃ J, J < n ∧ P J ∧ ∀ k, J < k → k < n → ¬ P k
  | 0, ⟨J, h, _⟩ => by omega
  | n + 1, ⟨J, h, hP⟩ => by
    by_cases hn : P n
    · exact ⟨n, by omega, hn, fun k h1 h2 => by omega⟩
    · have : J ≠ n := fun e => hn (e ▸ hP)
      obtain ⟨K, h1, h2, h3⟩ := last_of P n ⟨J, by omega, hP⟩
      refine ⟨K, by omega, h2, fun k h4 h5 => ?_⟩
      by_cases e : k = n
      · rw [e]; exact hn
      · exact h3 k h4 (by omega)
/-- no row does worse than the calls that rise -/
theorem nested_bound {s : Int} {fs L : List Int} (h : HOk s fs) (hl : L.length = fs.length) (hL : ∀ l ∈ L, 0 ≤ l ∧ l ≤ s) (hu : Up 0 L) {row : List Nat} (hrow : ∀ f ∈ row, f < fs.length) :
    hindR s fs row ≤ gotR s fs (.nested L) row ∨ ∃ J, J < fs.length ∧ hindR s fs row - gotR s fs (.nested L) row ≤ s * fs.getD J 0 - (gI fs L 0 0).getD J 0 ∧ (gI fs L 0 0).getD J 0 * hindR s fs row ≤ gotR s fs (.nested L) row * (s * fs.getD J 0) := by
  have hs := h.s1
  have zero_take : ∀ j, ((List.replicate fs.length (0 : Int)).take j).sum = 0 := fun j => by
    rw [List.take_replicate]
    have := rep_in (s := 0) (by decide) (min j fs.length)
    have h1 := this.sum
    have h2 := sum_nn this.nn
    omega
  have zero_get : ∀ k, (List.replicate fs.length (0 : Int)).getD k 0 = 0 := fun k => by
    rw [List.getD_eq_getElem?_getD, List.getElem?_replicate]
    split <;> rfl
  have ni0 : NI L (List.replicate fs.length 0) (fun _ => 0) := ⟨by simp [hl], (rep_in (s := s) (by omega) _).nn, fun j hj => by
    rw [zero_take]
    exact (hL _ (mem_getD hj)).1, fun k hk => by rw [zero_get]; exact Int.le_refl _, fun k hk hlt => by rw [zero_get] at hlt; omega⟩
  have ni := ni_row (s := s) (fs := fs) (fun l hl => (hL l hl).2) row ⟨List.replicate fs.length 0, 0, []⟩ _ ni0 (by rw [hl]; exact hrow)
  have sc := seen_cn (s := s) (m := fs.length) row (List.replicate fs.length 0) (fun _ => 0) (by simp) hrow (fun k => by rw [zero_get]; exact Int.le_refl _)
  have sIn : CIn s fs.length (seenL s fs.length row) := seens_in hs row _ hrow (rep_in (by omega) _)
  have ep : (wy s fs (.nested L) row).paid = 0 := wy_nested_paid row _
  have eg : gotR s fs (.nested L) row = worthL fs (wy s fs (.nested L) row).c := by unfold gotR; rw [ep]; omega
  have eh : hindR s fs row = worthL fs (seenL s fs.length row) := rfl
  rw [eg, eh]
  change NI L (wy s fs (.nested L) row).c _ at ni
  have hfn : ∀ f ∈ fs, 1 ≤ f := fun f hf => (h.f f hf).1
  have hsd : ∀ k, (seenL s fs.length row).getD k 0 ≤ 0 + cnR row k := sc
  generalize (wy s fs (.nested L) row).c = c at *
  generalize seenL s fs.length row = d at *
  have hcl : c.length = fs.length := by rw [ni.len, hl]
  have hdl := sIn.len
  by_cases ht : ∃ J, J < L.length ∧ (c.take (J + 1)).sum = L.getD J 0
  · right
    obtain ⟨J, h1, h2, h3⟩ := last_of (fun J => (c.take (J + 1)).sum = L.getD J 0) L.length ht
    have hJ : J < fs.length := by omega
    refine ⟨J, hJ, ?_⟩
    have hupf : Up 0 fs := upS_up h.up (fun b hb => by
      have := hfn b (List.mem_of_mem_head? hb)
      omega)
    have hF := hfn _ (mem_getD hJ)
    have X := abel fs c L 0 0 0 0 J hupf hcl hl hJ (Int.le_refl _) (fun j hj => by
      have := ni.le j (by omega)
      omega) (by omega)
    have gle := gI_le fs L 0 0 0 J hupf hu hl hJ
    have g0 : 0 ≤ (gI fs L 0 0).getD J 0 := by
      have hm : (gI fs L 0 0).getD J 0 ∈ gI fs L 0 0 := mem_getD (by rw [gI_len]; omega)
      exact (gI_bd (M := s) h.f hu (Int.le_refl _) (fun l hl => (hL l hl).2) _ hm).1
    have hLJ := hL _ (mem_getD (l := L) (i := J) h1)
    -- what is above J
    have hd2 : ∀ k < (fs.drop (J + 1)).length, (d.drop (J + 1)).getD k 0 ≤ (c.drop (J + 1)).getD k 0 := fun k hk => by
      rw [List.length_drop] at hk
      have e1 : ∀ l : List Int, (l.drop (J + 1)).getD k 0 = l.getD (J + 1 + k) 0 := fun l => by
        simp [List.getD_eq_getElem?_getD, List.getElem?_drop]
      rw [e1, e1]
      have a1 := hsd (J + 1 + k)
      have a2 := ni.cn (J + 1 + k) (by omega)
      by_cases hlt : c.getD (J + 1 + k) 0 < 0 + cnR row (J + 1 + k)
      · obtain ⟨J', b1, b2, b3⟩ := ni.ti (J + 1 + k) (by omega) hlt
        exact absurd b3 (h3 J' (by omega) b2)
      · omega
    have hhi : ∀ f ∈ fs.drop (J + 1), fs.getD J 0 ≤ f := fun f hf => by
      obtain ⟨i, hi⟩ := List.getElem?_of_mem hf
      rw [List.getElem?_drop] at hi
      have hlt := (List.getElem?_eq_some_iff.mp hi).1
      have := up_get h.up J (J + 1 + i) (by omega) hlt
      rw [List.getD_eq_getElem?_getD (l := fs) (i := J + 1 + i), hi] at this
      exact this
    have hlo : ∀ f ∈ fs.take (J + 1), f ≤ fs.getD J 0 := fun f hf => by
      obtain ⟨i, hi⟩ := List.getElem?_of_mem hf
      have hlt := (List.getElem?_eq_some_iff.mp hi).1
      rw [List.length_take] at hlt
      rw [List.getElem?_take_of_lt (by omega)] at hi
      have := up_get h.up i J (by omega) hJ
      rw [List.getD_eq_getElem?_getD (l := fs) (i := i), hi] at this
      exact this
    have nd : Nn (d.take (J + 1)) := fun x hx => sIn.nn x (List.mem_of_mem_take hx)
    have ndr : Nn (d.drop (J + 1)) := fun x hx => sIn.nn x (List.mem_of_mem_drop hx)
    have ncr : Nn (c.drop (J + 1)) := fun x hx => ni.nn x (List.mem_of_mem_drop hx)
    have B1 := worth_hi (F := fs.getD J 0) (by omega) (fs.take (J + 1)) (d.take (J + 1)) hlo nd
    have B2 := worth_mono (F := fs.getD J 0) (fs.drop (J + 1)) (d.drop (J + 1)) (c.drop (J + 1)) (by simp [hdl]) (by simp [hcl]) hhi hd2
    have B0 := worth_mono (F := fs.getD J 0) (fs.drop (J + 1)) (List.replicate (fs.drop (J + 1)).length 0) (c.drop (J + 1)) (by simp) (by simp [hcl]) hhi (fun k hk => by
      have e1 : (List.replicate (fs.drop (J + 1)).length (0 : Int)).getD k 0 = 0 := by
        rw [List.getD_eq_getElem?_getD, List.getElem?_replicate]
        split <;> rfl
      rw [e1]
      exact nn_get ncr k)
    rw [worth_rep] at B0
    have z0 : (List.replicate (fs.drop (J + 1)).length (0 : Int)).sum = 0 := by
      have := rep_in (s := 0) (by decide) (fs.drop (J + 1)).length
      have h1 := this.sum
      have h2 := sum_nn this.nn
      omega
    rw [z0] at B0
    have sd : (d.take (J + 1)).sum + (d.drop (J + 1)).sum = d.sum := by rw [← sum_app, List.take_append_drop]
    have hds := sIn.sum
    have Fs : fs.getD J 0 * ((d.take (J + 1)).sum + (d.drop (J + 1)).sum) ≤ fs.getD J 0 * s := Int.mul_le_mul_of_nonneg_left (by omega) (by omega)
    rw [Int.mul_add] at Fs
    have wd := worth_split fs d (J + 1)
    have wc := worth_split fs c (J + 1)
    have N0 : 0 ≤ (c.drop (J + 1)).sum := sum_nn ncr
    have FN : 0 ≤ fs.getD J 0 * (c.drop (J + 1)).sum := Int.mul_nonneg (by omega) N0
    have GF : (gI fs L 0 0).getD J 0 ≤ s * fs.getD J 0 := by
      have : fs.getD J 0 * (L.getD J 0 - 0) ≤ fs.getD J 0 * s := Int.mul_le_mul_of_nonneg_left (by omega) (by omega)
      rw [Int.mul_comm s]
      omega
    simp only [Int.sub_zero, Int.mul_zero, Int.add_zero] at X B0
    rw [Int.mul_comm (fs.getD J 0) s] at Fs
    generalize (gI fs L 0 0).getD J 0 = Gj at *
    generalize fs.getD J 0 = F at *
    generalize worthL (fs.take (J + 1)) (c.take (J + 1)) = Xc at *
    generalize worthL (fs.drop (J + 1)) (c.drop (J + 1)) = A at *
    generalize (c.drop (J + 1)).sum = N at *
    generalize worthL (fs.take (J + 1)) (d.take (J + 1)) = Yd at *
    generalize worthL (fs.drop (J + 1)) (d.drop (J + 1)) = Bd at *
    rw [wd, wc]
    constructor
    · omega
    · have hb : Yd + Bd ≤ s * F - F * N + A := by omega
      have m1 : Gj * (Yd + Bd) ≤ Gj * (s * F - F * N + A) := Int.mul_le_mul_of_nonneg_left hb g0
      have m2 : (Gj + A) * (s * F) ≤ (Xc + A) * (s * F) := Int.mul_le_mul_of_nonneg_right (by omega) (Int.mul_nonneg (by omega) (by omega))
      have m3 : 0 ≤ A * (s * F - Gj) := Int.mul_nonneg (by omega) (by omega)
      have m4 : 0 ≤ Gj * (F * N) := Int.mul_nonneg g0 FN
      have e1 : Gj * (s * F - F * N + A) = Gj * (s * F) - Gj * (F * N) + Gj * A := by rw [Int.mul_add, Int.mul_sub]
      rw [e1] at m1
      have e2 : (Gj + A) * (s * F) = Gj * (s * F) + A * (s * F) := Int.add_mul _ _ _
      rw [e2] at m2
      rw [Int.mul_sub] at m3
      have c1 : A * Gj = Gj * A := Int.mul_comm _ _
      omega
  · left
    have hk : ∀ k < fs.length, d.getD k 0 ≤ c.getD k 0 := fun k hk => by
      have a1 := hsd k
      by_cases hlt : c.getD k 0 < 0 + cnR row k
      · obtain ⟨J', b1, b2, b3⟩ := ni.ti k (by omega) hlt
        exact absurd ⟨J', b2, b3⟩ ht
      · omega
    have := worth_mono (F := 0) fs d c hdl hcl (fun f hf => by have := hfn f hf; omega) hk
    omega
end Pk

set_option Elab.async false
set_option linter.all false
set_option maxRecDepth 100000
set_option maxHeartbeats 4000000
/-! Nested limits: calls that rise do as bad as told. -/
namespace Pk
open PySem Bk
def prv (L : List Int) : Nat → Int
  | 0 => 0
  | j + 1 => L.getD j 0
def FF (L : List Int) (K : Nat) (m : Int) (j : Nat) : Int := if j < K then L.getD j 0 - prv L j else if j = K then m else 0
def cKm (L : List Int) (n K : Nat) (m : Int) : List Int := (List.range n).map (FF L K m)
theorem cKm_len (L : List Int) (n K : Nat) (m : Int) : (cKm L n K m).length = n := by simp [cKm]
theorem cKm_get (L : List Int) {n : Nat} (K : Nat) (m : Int) {j : Nat} (hj : j < n) : (cKm L n K m).getD j 0 = FF L K m j := by
  simp [cKm, hj]
theorem sum_FF (L : List Int) (K : Nat) (m : Int) : ∀ i, ((List.range i).map (FF L K m)).sum = if i ≤ K then prv L i else prv L K + m
  | 0 => by simp [prv]
  | i + 1 => by
    rw [List.range_succ, List.map_append, sum_app, sum_FF L K m i]
    simp only [List.map_cons, List.map_nil, List.sum_cons, List.sum_nil]
    unfold FF
    by_cases h1 : i < K
    · rw [if_pos (by omega), if_pos h1, if_pos (by omega)]
      show _ = L.getD i 0
      omega
    · by_cases h2 : i = K
      · subst h2
        rw [if_pos (by omega), if_neg (by omega), if_pos rfl, if_neg (by omega)]
        omega
      · rw [if_neg (by omega), if_neg h1, if_neg h2, if_neg (by omega)]
        omega
theorem take_cKm (L : List Int) {n K : Nat} {m : Int} {i : Nat} (hi : i ≤ n) : ((cKm L n K m).take i).sum = if i ≤ K then prv L i else prv L K + m := by
  rw [← sum_FF, cKm, ← List.map_take, List.take_range, Nat.min_eq_left hi]
theorem up_getD : ∀ {l : List Int} {a : Int}, Up a l → ∀ i j, i ≤ j → j < l.length → l.getD i 0 ≤ l.getD j 0
  | [], _, _, i, j, _, h => by simp at h
  | b :: l, a, h, i, j, hij, hj => by
    cases j with
    | zero => have : i = 0 := by omega
              subst this; exact Int.le_refl _
    | succ j =>
      have hj2 : j < l.length := by simpa using hj
      cases i with
      | zero =>
        have := up_all h.2 _ (mem_getD hj2)
        simpa using this
      | succ i => simpa using up_getD h.2 i j (by omega) hj2
theorem prv_le {L : List Int} (hu : Up 0 L) {K : Nat} (hK : K < L.length) : prv L K ≤ L.getD K 0 := by
  cases K with
  | zero => exact up_all hu _ (mem_getD hK)
  | succ K => exact up_getD hu K (K + 1) (by omega) hK
section
variable {s : Int} {fs L : List Int}
theorem blk_step (hl : L.length = fs.length) (hL : ∀ l ∈ L, 0 ≤ l ∧ l ≤ s) (hu : Up 0 L) {K : Nat} (hK : K < fs.length) {m : Int} (h0 : 0 ≤ m) (h1 : m ≤ L.getD K 0 - prv L K) (paid : Int) :
    (stepR s fs (.nested L) (cKm L fs.length K m) paid K).c = cKm L fs.length K (if m < L.getD K 0 - prv L K then m + 1 else m) := by
  have hs := (hL _ (mem_getD (l := L) (i := K) (by omega))).2
  have esum : (cKm L fs.length K m).sum = prv L K + m := by
    have := take_cKm L (n := fs.length) (K := K) (m := m) (i := fs.length) (Nat.le_refl _)
    rw [List.take_of_length_le (by rw [cKm_len]; exact Nat.le_refl _), if_neg (by omega)] at this
    exact this
  unfold stepR
  by_cases hm : m < L.getD K 0 - prv L K
  · have hn : nst L (cKm L fs.length K m) K = true := by
      unfold nst
      rw [List.all_eq_true]
      intro i hi
      have hi2 := List.mem_range.mp hi
      rw [cKm_len] at hi2
      rw [take_cKm L (by omega), if_neg (by omega)]
      have := up_getD hu K (K + i) (by omega) (by omega)
      exact decide_eq_true (by omega)
    rw [if_pos ⟨by omega, hn⟩, if_pos hm]
    dsimp only
    apply getD_ext
    · rw [addAt_len, cKm_len, cKm_len]
    · intro j hj
      rw [addAt_len, cKm_len] at hj
      rw [addAt_get _ _ _ _ (by rw [cKm_len]; exact hK), cKm_get L K m hK, cKm_get L K m hj, cKm_get L K (m + 1) hj]
      unfold FF
      by_cases e : j = K
      · subst e
        simp
      · simp [e]
  · have hn : nst L (cKm L fs.length K m) K = false := by
      unfold nst
      rw [List.all_eq_false]
      refine ⟨0, List.mem_range.mpr (by rw [cKm_len]; omega), ?_⟩
      rw [take_cKm L (by omega), if_neg (by omega)]
      simp only [Nat.add_zero, decide_eq_true_eq]
      omega
    have hA : ¬ ((cKm L fs.length K m).sum < s ∧ (Rl.nested L).lets s (cKm L fs.length K m) K = true) := fun z => by
      have : nst L (cKm L fs.length K m) K = true := z.2
      rw [hn] at this
      cases this
    rw [if_neg hA, if_neg hm]
    have ho : ousts fs (.nested L) (cKm L fs.length K m) K = none := by unfold ousts; rfl
    rw [ho]
theorem blk (hl : L.length = fs.length) (hL : ∀ l ∈ L, 0 ≤ l ∧ l ≤ s) (hu : Up 0 L) {K : Nat} (hK : K < fs.length) : ∀ (t : Nat) (x : Wy) (m : Int), x.c = cKm L fs.length K m → 0 ≤ m → m ≤ L.getD K 0 - prv L K →
    ((List.replicate t K).foldl (wyStep s fs (.nested L)) x).c = cKm L fs.length K (if m + t < L.getD K 0 - prv L K then m + t else L.getD K 0 - prv L K)
  | 0, x, m, hx, h0, h1 => by
    rw [List.replicate_zero, List.foldl_nil, hx]
    congr 1
    split <;> omega
  | t + 1, x, m, hx, h0, h1 => by
    rw [List.replicate_succ, List.foldl_cons]
    have st : (wyStep s fs (.nested L) x K).c = cKm L fs.length K (if m < L.getD K 0 - prv L K then m + 1 else m) := by
      show (stepR s fs (.nested L) x.c x.paid K).c = _
      rw [hx]
      exact blk_step hl hL hu hK h0 h1 _
    rw [blk hl hL hu hK t _ _ st (by split <;> omega) (by split <;> omega)]
    congr 1
    split <;> split <;> (try split) <;> omega
def fullR (s : Int) : Nat → List Nat
  | 0 => []
  | K + 1 => fullR s K ++ List.replicate s.toNat K
theorem full_c (hs : 1 ≤ s) (hl : L.length = fs.length) (hL : ∀ l ∈ L, 0 ≤ l ∧ l ≤ s) (hu : Up 0 L) : ∀ K, K ≤ fs.length → (wy s fs (.nested L) (fullR s K)).c = cKm L fs.length K 0
  | 0, _ => by
    show List.replicate fs.length 0 = _
    apply getD_ext
    · rw [cKm_len]; simp
    · intro j hj
      rw [List.length_replicate] at hj
      rw [cKm_get L 0 0 hj, List.getD_eq_getElem?_getD, List.getElem?_replicate, if_pos hj]
      unfold FF
      simp
  | K + 1, hK => by
    have ih := full_c hs hl hL hu K (by omega)
    have e : wy s fs (.nested L) (fullR s (K + 1)) = (List.replicate s.toNat K).foldl (wyStep s fs (.nested L)) (wy s fs (.nested L) (fullR s K)) := by
      simp [wy, fullR, List.foldl_append]
    have hLK := hL _ (mem_getD (l := L) (i := K) (by omega))
    have hp := prv_le hu (K := K) (by omega)
    have hp0 : 0 ≤ prv L K := by
      cases K with
      | zero => exact Int.le_refl _
      | succ K => exact (hL _ (mem_getD (l := L) (i := K) (by omega))).1
    rw [e, blk hl hL hu (by omega) s.toNat _ 0 ih (Int.le_refl _) (by omega)]
    rw [if_neg (by omega)]
    unfold cKm
    congr 1
    funext j
    unfold FF
    by_cases h1 : j < K
    · rw [if_pos h1, if_pos (by omega)]
    · by_cases h2 : j = K
      · subst h2
        rw [if_neg h1, if_pos rfl, if_pos (by omega)]
      · rw [if_neg h1, if_neg h2, if_neg (by omega)]
        split <;> rfl
theorem gI_succ : ∀ (fs ls : List Int) (a t : Int) (j : Nat), j + 1 < fs.length → ls.length = fs.length → (gI fs ls a t).getD (j + 1) 0 = (gI fs ls a t).getD j 0 + fs.getD (j + 1) 0 * (ls.getD (j + 1) 0 - ls.getD j 0)
  | f :: f' :: fs, l :: l' :: ls, a, t, 0, _, _ => by simp [gI]
  | f :: f' :: fs, l :: l' :: ls, a, t, j + 1, h, h2 => by
    have := gI_succ (f' :: fs) (l' :: ls) l (t + f * (l - a)) j (by simpa using h) (by simpa using h2)
    simp only [gI, List.getD_cons_succ] at this ⊢
    exact this
  | [], _, _, _, _, h, _ => by simp at h
  | [_], _, _, _, _, h, _ => by simp at h
  | _ :: _ :: _, [], _, _, _, _, h => by simp at h
  | _ :: _ :: _, [_], _, _, _, _, h => by simp at h
def GG (fs L : List Int) : Nat → Int
  | 0 => 0
  | j + 1 => (gI fs L 0 0).getD j 0
theorem GG_succ (hl : L.length = fs.length) {j : Nat} (hj : j < fs.length) : GG fs L (j + 1) = GG fs L j + fs.getD j 0 * (L.getD j 0 - prv L j) := by
  cases j with
  | zero =>
    cases fs with
    | nil => simp at hj
    | cons f fs =>
      cases L with
      | nil => simp at hl
      | cons l L => simp [GG, gI, prv]
  | succ j => exact gI_succ fs L 0 0 j hj hl
theorem sum_GG (hl : L.length = fs.length) {K : Nat} (hK : K ≤ fs.length) : ∀ i, i ≤ fs.length → ((List.range i).map fun j => fs.getD j 0 * FF L K 0 j).sum = GG fs L (min i K)
  | 0, _ => by simp [GG]
  | i + 1, hi => by
    rw [List.range_succ, List.map_append, sum_app, sum_GG hl hK i (by omega)]
    simp only [List.map_cons, List.map_nil, List.sum_cons, List.sum_nil, Int.add_zero]
    unfold FF
    by_cases h1 : i < K
    · rw [if_pos h1, Nat.min_eq_left (by omega), Nat.min_eq_left (by omega), GG_succ hl (by omega)]
    · rw [if_neg h1, Nat.min_eq_right (by omega), Nat.min_eq_right (by omega)]
      split <;> simp
theorem full_got (hs : 1 ≤ s) (hl : L.length = fs.length) (hL : ∀ l ∈ L, 0 ≤ l ∧ l ≤ s) (hu : Up 0 L) {K : Nat} (hK : K < fs.length) : gotR s fs (.nested L) (fullR s (K + 1)) = (gI fs L 0 0).getD K 0 := by
  have ep : (wy s fs (.nested L) (fullR s (K + 1))).paid = 0 := wy_nested_paid _ _
  unfold gotR
  rw [ep, full_c hs hl hL hu (K + 1) (by omega), worthL, ← zip_range fs _ (cKm_len _ _ _ _), cKm_len]
  have e : ((List.range fs.length).map fun i => fs.getD i 0 * (cKm L fs.length (K + 1) 0).getD i 0) = (List.range fs.length).map fun i => fs.getD i 0 * FF L (K + 1) 0 i := by
    apply List.map_congr_left
    intro i hi
    rw [cKm_get L (K + 1) 0 (List.mem_range.mp hi)]
  rw [e, sum_GG hl (by omega) fs.length (Nat.le_refl _), Nat.min_eq_right (by omega)]
  show (gI fs L 0 0).getD K 0 - 0 = _
  omega
theorem full_lt : ∀ K, ∀ f ∈ fullR s K, f < K
  | 0, f, h => by cases h
  | K + 1, f, h => by
    rcases List.mem_append.mp h with h | h
    · have := full_lt K f h; omega
    · have := (List.mem_replicate.mp h).2; omega
theorem full_len : ∀ K, (fullR s K).length = K * s.toNat
  | 0 => by simp [fullR]
  | K + 1 => by rw [fullR, List.length_append, full_len K, List.length_replicate, Nat.succ_mul]
theorem full_sorted : ∀ K, (rI (fullR s K)).Pairwise (· ≤ ·)
  | 0 => List.Pairwise.nil
  | K + 1 => by
    have e : rI (fullR s (K + 1)) = rI (fullR s K) ++ List.replicate s.toNat (K : Int) := by simp [rI, fullR]
    rw [e, List.pairwise_append]
    refine ⟨full_sorted K, List.pairwise_replicate.mpr (.inr (Int.le_refl _)), fun a ha b hb => ?_⟩
    obtain ⟨f, hf, rfl⟩ := List.mem_map.mp ha
    have := full_lt K f hf
    rw [(List.mem_replicate.mp hb).2]
    omega
theorem sum_rep (n : Nat) (x : Int) : (List.replicate n x).sum = n * x := by
  induction n with
  | zero => simp
  | succ n ih =>
    rw [List.replicate_succ, List.sum_cons, ih]
    push_cast
    rw [Int.add_mul]
    omega
theorem full_hind (h : HOk s fs) {K : Nat} (hK : K < fs.length) : hindR s fs (fullR s (K + 1)) = s * fs.getD K 0 := by
  have hs := h.s1
  have hrow : ∀ f ∈ fullR s (K + 1), f < fs.length := fun f hf => by have := full_lt (K + 1) f hf; omega
  have e : rI (fullR s (K + 1)) = rI (fullR s K) ++ List.replicate s.toNat (K : Int) := by simp [rI, fullR]
  have et : topI s.toNat (rI (fullR s (K + 1))) = List.replicate s.toNat (K : Int) := by
    unfold topI
    rw [e, List.length_append, List.length_replicate, show (rI (fullR s K)).length + s.toNat - s.toNat = (rI (fullR s K)).length by omega, List.drop_left]
  unfold hindR
  rw [seen_sort hs _ hrow, sortI_id (full_sorted _), et, worth_cnt (fun x hx => by rw [(List.mem_replicate.mp hx).2]; omega), List.map_replicate, sum_rep]
  rw [Int.toNat_of_nonneg (by omega)]
  simp
end
end Pk

set_option Elab.async false
set_option linter.all false
set_option maxRecDepth 100000
set_option maxHeartbeats 2000000
/-! k88: going through all that can be sold, plainly. -/
namespace Pk
open PySem Bk
/-! ### rows in their order -/
def lx : List Nat → List Nat → Bool
  | a :: as, b :: bs => decide (a < b) || (decide (a = b) && lx as bs)
  | _, _ => false
theorem lx_same (f f' : Nat) (h : f < f') : ∀ r : List Nat, lx (r ++ [f]) (r ++ [f']) = true
  | [] => by simp [lx, h]
  | a :: r => by simp [lx, lx_same f f' h r]
theorem lx_app (f f' : Nat) : ∀ (r r' : List Nat), r.length = r'.length → lx r r' = true → lx (r ++ [f]) (r' ++ [f']) = true
  | [], [], _, h => by simp [lx] at h
  | [], _ :: _, h, _ => by simp at h
  | _ :: _, [], h, _ => by simp at h
  | a :: r, b :: r', hl, h => by
    simp only [lx, Bool.or_eq_true, decide_eq_true_eq, Bool.and_eq_true] at h
    simp only [List.cons_append, lx, Bool.or_eq_true, decide_eq_true_eq, Bool.and_eq_true]
    rcases h with h | ⟨h1, h2⟩
    · exact .inl h
    · exact .inr ⟨h1, lx_app f f' r r' (by simpa using hl) h2⟩
theorem lx_not : ∀ (r r' : List Nat), lx r r' = true → ¬ (rI r' < rI r)
  | [], [], h => by simp [lx] at h
  | [], _ :: _, h => by simp [lx] at h
  | _ :: _, [], h => by simp [lx] at h
  | a :: r, b :: r', h => by
    simp only [lx, Bool.or_eq_true, decide_eq_true_eq, Bool.and_eq_true] at h
    intro z
    have z' : (b : Int) :: rI r' < (a : Int) :: rI r := z
    rw [List.cons_lt_cons_iff] at z'
    rcases h with h | ⟨h1, h2⟩
    · rcases z' with z' | ⟨z1, z2⟩ <;> omega
    · rcases z' with z' | ⟨z1, z2⟩
      · omega
      · exact lx_not r r' h2 z2
/-! ### one layer -/
section
variable (nx : List Int → Nat → List Int)
abbrev Itm := List Int × List Nat × Nat
def vis : List Itm → List (List Int) → List (List Int × List Nat) → List (List Int) × List (List Int × List Nat)
  | [], kn, fu => (kn, fu)
  | q :: l, kn, fu => if nx q.1 q.2.2 ∈ kn then vis l kn fu else vis l (kn ++ [nx q.1 q.2.2]) (fu ++ [(nx q.1 q.2.2, q.2.1 ++ [q.2.2])])
def its (n : Nat) (layer : List (List Int × List Nat)) : List Itm := layer.flatMap fun q => (List.range n).map fun f => (q.1, q.2, f)
theorem vis_app : ∀ (a b : List Itm) (kn : List (List Int)) (fu : List (List Int × List Nat)), vis nx (a ++ b) kn fu = vis nx b (vis nx a kn fu).1 (vis nx a kn fu).2
  | [], _, _, _ => rfl
  | q :: a, b, kn, fu => by
    simp only [List.cons_append, vis]
    split
    · exact vis_app a b _ _
    · exact vis_app a b _ _
theorem vis_sub : ∀ (l : List Itm) (kn : List (List Int)) (fu : List (List Int × List Nat)), ∃ l' : List Itm, l'.Sublist l ∧ (vis nx l kn fu).1 = kn ++ l'.map (fun q => nx q.1 q.2.2) ∧ (vis nx l kn fu).2 = fu ++ l'.map (fun q => (nx q.1 q.2.2, q.2.1 ++ [q.2.2]))
  | [], kn, fu => ⟨[], .slnil, by simp [vis], by simp [vis]⟩
  | q :: l, kn, fu => by
    simp only [vis]
    split
    · obtain ⟨l', h1, h2, h3⟩ := vis_sub l kn fu
      exact ⟨l', h1.cons _, h2, h3⟩
    · obtain ⟨l', h1, h2, h3⟩ := vis_sub l (kn ++ [nx q.1 q.2.2]) (fu ++ [(nx q.1 q.2.2, q.2.1 ++ [q.2.2])])
      exact ⟨q :: l', h1.cons₂ _, by rw [h2]; simp, by rw [h3]; simp⟩
theorem vis_nodup : ∀ (l : List Itm) (kn : List (List Int)) (fu : List (List Int × List Nat)), kn.Nodup → (vis nx l kn fu).1.Nodup
  | [], _, _, h => h
  | q :: l, kn, fu, h => by
    simp only [vis]
    split
    · exact vis_nodup l kn fu h
    · rename_i hn
      refine vis_nodup l _ _ ?_
      rw [List.nodup_append]
      exact ⟨h, by simp, fun a ha b hb => by
        simp at hb
        subst hb
        exact fun e => hn (e ▸ ha)⟩
/-- two ways of going on that are the same here -/
theorem vis_congr {nx' : List Int → Nat → List Int} : ∀ (l : List Itm) (kn : List (List Int)) (fu : List (List Int × List Nat)), (∀ q ∈ l, nx q.1 q.2.2 = nx' q.1 q.2.2) → vis nx l kn fu = vis nx' l kn fu
  | [], _, _, _ => rfl
  | q :: l, kn, fu, h => by
    simp only [vis]
    rw [h q List.mem_cons_self, vis_congr l _ _ fun a ha => h a (List.mem_cons_of_mem _ ha), vis_congr l _ _ fun a ha => h a (List.mem_cons_of_mem _ ha)]
variable (df : List Int → Nat → Bool)
def fstD : List Itm → Option (List Nat)
  | [] => none
  | q :: l => if df q.1 q.2.2 then some (q.2.1 ++ [q.2.2]) else fstD l
theorem fstD_none : ∀ {l : List Itm}, fstD df l = none → ∀ q ∈ l, df q.1 q.2.2 = false
  | [], _, q, hq => by cases hq
  | a :: l, h, q, hq => by
    simp only [fstD] at h
    split at h
    · cases h
    · rename_i hd
      rcases List.mem_cons.mp hq with e | hq
      · subst e; simpa using hd
      · exact fstD_none h q hq
theorem fstD_some : ∀ {l : List Itm} {r : List Nat}, fstD df l = some r → ∃ r', (l.filter fun q => df q.1 q.2.2).map (fun q => q.2.1 ++ [q.2.2]) = r :: r'
  | [], _, h => by cases h
  | a :: l, r, h => by
    simp only [fstD] at h
    split at h
    · rename_i hd
      cases h
      exact ⟨_, by rw [List.filter_cons_of_pos (by simpa using hd)]; rfl⟩
    · rename_i hd
      rw [List.filter_cons_of_neg (by simpa using hd)]
      exact fstD_some h
theorem fstD_congr {df' : List Int → Nat → Bool} (h : ∀ c f, df c f = df' c f) : ∀ l : List Itm, fstD df l = fstD df' l
  | [] => rfl
  | q :: l => by simp only [fstD]; rw [h, fstD_congr h l]
/-- layer by layer -/
def srch (n : Nat) : Nat → List (List Int) → List (List Int × List Nat) → Option (Option (List Nat))
  | 0, _, _ => none
  | N + 1, kn, [] => some none
  | N + 1, kn, q :: layer => match fstD df (its n (q :: layer)) with
    | some r => some (some r)
    | none => srch n N (vis nx (its n (q :: layer)) kn []).1 (vis nx (its n (q :: layer)) kn []).2
theorem srch_congr {nx' : List Int → Nat → List Int} {df' : List Int → Nat → Bool} (hd : ∀ c f, df c f = df' c f) (hn : ∀ c f, df c f = false → nx c f = nx' c f) (n : Nat) : ∀ (N : Nat) (kn : List (List Int)) (layer : List (List Int × List Nat)), srch nx df n N kn layer = srch nx' df' n N kn layer
  | 0, _, _ => rfl
  | _ + 1, _, [] => rfl
  | N + 1, kn, q :: layer => by
    simp only [srch]
    rw [fstD_congr df hd (its n (q :: layer))]
    cases e : fstD df' (its n (q :: layer)) with
    | some r => rfl
    | none =>
      have e' : fstD df (its n (q :: layer)) = none := by rw [fstD_congr df hd]; exact e
      have hv := vis_congr nx (nx' := nx') (its n (q :: layer)) kn [] fun a ha => hn _ _ (fstD_none df e' a ha)
      simp only [hv]
      exact srch_congr hd hn n N _ _
theorem srch_none (hd : ∀ c f, df c f = false) (n : Nat) : ∀ (N : Nat) (kn : List (List Int)) (layer : List (List Int × List Nat)) (r : Option (List Nat)), srch nx df n N kn layer = some r → r = none
  | 0, _, _, _, h => by simp [srch] at h
  | _ + 1, _, [], _, h => by simp [srch] at h; exact h.symm
  | N + 1, kn, q :: layer, r, h => by
    simp only [srch] at h
    cases e : fstD df (its n (q :: layer)) with
    | some r' =>
      obtain ⟨r'', h1⟩ := fstD_some df e
      have : ((its n (q :: layer)).filter fun q => df q.1 q.2.2) = [] := by
        rw [List.filter_eq_nil_iff]
        intro a _
        simp [hd]
      rw [this] at h1
      cases h1
    | none =>
      rw [e] at h
      exact srch_none hd n N _ _ r h
end
/-! ### it ends -/
theorem php : ∀ (l u : List Nat), l.Nodup → (∀ x ∈ l, x ∈ u) → l.length ≤ u.length
  | [], _, _, _ => Nat.zero_le _
  | a :: l, u, h, hs => by
    have ha := hs a List.mem_cons_self
    have h' := List.nodup_cons.mp h
    have := php l (u.erase a) h'.2 fun x hx => (List.mem_erase_of_ne (show x ≠ a from fun e => h'.1 (by rw [← e]; exact hx))).mpr (hs x (List.mem_cons_of_mem _ hx))
    rw [List.length_erase_of_mem ha] at this
    have hp : 0 < u.length := List.length_pos_of_mem ha
    simp only [List.length_cons]
    omega
def code : List Int → Nat
  | [] => 0
  | x :: l => x.toNat + 7 * code l
def Dg (n : Nat) (c : List Int) : Prop := c.length = n ∧ ∀ x ∈ c, 0 ≤ x ∧ x ≤ 6
theorem code_lt : ∀ (n : Nat) (c : List Int), Dg n c → code c < 7 ^ n
  | 0, c, h => by
    have : c = [] := List.eq_nil_of_length_eq_zero h.1
    subst this
    simp [code]
  | n + 1, [], h => by simp [Dg] at h
  | n + 1, x :: c, h => by
    have ih := code_lt n c ⟨by simpa using h.1, fun y hy => h.2 y (List.mem_cons_of_mem _ hy)⟩
    have hx := h.2 x List.mem_cons_self
    simp only [code, Nat.pow_succ]
    omega
theorem code_inj : ∀ (n : Nat) (c d : List Int), Dg n c → Dg n d → code c = code d → c = d
  | 0, c, d, h, h', _ => by rw [List.eq_nil_of_length_eq_zero h.1, List.eq_nil_of_length_eq_zero h'.1]
  | n + 1, [], _, h, _, _ => by simp [Dg] at h
  | n + 1, _, [], _, h, _ => by simp [Dg] at h
  | n + 1, x :: c, y :: d, h, h', e => by
    have hx := h.2 x List.mem_cons_self
    have hy := h'.2 y List.mem_cons_self
    simp only [code] at e
    have e1 : code c = code d := by omega
    have ih := code_inj n c d ⟨by simpa using h.1, fun z hz => h.2 z (List.mem_cons_of_mem _ hz)⟩ ⟨by simpa using h'.1, fun z hz => h'.2 z (List.mem_cons_of_mem _ hz)⟩ e1
    rw [ih]
    congr 1
    omega
theorem dg_len {n : Nat} (hn : n ≤ 4) {kn : List (List Int)} (h : kn.Nodup) (hd : ∀ c ∈ kn, Dg n c) : kn.length ≤ 2401 := by
  have h7 : 7 ^ n ≤ 2401 := Nat.le_trans (Nat.pow_le_pow_right (by decide) hn) (by decide)
  have hk : (kn.map code).Nodup := by
    rw [List.nodup_iff_pairwise_ne, List.pairwise_map]
    exact (List.nodup_iff_pairwise_ne.mp h).imp_of_mem fun {a b} ha hb hab e => hab (code_inj n a b (hd a ha) (hd b hb) e)
  have := php (kn.map code) (List.range 2401) hk fun x hx => by
    obtain ⟨c, hc, rfl⟩ := List.mem_map.mp hx
    have := code_lt n c (hd c hc)
    rw [List.mem_range]
    omega
  simpa using this
section
variable {nx : List Int → Nat → List Int} {df : List Int → Nat → Bool} {n : Nat} {P : List Int → Prop}
theorem its_mem {layer : List (List Int × List Nat)} {q : Itm} (h : q ∈ its n layer) : (q.1, q.2.1) ∈ layer ∧ q.2.2 < n := by
  simp only [its, List.mem_flatMap, List.mem_map, List.mem_range] at h
  obtain ⟨a, ha, f, hf, rfl⟩ := h
  exact ⟨ha, hf⟩
/-- the invariant of the layers -/
structure LI (P : List Int → Prop) (n d : Nat) (kn : List (List Int)) (layer : List (List Int × List Nat)) : Prop where
  nd : kn.Nodup
  dg : ∀ c ∈ kn, P c
  ld : ∀ q ∈ layer, P q.1 ∧ q.2.length = d ∧ ∀ f ∈ q.2, f < n
  up : layer.Pairwise fun q q' => lx q.2 q'.2 = true
theorem its_up {d : Nat} {kn : List (List Int)} {layer : List (List Int × List Nat)} (h : LI P n d kn layer) : (its n layer).Pairwise fun q q' => lx (q.2.1 ++ [q.2.2]) (q'.2.1 ++ [q'.2.2]) = true := by
  unfold its
  rw [List.pairwise_flatMap]
  refine ⟨fun a ha => ?_, ?_⟩
  · rw [List.pairwise_map]
    exact List.pairwise_lt_range.imp fun {f f'} hf => lx_same f f' hf _
  · refine h.up.imp_of_mem fun {a b} ha hb hab => fun x hx y hy => ?_
    obtain ⟨f, _, rfl⟩ := List.mem_map.mp hx
    obtain ⟨f', _, rfl⟩ := List.mem_map.mp hy
    exact lx_app f f' _ _ (by rw [(h.ld a ha).2.1, (h.ld b hb).2.1]) hab
theorem LI.next (hx : ∀ c f, P c → f < n → P (nx c f)) {d : Nat} {kn : List (List Int)} {layer : List (List Int × List Nat)} (h : LI P n d kn layer) : LI P n (d + 1) (vis nx (its n layer) kn []).1 (vis nx (its n layer) kn []).2 ∧
    ((vis nx (its n layer) kn []).2 = [] ∨ kn.length < (vis nx (its n layer) kn []).1.length) := by
  obtain ⟨l', h1, h2, h3⟩ := vis_sub nx (its n layer) kn []
  have hm : ∀ q ∈ l', P q.1 ∧ q.2.1.length = d ∧ (∀ f ∈ q.2.1, f < n) ∧ q.2.2 < n := fun q hq => by
    obtain ⟨a, b⟩ := its_mem (h1.subset hq)
    obtain ⟨x, y, z⟩ := h.ld _ a
    exact ⟨x, y, z, b⟩
  refine ⟨⟨vis_nodup nx _ _ _ h.nd, fun c hc => ?_, fun q hq => ?_, ?_⟩, ?_⟩
  · rw [h2] at hc
    rcases List.mem_append.mp hc with hc | hc
    · exact h.dg c hc
    · obtain ⟨q, hq, rfl⟩ := List.mem_map.mp hc
      obtain ⟨a, _, _, b⟩ := hm q hq
      exact hx _ _ a b
  · rw [h3, List.nil_append] at hq
    obtain ⟨a, ha, rfl⟩ := List.mem_map.mp hq
    obtain ⟨x, y, z, w⟩ := hm a ha
    refine ⟨hx _ _ x w, by simp [y], fun f hf => ?_⟩
    rcases List.mem_append.mp hf with hf | hf
    · exact z f hf
    · simp at hf; omega
  · rw [h3, List.nil_append, List.pairwise_map]
    exact (its_up h).sublist h1
  · cases l' with
    | nil => left; rw [h3]; rfl
    | cons a l' => right; rw [h2]; simp
theorem srch_ends (hn : n ≤ 4) (hP : ∀ c, P c → Dg n c) (hx : ∀ c f, P c → f < n → P (nx c f)) : ∀ (N d : Nat) (kn : List (List Int)) (layer : List (List Int × List Nat)), LI P n d kn layer → 2403 ≤ N + kn.length → 2 ≤ N → ∃ r, srch nx df n N kn layer = some r
  | 0, _, _, _, _, _, h2 => by omega
  | N + 1, d, kn, [], _, _, _ => ⟨none, rfl⟩
  | N + 1, d, kn, q :: layer, h, h1, h2 => by
    simp only [srch]
    cases e : fstD df (its n (q :: layer)) with
    | some r => exact ⟨_, rfl⟩
    | none =>
      obtain ⟨h', hc⟩ := h.next hx
      have hb := dg_len hn h'.nd fun c hc => hP c (h'.dg c hc)
      rcases hc with hc | hc
      · simp only [hc]
        obtain ⟨M, rfl⟩ : ∃ M, N = M + 1 := ⟨N - 1, by omega⟩
        exact ⟨none, rfl⟩
      · exact srch_ends hn hP hx N (d + 1) _ _ h' (by omega) (by omega)
end
end Pk

set_option Elab.async false
set_option linter.all false
set_option maxRecDepth 100000
set_option maxHeartbeats 4000000
/-! Tuples of counts as keys; lists that are empty; ranges. -/
namespace Pk
open PySem Bk
/-! ### counts as keys -/
theorem keys_ints : ∀ c : List Int, keysD (c.map .int) = c.map .num
  | [] => rfl
  | x :: c => by simp only [List.map_cons, keysD, keyD, keys_ints c]
theorem key_ti (c : List Int) : keyD (ti c) = .tup (c.map .num) := by rw [ti, keyD, keys_ints]
theorem num_inj : ∀ {c d : List Int}, c.map NestedKey.num = d.map NestedKey.num → c = d
  | [], [], _ => rfl
  | [], _ :: _, h => by simp at h
  | _ :: _, [], h => by simp at h
  | x :: c, y :: d, h => by
    simp only [List.map_cons, List.cons.injEq, NestedKey.num.injEq] at h
    rw [h.1, num_inj h.2]
theorem key_inj {c d : List Int} : keyD (ti c) = keyD (ti d) ↔ c = d := by
  rw [key_ti, key_ti]
  constructor
  · intro h
    injection h with h
    exact num_inj h
  · intro h; rw [h]
theorem okP_ints : ∀ c : List Int, okPs (c.map .int) = true
  | [] => rfl
  | x :: c => by simp only [List.map_cons, okPs, okP, okP_ints c, Bool.and_self]
theorem depth_nums : ∀ c : List Int, NestedKey.depthAll (c.map .num) = 0
  | [] => rfl
  | x :: c => by simp only [List.map_cons, NestedKey.depthAll, NestedKey.depth, depth_nums c, Nat.max_self]
@[simp] theorem okK_ti (c : List Int) : okK (ti c) = true := by
  have e : keyD (.tup (c.map .int)) = .tup (c.map .num) := key_ti c
  simp only [ti, okK, okP_ints, e, NestedKey.depth, depth_nums, Bool.true_and]
  decide
theorem ne_nil_d {h : Nat} {xs : List D} (s : Shp h (.lst xs)) (hh : h ≤ 64) : cmpD .ne (.lst xs) (.lst []) = some (!xs.isEmpty) := by
  rw [s.nel (Shp.lst (h := 0) (ds := []) fun d hd => by cases hd) hh (by decide)]
  cases xs <;> rfl
theorem rng_nat : ∀ (n : Nat) (a : Nat), rngD (a : Int) n = (List.range' a n).map fun f : Nat => D.int (f : Int)
  | 0, _ => rfl
  | n + 1, a => by
    rw [List.range'_succ, List.map_cons, rngD]
    congr 1
    have := rng_nat n (a + 1)
    rw [← this]
    congr 1
theorem rng_0 (n : Nat) : rngD 0 n = (List.range n).map fun f : Nat => D.int (f : Int) := by
  rw [List.range_eq_range']
  exact rng_nat n 0
end Pk

set_option Elab.async false
set_option linter.all false
set_option maxRecDepth 100000
set_option maxHeartbeats 2000000
/-! Going through all that can be come to, layer by layer, plainly. -/
namespace Pk
section
variable {α : Type} [DecidableEq α]
/-- each new one is noted, and waits -/
def gv : List α → List α → List α → List α × List α
  | [], kn, fu => (kn, fu)
  | y :: l, kn, fu => if y ∈ kn then gv l kn fu else gv l (kn ++ [y]) (fu ++ [y])
theorem gv_app : ∀ (a b kn fu : List α), gv (a ++ b) kn fu = gv b (gv a kn fu).1 (gv a kn fu).2
  | [], _, _, _ => rfl
  | y :: a, b, kn, fu => by
    simp only [List.cons_append, gv]
    split
    · exact gv_app a b _ _
    · exact gv_app a b _ _
theorem gv_sub : ∀ (l kn fu : List α), ∃ l' : List α, l'.Sublist l ∧ (gv l kn fu).1 = kn ++ l' ∧ (gv l kn fu).2 = fu ++ l'
  | [], kn, fu => ⟨[], .slnil, by simp [gv], by simp [gv]⟩
  | y :: l, kn, fu => by
    simp only [gv]
    split
    · obtain ⟨l', h1, h2, h3⟩ := gv_sub l kn fu
      exact ⟨l', h1.cons _, h2, h3⟩
    · obtain ⟨l', h1, h2, h3⟩ := gv_sub l (kn ++ [y]) (fu ++ [y])
      exact ⟨y :: l', h1.cons₂ _, by rw [h2]; simp, by rw [h3]; simp⟩
theorem gv_all : ∀ (l kn fu : List α), ∀ y ∈ l, y ∈ (gv l kn fu).1
  | [], _, _, y, h => by cases h
  | z :: l, kn, fu, y, h => by
    have ext : ∀ kn fu, ∀ x ∈ kn, x ∈ (gv l kn fu).1 := fun kn fu x hx => by
      obtain ⟨l', _, h2, _⟩ := gv_sub l kn fu
      rw [h2]
      exact List.mem_append_left _ hx
    simp only [gv]
    split
    · rename_i hz
      rcases List.mem_cons.mp h with e | h
      · subst e; exact ext _ _ _ hz
      · exact gv_all l _ _ y h
    · rcases List.mem_cons.mp h with e | h
      · subst e; exact ext _ _ _ (by simp)
      · exact gv_all l _ _ y h
theorem gv_nodup : ∀ (l kn fu : List α), kn.Nodup → (gv l kn fu).1.Nodup
  | [], _, _, h => h
  | y :: l, kn, fu, h => by
    simp only [gv]
    split
    · exact gv_nodup l kn fu h
    · rename_i hn
      refine gv_nodup l _ _ ?_
      rw [List.nodup_append]
      exact ⟨h, by simp, fun a ha b hb => by
        simp at hb
        subst hb
        exact fun e => hn (e ▸ ha)⟩
variable (sc : α → List α)
def gs : Nat → List α → List α → Option (List α)
  | 0, _, _ => none
  | _ + 1, kn, [] => some kn
  | N + 1, kn, q :: layer => gs N (gv ((q :: layer).flatMap sc) kn []).1 (gv ((q :: layer).flatMap sc) kn []).2
/-- what is come to -/
inductive Rch (x0 : α) : α → Prop
  | zero : Rch x0 x0
  | next {x y : α} : Rch x0 x → y ∈ sc x → Rch x0 y
structure GI (x0 : α) (kn layer : List α) : Prop where
  nd : kn.Nodup
  rc : ∀ x ∈ kn, Rch sc x0 x
  ly : ∀ x ∈ layer, x ∈ kn
  cl : ∀ x ∈ kn, x ∉ layer → ∀ y ∈ sc x, y ∈ kn
  x0 : x0 ∈ kn
variable {sc}
theorem GI.next {x0 : α} {kn layer : List α} (h : GI sc x0 kn layer) : GI sc x0 (gv (layer.flatMap sc) kn []).1 (gv (layer.flatMap sc) kn []).2 ∧ ((gv (layer.flatMap sc) kn []).2 = [] ∨ kn.length < (gv (layer.flatMap sc) kn []).1.length) ∧ (gv (layer.flatMap sc) kn []).2.length ≤ (gv (layer.flatMap sc) kn []).1.length := by
  obtain ⟨l', h1, h2, h3⟩ := gv_sub (layer.flatMap sc) kn []
  have ha := gv_all (layer.flatMap sc) kn []
  refine ⟨⟨gv_nodup _ _ _ h.nd, fun x hx => ?_, fun x hx => ?_, fun x hx hn y hy => ?_, ?_⟩, ?_, ?_⟩
  · rw [h2] at hx
    rcases List.mem_append.mp hx with hx | hx
    · exact h.rc x hx
    · obtain ⟨a, ha, hs⟩ := List.mem_flatMap.mp (h1.subset hx)
      exact .next (h.rc a (h.ly a ha)) hs
  · rw [h3, List.nil_append] at hx
    rw [h2]
    exact List.mem_append_right _ hx
  · rw [h3, List.nil_append] at hn
    have hk : x ∈ kn := by
      rw [h2] at hx
      rcases List.mem_append.mp hx with hx | hx
      · exact hx
      · exact absurd hx hn
    by_cases hl : x ∈ layer
    · exact ha y (List.mem_flatMap.mpr ⟨x, hl, hy⟩)
    · rw [h2]
      exact List.mem_append_left _ (h.cl x hk hl y hy)
  · rw [h2]
    exact List.mem_append_left _ h.x0
  · cases l' with
    | nil => left; rw [h3]; rfl
    | cons a l' => right; rw [h2]; simp
  · rw [h2, h3]; simp
theorem gs_ends {x0 : α} {B : Nat} (hB : ∀ l : List α, l.Nodup → (∀ x ∈ l, Rch sc x0 x) → l.length ≤ B) : ∀ (N : Nat) (kn layer : List α), GI sc x0 kn layer → B + 2 ≤ N + kn.length → 2 ≤ N → ∃ r, gs sc N kn layer = some r ∧ GI sc x0 r []
  | 0, _, _, _, _, h2 => by omega
  | N + 1, kn, [], h, _, _ => ⟨kn, rfl, h⟩
  | N + 1, kn, q :: layer, h, h1, h2 => by
    simp only [gs]
    obtain ⟨h', hc, _⟩ := h.next
    have hb := hB _ h'.nd h'.rc
    rcases hc with hc | hc
    · rw [hc] at h' ⊢
      obtain ⟨M, rfl⟩ : ∃ M, N = M + 1 := ⟨N - 1, by omega⟩
      exact ⟨_, rfl, h'⟩
    · exact gs_ends hB N _ _ h' (by omega) (by omega)
theorem GI.start (x0 : α) : GI sc x0 [x0] [x0] := ⟨by simp, fun x hx => by simp at hx; subst hx; exact .zero, fun x hx => hx, fun x hx hn => absurd hx hn, by simp⟩
/-- at the end all are there -/
theorem GI.all {x0 : α} {kn : List α} (h : GI sc x0 kn []) {x : α} (hx : Rch sc x0 x) : x ∈ kn := by
  induction hx with
  | zero => exact h.x0
  | next _ hy ih => exact h.cl _ ih (by simp) _ hy
end
/-! ### how many counts there are -/
def codeB (b : Nat) : List Int → Nat
  | [] => 0
  | x :: l => x.toNat + b * codeB b l
theorem codeB_lt {b : Nat} : ∀ (n : Nat) (c : List Int), c.length = n → (∀ x ∈ c, 0 ≤ x ∧ x < b) → codeB b c < b ^ n
  | 0, c, h, _ => by
    have : c = [] := List.eq_nil_of_length_eq_zero h
    subst this
    simp [codeB]
  | n + 1, [], h, _ => by simp at h
  | n + 1, x :: c, h, hx => by
    have ih := codeB_lt n c (by simpa using h) fun y hy => hx y (List.mem_cons_of_mem _ hy)
    have h0 := hx x List.mem_cons_self
    simp only [codeB, Nat.pow_succ]
    have h1 : x.toNat < b := by omega
    have h2 : b * codeB b c + b ≤ b * b ^ n := by
      have := Nat.mul_le_mul_left b ih
      rw [Nat.mul_succ] at this
      exact this
    rw [Nat.mul_comm (b ^ n) b]
    omega
theorem codeB_inj {b : Nat} : ∀ (n : Nat) (c d : List Int), c.length = n → d.length = n → (∀ x ∈ c, 0 ≤ x ∧ x < b) → (∀ x ∈ d, 0 ≤ x ∧ x < b) → codeB b c = codeB b d → c = d
  | 0, c, d, h, h', _, _, _ => by rw [List.eq_nil_of_length_eq_zero h, List.eq_nil_of_length_eq_zero h']
  | n + 1, [], _, h, _, _, _, _ => by simp at h
  | n + 1, _, [], _, h, _, _, _ => by simp at h
  | n + 1, x :: c, y :: d, h, h', hc, hd, e => by
    have hx := hc x List.mem_cons_self
    have hy := hd y List.mem_cons_self
    simp only [codeB] at e
    have b0 : 0 < b := by omega
    have e1 : x.toNat = y.toNat := by
      have := congrArg (· % b) e
      simp only [Nat.add_mul_mod_self_left] at this
      rwa [Nat.mod_eq_of_lt (by omega), Nat.mod_eq_of_lt (by omega)] at this
    have e2 : codeB b c = codeB b d := by
      have : b * codeB b c = b * codeB b d := by omega
      exact Nat.eq_of_mul_eq_mul_left b0 this
    rw [codeB_inj n c d (by simpa using h) (by simpa using h') (fun z hz => hc z (List.mem_cons_of_mem _ hz)) (fun z hz => hd z (List.mem_cons_of_mem _ hz)) e2]
    congr 1
    omega
/-- so many at most -/
theorem by_code {α : Type} {P : α → Prop} {B : Nat} (code : α → Nat) (hl : ∀ x, P x → code x < B) (hi : ∀ x y, P x → P y → code x = code y → x = y) {l : List α} (h : l.Nodup) (hP : ∀ x ∈ l, P x) : l.length ≤ B := by
  have hk : (l.map code).Nodup := by
    rw [List.nodup_iff_pairwise_ne, List.pairwise_map]
    exact (List.nodup_iff_pairwise_ne.mp h).imp_of_mem fun {a b} ha hb hab e => hab (hi a b (hP a ha) (hP b hb) e)
  have := php (l.map code) (List.range B) hk fun x hx => by
    obtain ⟨c, hc, rfl⟩ := List.mem_map.mp hx
    rw [List.mem_range]
    exact hl c (hP c hc)
  simpa using this
end Pk

set_option Elab.async false
set_option linter.all false
set_option maxRecDepth 100000
set_option maxHeartbeats 4000000
/-! k81: all that comes of rows of calls by nested limits, plainly. -/
namespace Pk
open PySem Bk
section
variable {s : Int} {fs L : List Int}
abbrev S2 := List Int × List Int
def sc81 (s : Int) (fs L : List Int) (x : S2) : List S2 := (List.range fs.length).map fun f => ((stepR s fs (.nested L) x.1 0 f).c, seenR s x.2 f)
def z81 (fs : List Int) : S2 := (List.replicate fs.length 0, List.replicate fs.length 0)
theorem step_p (r : Rl) (c : List Int) (a b : Int) (f : Nat) : (stepR s fs r c a f).c = (stepR s fs r c b f).c := by
  unfold stepR
  split
  · rfl
  · split <;> rfl
theorem rch_row {x : S2} (h : Rch (sc81 s fs L) (z81 fs) x) : ∃ row : List Nat, (∀ f ∈ row, f < fs.length) ∧ x = ((wy s fs (.nested L) row).c, seenL s fs.length row) := by
  induction h with
  | zero => exact ⟨[], (fun f hf => by cases hf), rfl⟩
  | @next x y _ hy ih =>
    obtain ⟨row, h1, h2⟩ := ih
    subst h2
    obtain ⟨f, hf, rfl⟩ := List.mem_map.mp hy
    refine ⟨row ++ [f], fun a ha => ?_, ?_⟩
    · rcases List.mem_append.mp ha with z | z
      · exact h1 a z
      · simp at z; subst z; exact List.mem_range.mp hf
    · simp only [wy, seenL, List.foldl_append, List.foldl_cons, List.foldl_nil, wyStep]
      rw [step_p _ _ 0]
theorem row_rch0 : ∀ (row : List Nat) (x : Wy) (d : List Int), (∀ f ∈ row, f < fs.length) → Rch (sc81 s fs L) (z81 fs) (x.c, d) → Rch (sc81 s fs L) (z81 fs) ((row.foldl (wyStep s fs (.nested L)) x).c, row.foldl (seenR s) d)
  | [], _, _, _, h => h
  | f :: row, x, d, hr, h => by
    refine row_rch0 row (wyStep s fs (.nested L) x f) (seenR s d f) (fun a ha => hr a (List.mem_cons_of_mem _ ha)) (.next h ?_)
    refine List.mem_map.mpr ⟨f, List.mem_range.mpr (hr f List.mem_cons_self), ?_⟩
    show ((stepR s fs (.nested L) x.c 0 f).c, seenR s d f) = ((stepR s fs (.nested L) x.c x.paid f).c, seenR s d f)
    rw [step_p _ _ 0]
theorem row_rch (row : List Nat) (h : ∀ f ∈ row, f < fs.length) : Rch (sc81 s fs L) (z81 fs) ((wy s fs (.nested L) row).c, seenL s fs.length row) := row_rch0 row _ _ h .zero
def P81 (s : Int) (fs : List Int) (x : S2) : Prop := CIn s fs.length x.1 ∧ CIn s fs.length x.2
theorem p81 (hs : 1 ≤ s) {x : S2} (h : Rch (sc81 s fs L) (z81 fs) x) : P81 s fs x := by
  induction h with
  | zero => exact ⟨rep_in (by omega) _, rep_in (by omega) _⟩
  | next _ hy ih =>
    obtain ⟨f, hf, rfl⟩ := List.mem_map.mp hy
    have hf' := List.mem_range.mp hf
    exact ⟨step_in ih.1 hf', seenR_in hs ih.2 hf'⟩
theorem cin_dg (h4 : s ≤ 4) {c : List Int} (hc : CIn s fs.length c) : ∀ x ∈ c, 0 ≤ x ∧ x < (5 : Nat) := fun x hx => by
  have h1 := hc.nn x hx
  have h2 := le_sum hc.nn x hx
  have h3 := hc.sum
  omega
theorem len81 (h4 : s ≤ 4) (h3 : fs.length ≤ 3) {l : List S2} (hn : l.Nodup) (hP : ∀ x ∈ l, P81 s fs x) : l.length ≤ 15625 := by
  have lt : ∀ c : List Int, CIn s fs.length c → codeB 5 c < 125 := fun c hc => by
    have := codeB_lt (b := 5) fs.length c hc.len (cin_dg h4 hc)
    have h5 : 5 ^ fs.length ≤ 125 := Nat.le_trans (Nat.pow_le_pow_right (by decide) h3) (by decide)
    omega
  refine by_code (P := P81 s fs) (fun x => codeB 5 x.1 * 125 + codeB 5 x.2) (fun x hx => ?_) (fun x y hx hy e => ?_) hn hP
  · have h1 := lt _ hx.1
    have h2 := lt _ hx.2
    show codeB 5 x.1 * 125 + codeB 5 x.2 < 15625
    omega
  · have h1 := lt _ hx.2
    have h2 := lt _ hy.2
    have e : codeB 5 x.1 * 125 + codeB 5 x.2 = codeB 5 y.1 * 125 + codeB 5 y.2 := e
    have e1 : codeB 5 x.1 = codeB 5 y.1 := by omega
    have e2 : codeB 5 x.2 = codeB 5 y.2 := by omega
    exact Prod.ext (codeB_inj fs.length _ _ hx.1.len hy.1.len (cin_dg h4 hx.1) (cin_dg h4 hy.1) e1) (codeB_inj fs.length _ _ hx.2.len hy.2.len (cin_dg h4 hx.2) (cin_dg h4 hy.2) e2)
/-- all that is come to -/
theorem ends81 (hs : 1 ≤ s) (h4 : s ≤ 4) (h3 : fs.length ≤ 3) (L : List Int) : ∃ kn, gs (sc81 s fs L) 20000 [z81 fs] [z81 fs] = some kn ∧ GI (sc81 s fs L) (z81 fs) kn [] := by
  obtain ⟨kn, h1, h2⟩ := gs_ends (sc := sc81 s fs L) (x0 := z81 fs) (B := 15625) (fun l hn hr => len81 h4 h3 hn fun x hx => p81 hs (hr x hx)) 20000 _ _ (GI.start _) (by simp) (by decide)
  exact ⟨kn, h1, h2⟩
/-! ### the bounds -/
def ptA (gt hn : Int) : Int := if 0 < hn then gt else 1
def ptB (hn : Int) : Int := if 0 < hn then hn else 1
structure WAB (s : Int) (fs L : List Int) (W A B : Int) : Prop where
  w : ∀ J, J < fs.length → s * fs.getD J 0 - (gI fs L 0 0).getD J 0 ≤ W
  w0 : 0 ≤ W
  A0 : 0 ≤ A
  B1 : 1 ≤ B
  ab : A ≤ B
  A9 : A ≤ 10 ^ 9
  B9 : B ≤ 10 ^ 9
  l : ∀ J, J < fs.length → A * (s * fs.getD J 0) ≤ (gI fs L 0 0).getD J 0 * B
theorem nest_got {row : List Nat} : gotR s fs (.nested L) row = worthL fs (wy s fs (.nested L) row).c := by
  have ep : (wy s fs (.nested L) row).paid = 0 := wy_nested_paid row _
  unfold gotR
  rw [ep]
  omega
theorem facts81 (h : HOk s fs) (hl : L.length = fs.length) (hL : ∀ l ∈ L, 0 ≤ l ∧ l ≤ s) (hu : Up 0 L) {W A B : Int} (w : WAB s fs L W A B) {x : S2} (hx : Rch (sc81 s fs L) (z81 fs) x) :
    (0 ≤ worthL fs x.1 ∧ worthL fs x.1 ≤ 600) ∧ (0 ≤ worthL fs x.2 ∧ worthL fs x.2 ≤ 600) ∧ worthL fs x.2 - worthL fs x.1 ≤ W ∧ A * ptB (worthL fs x.2) ≤ ptA (worthL fs x.1) (worthL fs x.2) * B := by
  have pp := p81 h.s1 hx
  obtain ⟨row, hrow, e⟩ := rch_row hx
  have nb := nested_bound h hl hL hu hrow
  have hw := fun c (hc : CIn s fs.length c) => worth_bd fs c (fun f hf => by have := h.f f hf; omega) hc.nn
  have b1 := hw _ pp.1
  have b2 := hw _ pp.2
  have c1 := pp.1.sum
  have c2 := pp.2.sum
  have h6 := h.s6
  have hs := h.s1
  have w0 := w.w0
  have A0 := w.A0
  have B1 := w.B1
  have ab := w.ab
  have e1 : gotR s fs (.nested L) row = worthL fs x.1 := by rw [nest_got, e]
  have e2 : hindR s fs row = worthL fs x.2 := by rw [e]; rfl
  rw [e1, e2] at nb
  generalize worthL fs x.1 = GT at *
  generalize worthL fs x.2 = HN at *
  refine ⟨by omega, by omega, ?_, ?_⟩
  · rcases nb with nb | ⟨J, hJ, h1, _⟩
    · omega
    · have := w.w J hJ
      omega
  · unfold ptA ptB
    by_cases c : 0 < HN
    · rw [if_pos c, if_pos c]
      rcases nb with nb | ⟨J, hJ, _, h2⟩
      · have e1 : A * HN ≤ B * HN := Int.mul_le_mul_of_nonneg_right ab (by omega)
        have e2 : B * HN ≤ B * GT := Int.mul_le_mul_of_nonneg_left nb (by omega)
        rw [Int.mul_comm GT]
        omega
      · have hF := (h.f _ (mem_getD hJ)).1
        exact fr_trans (b := B) (d := s * fs.getD J 0) (by omega) (Int.mul_pos (by omega) (by omega)) c (w.l J hJ) h2
    · rw [if_neg c, if_neg c]
      omega
/-- the calls that rise come to just that -/
theorem full81 (h : HOk s fs) (hl : L.length = fs.length) (hL : ∀ l ∈ L, 0 ≤ l ∧ l ≤ s) (hu : Up 0 L) {K : Nat} (hK : K < fs.length) : ∃ x, Rch (sc81 s fs L) (z81 fs) x ∧ worthL fs x.1 = (gI fs L 0 0).getD K 0 ∧ worthL fs x.2 = s * fs.getD K 0 := by
  refine ⟨_, row_rch (s := s) (fs := fs) (L := L) (fullR s (K + 1)) (fun f hf => by have := full_lt (K + 1) f hf; omega), ?_, ?_⟩
  · show worthL fs (wy s fs (.nested L) (fullR s (K + 1))).c = _
    rw [← nest_got, full_got h.s1 hl hL hu hK]
  · exact full_hind h hK
end
end Pk

set_option Elab.async false
set_option linter.all false
namespace Pk
open PySem Bk
class H81 (p : Bk.Pr) : Prop where
  h__law_ends : p.ds.lookup 93 = some Bk.f__law_ends.2
  h__law_worth : p.ds.lookup 82 = some Bk.f__law_worth.2
  h__law_deal : p.ds.lookup 80 = some Bk.f__law_deal.2
  h__law_seen_with : p.ds.lookup 94 = some Bk.f__law_seen_with.2
  h__law_lets_84 : p.ds.lookup 84 = some Bk.f__law_lets_84.2
  h__law_more : p.ds.lookup 85 = some Bk.f__law_more.2
  h__law_share_least : p.ds.lookup 95 = some Bk.f__law_share_least.2
  h__law_least : p.ds.lookup 27 = some Bk.f__law_least.2
  h__law_limits : p.ds.lookup 36 = some Bk.f__law_limits.2
  h__law_like : p.ds.lookup 17 = some Bk.f__law_like.2
end Pk

set_option Elab.async false
set_option linter.all false
set_option maxRecDepth 100000
set_option maxHeartbeats 4000000
/-! k81: the law's own going through all that is sold and seen. -/
namespace Pk
open PySem Bk
/-! ### things as keys, in general -/
structure KeyE {α : Type} (enc : α → D) : Prop where
  ok : ∀ a, okK (enc a) = true
  inj : ∀ a b, keyD (enc a) = keyD (enc b) → a = b
section
variable {α : Type} [DecidableEq α] {enc : α → D}
def knE (enc : α → D) (kn : List α) : D := .dct (kn.map enc) (kn.map fun _ => .bl true)
theorem getE (h : KeyE enc) (c : α) : ∀ kn : List α, (getK (keyD (enc c)) (kn.map enc) (kn.map fun _ => .bl true)).isSome = decide (c ∈ kn)
  | [] => rfl
  | d :: kn => by
    have ih := getE h c kn
    simp only [List.map_cons, getK] at ih ⊢
    by_cases e : d = c
    · subst e; simp
    · rw [if_neg (fun z => e (h.inj _ _ z)), ih]
      simp [List.mem_cons, show ¬ c = d from fun z => e z.symm]
theorem getE_none (h : KeyE enc) {c : α} {kn : List α} (hc : c ∉ kn) : getK (keyD (enc c)) (kn.map enc) (kn.map fun _ => .bl true) = none := by
  have := getE h c kn
  rw [decide_eq_false hc] at this
  cases z : getK (keyD (enc c)) (kn.map enc) (kn.map fun _ => .bl true) with
  | none => rfl
  | some _ => rw [z] at this; cases this
theorem getE_some (h : KeyE enc) {c : α} {kn : List α} (hc : c ∈ kn) : getK (keyD (enc c)) (kn.map enc) (kn.map fun _ => .bl true) ≠ none := fun z => by
  have := getE h c kn
  rw [decide_eq_true hc, z] at this
  cases this
theorem putE (h : KeyE enc) {c : α} {kn : List α} (hc : c ∉ kn) : putD (kn.map enc) (kn.map fun _ => .bl true) (enc c) (.bl true) = knE enc (kn ++ [c]) := by
  unfold putD
  rw [getE_none h hc]
  simp [knE]
end
def pD (x : S2) : D := .tup [ti x.1, ti x.2]
theorem key_pD : KeyE pD where
  ok := fun x => by
    have e : keyD (.tup [ti x.1, ti x.2]) = .tup [.tup (x.1.map .num), .tup (x.2.map .num)] := by simp only [keyD, keysD, key_ti]
    have o : ∀ l : List Int, okP (ti l) = true := fun l => by simp only [ti, okP, okP_ints]
    simp only [pD, okK, okPs, o, Bool.and_self, e, NestedKey.depth, NestedKey.depthAll, depth_nums, Bool.true_and]
    decide
  inj := fun x y h => by
    simp only [pD, keyD, keysD, key_ti] at h
    injection h with h
    simp only [List.cons.injEq, NestedKey.tup.injEq, and_true] at h
    exact Prod.ext (num_inj h.1) (num_inj h.2)
variable {p : Pr} [HP p] [HC p] [H89 p] [H81 p]
section
variable {s : Int} {fs : List Int}
theorem lseen_i (h : HOk s fs) {c : List Int} {f : Nat} (hc : c.length = fs.length) (hf : f < fs.length) (k : Nat) (g : G) : den p (k + 2) 94 [hlD s fs, ti c, .int (f : Int)] g = .ok (ti (seenR s c f)) g := by
  have h4 := h.f4
  refine Eq.trans (den_f H81.h__law_seen_with rfl (by decide)) ?_
  show endR (evB p.cs (den p (k + 1)) b__law_seen_with [.val (hlD s fs), .val (ti c), .val (.int (f : Int)), .no, .no] g) = _
  have e1 := more_i (p := p) k g (l := c) (n := f) (m := 1) (by omega) (by omega)
  have es := sum_ti (addAt c f 1)
  have hl : (addAt c f 1).length = fs.length := by rw [addAt_len, hc]
  unfold seenR
  by_cases hs : (addAt c f 1).sum ≤ s
  · rw [if_pos hs]
    generalize addAt c f 1 = m at *
    simp [b__law_seen_with, e1, es, hs, hlD]
  · rw [if_neg hs]
    have hcs : ∃ l, chp (addAt c f 1) = some l := chp_some (by have := h.s1; omega)
    obtain ⟨l, el⟩ := hcs
    have hlt := chp_lt el
    have e2 := more_i (p := p) k g (l := addAt c f 1) (n := l) (m := -1) (by omega) (by omega)
    have sp := chp_spec el
    have lc : evE p.cs (den p (k + 1)) (.lc (.var 4) (.var 4) (.rng1 (.bi .len (.cons (.var 3) .nil))) (some (.cmp .gt (.idx (.var 3) (.var 4)) (.cst (.int 0))))) [.val (hlD s fs), .val (ti c), .val (.int (f : Int)), .val (ti (addAt c f 1)), .no] g
        = .ok (.lst (((List.range fs.length).filter fun j => decide (0 < (addAt c f 1).getD j 0)).map fun j : Nat => D.int (j : Int))) g := by
      refine lc_filter (l := List.range fs.length) (enc := fun j : Nat => D.int (j : Int)) (h := fun j : Nat => D.int (j : Int)) (c := fun j => decide (0 < (addAt c f 1).getD j 0)) ?_ ?_ ?_
      · have hb : biD .len [ti (addAt c f 1)] = some (.int fs.length) := by simp [ti, hl]
        have h2 : (-1000000 : Int) ≤ (fs.length : Int) ∧ (fs.length : Int) ≤ 1000000 := by omega
        have er := rngD_map fs.length 0
        simp only [Int.zero_add] at er
        simp [hb, h2, er]
      · intro j hj g
        have hj' := List.mem_range.mp hj
        have ix := ix_t (l := addAt c f 1) (j := j) (by omega)
        simp [ix]
      · intro j hj _ g
        simp
    have hd : ((List.range fs.length).filter fun j => decide (0 < (addAt c f 1).getD j 0)).head? = some l := by
      rw [head_filter]
      exact ⟨by omega, by simpa using sp.2.1, fun j hj => by simpa using sp.2.2 j hj⟩
    rw [el]
    simp only
    obtain ⟨rest, er⟩ : ∃ rest, ((List.range fs.length).filter fun j => decide (0 < (addAt c f 1).getD j 0)) = l :: rest := by
      cases hz : ((List.range fs.length).filter fun j => decide (0 < (addAt c f 1).getD j 0)) with
      | nil => rw [hz] at hd; cases hd
      | cons a rest => rw [hz] at hd; simp at hd; subst hd; exact ⟨rest, rfl⟩
    rw [er] at lc
    generalize hm : addAt c f 1 = m at *
    simp [b__law_seen_with, e1, es, hs, hlD]
    rw [show D.tup [D.int s, ti fs] = hlD s fs from rfl]
    simp [lc, e2]
end
end Pk

set_option Elab.async false
set_option linter.all false
set_option maxRecDepth 100000
set_option maxHeartbeats 4000000
/-! k81: _law_ends. -/
namespace Pk
open PySem Bk
variable {p : Pr} [HP p] [HC p] [H89 p] [H81 p]
theorem S2_shp (l : List S2) : Shp 3 (.lst (l.map pD)) := Shp.lst fun d hd => by
  obtain ⟨q, _, rfl⟩ := List.mem_map.mp hd
  refine Shp.tup fun e he => ?_
  simp only [List.mem_cons, List.not_mem_nil, or_false] at he
  rcases he with rfl | rfl
  · exact Shp.ti _
  · exact Shp.ti _
section
variable {s : Int} {fs L : List Int}
def bodyEI : B := match b__law_ends with
  | .cons _ (.cons _ (.cons (.whl _ _ (.cons _ (.cons (.for_ _ _ (.cons (.for_ _ _ b) _)) _))) _)) => b
  | _ => .nil
abbrev GmE (h r nn ly : D) (kn fu : List S2) (s6 s7 s8 s9 s10 : Slot) : Gm := [.val h, .val r, .val nn, .own (knE pD kn), .val ly, .own (.lst (fu.map pD)), s6, s7, s8, s9, s10]
def nx81 (s : Int) (fs L : List Int) (x : S2) (f : Nat) : S2 := ((stepR s fs (.nested L) x.1 0 f).c, seenR s x.2 f)
theorem ei_1 (h : HOk s fs) (hr : ROk s fs.length (.nested L)) {x : S2} {f : Nat} (h1 : x.1.length = fs.length) (h2 : x.2.length = fs.length) (hf : f < fs.length) (k : Nat) (g : G) (nn ly : D) (kn fu : List S2) (hk : kn.length ≤ 100000) (hfu : fu.length ≤ 100000) (s9 s10 : Slot) :
    ∃ t9 t10, evB p.cs (den p (k + 6)) bodyEI (GmE (hlD s fs) (Rl.nested L).d nn ly kn fu (.val (ti x.1)) (.val (ti x.2)) (.val (.int (f : Int))) s9 s10) g
      = .ok (.nx (GmE (hlD s fs) (Rl.nested L).d nn ly (gv [nx81 s fs L x f] kn fu).1 (gv [nx81 s fs L x f] kn fu).2 (.val (ti x.1)) (.val (ti x.2)) (.val (.int (f : Int))) t9 t10)) g := by
  have e1 : den p (k + 6) 80 [hlD s fs, (Rl.nested L).d, ti x.1, .int 0, .int (f : Int)] g = .ok (.tup [ti (nx81 s fs L x f).1, .int (stepR s fs (.nested L) x.1 0 f).paid, .str (stepR s fs (.nested L) x.1 0 f).deed]) g := deal_i (p := p) h hr h1 hf k 0 g
  have e2 : den p (k + 6) 94 [hlD s fs, ti x.2, .int (f : Int)] g = .ok (ti (nx81 s fs L x f).2) g := lseen_i (p := p) h h2 hf (k + 4) g
  generalize (stepR s fs (.nested L) x.1 0 f).paid = pp at *
  generalize (stepR s fs (.nested L) x.1 0 f).deed = dd at *
  generalize nx81 s fs L x f = y at *
  generalize (Rl.nested L).d = R at *
  have ed : D.tup [ti y.1, ti y.2] = pD y := rfl
  have ok := key_pD.ok y
  refine ⟨.val (ti y.1), .val (pD y), ?_⟩
  by_cases hm : y ∈ kn
  · have hg := getE_some key_pD hm
    have eg : gv [y] kn fu = (kn, fu) := by simp [gv, hm]
    rw [eg]
    generalize pD y = Pd at *
    simp [bodyEI, b__law_ends, e1, e2, ed, knE, ok, hg]
  · have hg := getE_none key_pD hm
    have hp := putE key_pD hm
    have hk' : kn.length < 1000000 := by omega
    have hf' : fu.length < 1000000 := by omega
    have eg : gv [y] kn fu = (kn ++ [y], fu ++ [y]) := by simp [gv, hm]
    rw [eg]
    simp only [GmE]
    rw [← hp, List.map_append, List.map_cons, List.map_nil]
    generalize pD y = Pd at *
    simp [bodyEI, b__law_ends, e1, e2, ed, knE, ok, hg, hk', hf']
theorem einner_w (h : HOk s fs) (hr : ROk s fs.length (.nested L)) {x : S2} (h1 : x.1.length = fs.length) (h2 : x.2.length = fs.length) (k : Nat) (g : G) (nn ly : D) : ∀ (F : List Nat) (kn fu : List S2) (s8 s9 s10 : Slot), (∀ f ∈ F, f < fs.length) → kn.length + F.length ≤ 90000 → fu.length + F.length ≤ 90000 →
    ∃ t8 t9 t10, forR (fun x Γ g => (lift (setT (.var 8) x Γ) g).bind fun Γ' g => evB p.cs (den p (k + 6)) bodyEI Γ' g) (F.map fun f : Nat => D.int (f : Int)) (GmE (hlD s fs) (Rl.nested L).d nn ly kn fu (.val (ti x.1)) (.val (ti x.2)) s8 s9 s10) g
      = .ok (.nx (GmE (hlD s fs) (Rl.nested L).d nn ly (gv (F.map (nx81 s fs L x)) kn fu).1 (gv (F.map (nx81 s fs L x)) kn fu).2 (.val (ti x.1)) (.val (ti x.2)) t8 t9 t10)) g
  | [], kn, fu, s8, s9, s10, _, _, _ => ⟨s8, s9, s10, rfl⟩
  | f :: F, kn, fu, s8, s9, s10, hF, k1, k2 => by
    simp only [List.length_cons] at k1 k2
    obtain ⟨t9, t10, st⟩ := ei_1 (p := p) h hr h1 h2 (hF f List.mem_cons_self) k g nn ly kn fu (by omega) (by omega) s9 s10
    obtain ⟨l', hl, e1, e2⟩ := gv_sub [nx81 s fs L x f] kn fu
    have hl' := hl.length_le
    simp only [List.length_singleton] at hl'
    obtain ⟨u8, u9, u10, ih⟩ := einner_w h hr h1 h2 k g nn ly F (gv [nx81 s fs L x f] kn fu).1 (gv [nx81 s fs L x f] kn fu).2 (.val (.int (f : Int))) t9 t10 (fun a ha => hF a (List.mem_cons_of_mem _ ha)) (by rw [e1]; simp; omega) (by rw [e2]; simp; omega)
    refine ⟨u8, u9, u10, ?_⟩
    have e0 : (lift (setT (.var 8) (.int (f : Int)) (GmE (hlD s fs) (Rl.nested L).d nn ly kn fu (.val (ti x.1)) (.val (ti x.2)) s8 s9 s10)) g) = .ok (GmE (hlD s fs) (Rl.nested L).d nn ly kn fu (.val (ti x.1)) (.val (ti x.2)) (.val (.int (f : Int))) s9 s10) g := by simp [GmE]
    have ea : (f :: F).map (nx81 s fs L x) = [nx81 s fs L x f] ++ F.map (nx81 s fs L x) := rfl
    rw [ea, gv_app]
    simp only [List.map_cons]
    conv => lhs; unfold forR
    rw [e0, r_ok, st]
    exact ih
def bodyEO : B := match b__law_ends with
  | .cons _ (.cons _ (.cons (.whl _ _ (.cons _ (.cons (.for_ _ _ b) _))) _)) => b
  | _ => .nil
theorem eo_eq (h : HOk s fs) (k : Nat) (g : G) {r ly : D} (kn fu : List S2) (x : S2) (s8 s9 s10 : Slot) :
    evB p.cs (den p (k + 6)) bodyEO (GmE (hlD s fs) r (ti (List.replicate fs.length 0)) ly kn fu (.val (ti x.1)) (.val (ti x.2)) s8 s9 s10) g
      = (forR (fun x Γ g => (lift (setT (.var 8) x Γ) g).bind fun Γ' g => evB p.cs (den p (k + 6)) bodyEI Γ' g) ((List.range fs.length).map fun f : Nat => D.int (f : Int)) (GmE (hlD s fs) r (ti (List.replicate fs.length 0)) ly kn fu (.val (ti x.1)) (.val (ti x.2)) s8 s9 s10) g).bind fun fl g => match fl with
        | .nx Γ' => .ok (.nx Γ') g
        | .rt d => .ok (.rt d) g := by
  have h4 := h.f4
  have e2 : biD .len [ti (List.replicate fs.length 0)] = some (.int fs.length) := by simp [ti]
  have h2 : (-1000000 : Int) ≤ (fs.length : Int) ∧ (fs.length : Int) ≤ 1000000 := by omega
  unfold bodyEO b__law_ends
  simp only [b_cons, s_for', i_rng1, x_bi, a_cons, a_nil, x_var, List.getElem?_cons_zero, List.getElem?_cons_succ, r_ok, l_some, e2, h2, and_self, if_true, b_nil, Int.toNat_natCast, rng_0]
  rfl
theorem eouter_w (h : HOk s fs) (hr : ROk s fs.length (.nested L)) (k : Nat) (g : G) (ly : D) : ∀ (lay kn fu : List S2) (s6 s7 s8 s9 s10 : Slot), (∀ x ∈ lay, x.1.length = fs.length ∧ x.2.length = fs.length) → kn.length + 4 * lay.length ≤ 80000 → fu.length + 4 * lay.length ≤ 80000 →
    ∃ t6 t7 t8 t9 t10, forR (fun x Γ g => (lift (setT (.tup [.var 6, .var 7]) x Γ) g).bind fun Γ' g => evB p.cs (den p (k + 6)) bodyEO Γ' g) (lay.map pD) (GmE (hlD s fs) (Rl.nested L).d (ti (List.replicate fs.length 0)) ly kn fu s6 s7 s8 s9 s10) g
      = .ok (.nx (GmE (hlD s fs) (Rl.nested L).d (ti (List.replicate fs.length 0)) ly (gv (lay.flatMap (sc81 s fs L)) kn fu).1 (gv (lay.flatMap (sc81 s fs L)) kn fu).2 t6 t7 t8 t9 t10)) g
  | [], kn, fu, s6, s7, s8, s9, s10, _, _, _ => ⟨s6, s7, s8, s9, s10, rfl⟩
  | x :: lay, kn, fu, s6, s7, s8, s9, s10, hx, k1, k2 => by
    have h4 := h.f4
    simp only [List.length_cons] at k1 k2
    obtain ⟨x1, x2⟩ := hx x List.mem_cons_self
    obtain ⟨t8, t9, t10, st⟩ := einner_w (p := p) h hr x1 x2 k g (ti (List.replicate fs.length 0)) ly (List.range fs.length) kn fu s8 s9 s10 (fun f hf => List.mem_range.mp hf) (by simp; omega) (by simp; omega)
    have ee : (List.range fs.length).map (nx81 s fs L x) = sc81 s fs L x := rfl
    rw [ee] at st
    obtain ⟨l', hl, e1, e2⟩ := gv_sub (sc81 s fs L x) kn fu
    have hl' := hl.length_le
    simp only [sc81, List.length_map, List.length_range] at hl'
    obtain ⟨u6, u7, u8, u9, u10, ih⟩ := eouter_w h hr k g ly lay (gv (sc81 s fs L x) kn fu).1 (gv (sc81 s fs L x) kn fu).2 (.val (ti x.1)) (.val (ti x.2)) t8 t9 t10 (fun a ha => hx a (List.mem_cons_of_mem _ ha)) (by rw [e1]; simp; omega) (by rw [e2]; simp; omega)
    refine ⟨u6, u7, u8, u9, u10, ?_⟩
    have e0 : (lift (setT (.tup [.var 6, .var 7]) (pD x) (GmE (hlD s fs) (Rl.nested L).d (ti (List.replicate fs.length 0)) ly kn fu s6 s7 s8 s9 s10)) g) = .ok (GmE (hlD s fs) (Rl.nested L).d (ti (List.replicate fs.length 0)) ly kn fu (.val (ti x.1)) (.val (ti x.2)) s8 s9 s10) g := by simp [GmE, pD]
    rw [List.flatMap_cons, gv_app]
    simp only [List.map_cons]
    conv => lhs; unfold forR
    rw [e0, r_ok, eo_eq h, st]
    exact ih
end
end Pk

set_option Elab.async false
set_option linter.all false
set_option maxRecDepth 100000
set_option maxHeartbeats 4000000
/-! k81: _law_ends whole; the least share of pairs. -/
namespace Pk
open PySem Bk
variable {p : Pr} [HP p] [HC p] [H89 p] [H81 p]
theorem least81_w (cs : List (Nat × D)) (call : Nat → List D → G → R D) (g : G) (s0 s1 : Slot) : ∀ (n b a : Nat), b < n → whlR (fun Γ g => blR (evE cs call (.cmp .ne (.var 3) (.cst (.int 0))) Γ g)) (fun Γ g => evB cs call (.cons (.par [(2, false), (3, false)] (.cons (.var 3) (.cons (.bin .mod (.bi .int (.cons (.var 2) .nil)) (.var 3)) .nil))) .nil) Γ g) n [s0, s1, .val (.int (a : Nat)), .val (.int (b : Nat))] g
    = .ok (.nx [s0, s1, .val (.int (Nat.gcd a b : Nat)), .val (.int 0)]) g
  | 0, b, a, h => by omega
  | n + 1, b, a, h => by
    unfold whlR
    by_cases hb : b = 0
    · subst hb
      simp
    · have hb' : ¬ ((b : Int) = 0) := by omega
      have ih := least81_w cs call g s0 s1 n (a % b) b (by have := Nat.mod_lt a (Nat.pos_of_ne_zero hb); omega)
      rw [gcd_step a b (Nat.pos_of_ne_zero hb)]
      have e1 : blR (evE cs call (.cmp .ne (.var 3) (.cst (.int 0))) [s0, s1, .val (.int (a : Nat)), .val (.int (b : Nat))] g) = .ok true g := by
        simp [hb]
      have om : opD .mod (.int (a : Nat)) (.int (b : Nat)) = some (.int ((a % b : Nat) : Int)) := by
        rw [o_mod (by omega)]; simp
      have e2 : evB cs call (.cons (.par [(2, false), (3, false)] (.cons (.var 3) (.cons (.bin .mod (.bi .int (.cons (.var 2) .nil)) (.var 3)) .nil))) .nil) [s0, s1, .val (.int (a : Nat)), .val (.int (b : Nat))] g = .ok (.nx [s0, s1, .val (.int (b : Nat)), .val (.int ((a % b : Nat) : Int))]) g := by
        simp [om, parG]
      simp only [e1, R.bind, if_true, e2]
      exact ih
theorem least81_i (k : Nat) {a b : Int} (g : G) (ha : 0 ≤ a) (hb : 1 ≤ b) (hb1 : b < 10 ^ 100) : den p (k + 1) 27 [.int a, .int b] g = .ok (fracD a.toNat b.toNat) g := by
  refine Eq.trans (den_f H81.h__law_least rfl (by decide)) ?_
  show endR (evB p.cs (den p k) b__law_least [.val (.int a), .val (.int b), .no, .no] g) = _
  have ew := least81_w p.cs (den p k) g (.val (.int a)) (.val (.int b)) FUEL b.toNat a.toNat (by unfold FUEL; omega)
  rw [Int.toNat_of_nonneg ha, Int.toNat_of_nonneg (show 0 ≤ b by omega)] at ew
  have hgp : 0 < Nat.gcd a.toNat b.toNat := Nat.gcd_pos_of_pos_right _ (by omega)
  have hgl : Nat.gcd a.toNat b.toNat ≤ b.toNat := Nat.gcd_le_right _ (by omega)
  have od : ∀ x : Int, opD .div (.int x) (.int ((Nat.gcd a.toNat b.toNat : Nat) : Int)) = some (.int (x / ((Nat.gcd a.toNat b.toNat : Nat) : Int))) := fun x => o_div (divOk (by omega) (by unfold Sm; simp only [Int.natAbs_natCast]; omega))
  have ep : ∀ s2 s3, parG [(2, false), (3, false)] [.int a, .int b] [.val (.int a), .val (.int b), s2, s3] = some [.val (.int a), .val (.int b), .val (.int a), .val (.int b)] := fun _ _ => rfl
  have e1 : a / ((Nat.gcd a.toNat b.toNat : Nat) : Int) = ((a.toNat / Nat.gcd a.toNat b.toNat : Nat) : Int) := by
    rw [Int.natCast_ediv, Int.toNat_of_nonneg ha]
  have e2 : b / ((Nat.gcd a.toNat b.toNat : Nat) : Int) = ((b.toNat / Nat.gcd a.toNat b.toNat : Nat) : Int) := by
    rw [Int.natCast_ediv, Int.toNat_of_nonneg (show 0 ≤ b by omega)]
  have es : evS p.cs (den p k) (.whl FUEL (.cmp .ne (.var 3) (.cst (.int 0))) (.cons (.par [(2, false), (3, false)] (.cons (.var 3) (.cons (.bin .mod (.bi .int (.cons (.var 2) .nil)) (.var 3)) .nil))) .nil)) [.val (.int a), .val (.int b), .val (.int a), .val (.int b)] g = .ok (.nx [.val (.int a), .val (.int b), .val (.int (Nat.gcd a.toNat b.toNat : Nat)), .val (.int 0)]) g := by
    rw [s_whl']; exact ew
  unfold fracD
  rw [if_neg (by omega)]
  simp [b__law_least, ep, es, od, e1, e2]
theorem maxI_mem81 : ∀ (l : List Int) (a : Int), maxI a l ∈ a :: l ∧ ∀ y ∈ a :: l, y ≤ maxI a l
  | [], a => ⟨List.mem_cons_self, fun y hy => by simp at hy; subst hy; exact Int.le_refl _⟩
  | b :: l, a => by
    obtain ⟨h1, h2⟩ := maxI_mem81 l (if a < b then b else a)
    have e : maxI a (b :: l) = maxI (if a < b then b else a) l := rfl
    rw [e]
    refine ⟨?_, fun y hy => ?_⟩
    · rcases List.mem_cons.mp h1 with z | z
      · rw [z]; split <;> simp
      · exact List.mem_cons_of_mem _ (List.mem_cons_of_mem _ z)
    · have h3 := h2 _ List.mem_cons_self
      have h4 : a ≤ (if a < b then b else a) ∧ b ≤ (if a < b then b else a) := by split <;> omega
      generalize (if a < b then b else a) = c at *
      rcases List.mem_cons.mp hy with rfl | hy
      · omega
      · rcases List.mem_cons.mp hy with rfl | hy
        · omega
        · exact h2 y (List.mem_cons_of_mem _ hy)
theorem zip_get81 : ∀ {xs ys : List Int} {q : Int × Int}, q ∈ xs.zip ys → ∃ K, K < xs.length ∧ K < ys.length ∧ q = (xs.getD K 0, ys.getD K 0)
  | [], ys, q, h => by simp at h
  | x :: xs, [], q, h => by simp at h
  | x :: xs, y :: ys, q, h => by
    rw [List.zip_cons_cons] at h
    rcases List.mem_cons.mp h with rfl | h
    · exact ⟨0, by simp, by simp, by simp⟩
    · obtain ⟨K, h1, h2, e⟩ := zip_get81 h
      exact ⟨K + 1, by simp; omega, by simp; omega, by simpa using e⟩
theorem zip_has81 : ∀ {xs ys : List Int} {K : Nat}, K < xs.length → K < ys.length → (xs.getD K 0, ys.getD K 0) ∈ xs.zip ys
  | [], ys, K, h, _ => by simp at h
  | x :: xs, [], K, _, h => by simp at h
  | x :: xs, y :: ys, 0, _, _ => by simp
  | x :: xs, y :: ys, K + 1, h1, h2 => by
    rw [List.zip_cons_cons]
    have := zip_has81 (xs := xs) (ys := ys) (K := K) (by simpa using h1) (by simpa using h2)
    exact List.mem_cons_of_mem _ (by simpa using this)

section
variable {s : Int} {fs L : List Int}
def bodyEW : B := match b__law_ends with
  | .cons _ (.cons _ (.cons (.whl _ _ b) _)) => b
  | _ => .nil
abbrev GmF (h r nn : D) (ly kn : List S2) (s5 s6 s7 s8 s9 s10 : Slot) : Gm := [.val h, .val r, .val nn, .own (knE pD kn), .val (.lst (ly.map pD)), s5, s6, s7, s8, s9, s10]
theorem ew_1 (h : HOk s fs) (hr : ROk s fs.length (.nested L)) (k : Nat) (g : G) (lay kn : List S2) (s5 s6 s7 s8 s9 s10 : Slot) (hx : ∀ x ∈ lay, x.1.length = fs.length ∧ x.2.length = fs.length) (k1 : kn.length + 4 * lay.length ≤ 80000) :
    ∃ t5 t6 t7 t8 t9 t10, evB p.cs (den p (k + 6)) bodyEW (GmF (hlD s fs) (Rl.nested L).d (ti (List.replicate fs.length 0)) lay kn s5 s6 s7 s8 s9 s10) g
      = .ok (.nx (GmF (hlD s fs) (Rl.nested L).d (ti (List.replicate fs.length 0)) (gv (lay.flatMap (sc81 s fs L)) kn []).2 (gv (lay.flatMap (sc81 s fs L)) kn []).1 t5 t6 t7 t8 t9 t10)) g := by
  obtain ⟨t6, t7, t8, t9, t10, e⟩ := eouter_w (p := p) h hr k g (.lst (lay.map pD)) lay kn [] s6 s7 s8 s9 s10 hx k1 (by simp; omega)
  generalize (Rl.nested L).d = R at *
  refine ⟨.val (.lst ((gv (lay.flatMap (sc81 s fs L)) kn []).2.map pD)), t6, t7, t8, t9, t10, ?_⟩
  have eb : bodyEW = .cons (.own 5 (.lst .nil)) (.cons (.for_ (.tup [.var 6, .var 7]) (.seq (.var 4)) bodyEO) (.cons (.frz 5) (.cons (.asg (.var 4) (.var 5)) .nil))) := rfl
  rw [eb]
  refine step_nx (Γ1 := GmE (hlD s fs) R (ti (List.replicate fs.length 0)) (.lst (lay.map pD)) kn [] s6 s7 s8 s9 s10) (g1 := g) (by simp [GmF, GmE]) ?_
  refine step_nx (by
    rw [s_for']
    simp only [GmE, i_seq, x_var, List.getElem?_cons_zero, List.getElem?_cons_succ, r_ok, it_lst, sq_lst, l_some]
    exact e) ?_
  refine step_nx (by rw [s_frz']; rfl) ?_
  refine step_nx (Γ1 := GmF (hlD s fs) R (ti (List.replicate fs.length 0)) (gv (lay.flatMap (sc81 s fs L)) kn []).2 (gv (lay.flatMap (sc81 s fs L)) kn []).1 (.val (.lst ((gv (lay.flatMap (sc81 s fs L)) kn []).2.map pD))) t6 t7 t8 t9 t10) (g1 := g) ?_ (b_nil ..)
  simp [GmF, GmE]
theorem ew_w (h : HOk s fs) (h4 : s ≤ 4) (h3 : fs.length ≤ 3) (hr : ROk s fs.length (.nested L)) (k : Nat) (g : G) : ∀ (N M : Nat) (kn lay res : List S2) (s5 s6 s7 s8 s9 s10 : Slot), GI (sc81 s fs L) (z81 fs) kn lay → lay.length ≤ kn.length → gs (sc81 s fs L) N kn lay = some res → N ≤ M →
    ∃ Γ', whlR (fun Γ g => blR (evE p.cs (den p (k + 6)) (.cmp .ne (.var 4) (.lst .nil)) Γ g)) (fun Γ g => evB p.cs (den p (k + 6)) bodyEW Γ g) M (GmF (hlD s fs) (Rl.nested L).d (ti (List.replicate fs.length 0)) lay kn s5 s6 s7 s8 s9 s10) g = .ok (.nx Γ') g
      ∧ ∃ ly t5 t6 t7 t8 t9 t10, Γ' = GmF (hlD s fs) (Rl.nested L).d (ti (List.replicate fs.length 0)) ly res t5 t6 t7 t8 t9 t10
  | 0, _, _, _, _, _, _, _, _, _, _, _, _, e, _ => by simp [gs] at e
  | N + 1, M, kn, lay, res, s5, s6, s7, s8, s9, s10, gi, hl, e, hM => by
    obtain ⟨M, rfl⟩ : ∃ M', M = M' + 1 := ⟨M - 1, by omega⟩
    have ec : blR (evE p.cs (den p (k + 6)) (.cmp .ne (.var 4) (.lst .nil)) (GmF (hlD s fs) (Rl.nested L).d (ti (List.replicate fs.length 0)) lay kn s5 s6 s7 s8 s9 s10) g) = .ok (!(lay.map pD).isEmpty) g := by
      have := ne_nil_d (S2_shp lay) (by decide)
      simp only [x_cmp, x_var, x_lst, a_nil, List.getElem?_cons_zero, List.getElem?_cons_succ, r_ok, this, Option.map_some, l_some, b_ok]
    have hkn := len81 h4 h3 gi.nd fun x hx => p81 h.s1 (gi.rc x hx)
    cases lay with
    | nil =>
      simp only [gs, Option.some.injEq] at e
      subst e
      refine ⟨_, ?_, [], s5, s6, s7, s8, s9, s10, rfl⟩
      unfold whlR
      simp only [ec, r_ok]
      rfl
    | cons q lay =>
      obtain ⟨t5, t6, t7, t8, t9, t10, st⟩ := ew_1 (p := p) h hr k g (q :: lay) kn s5 s6 s7 s8 s9 s10 (fun x hx => by
        have := p81 h.s1 (gi.rc x (gi.ly x hx))
        exact ⟨this.1.len, this.2.len⟩) (by omega)
      simp only [gs] at e
      obtain ⟨gi', _, hl'⟩ := gi.next
      obtain ⟨Γ', e2, r2⟩ := ew_w h h4 h3 hr k g N M _ _ res t5 t6 t7 t8 t9 t10 gi' hl' e (by omega)
      refine ⟨Γ', ?_, r2⟩
      have hne : (!((q :: lay).map pD).isEmpty) = true := rfl
      conv => lhs; unfold whlR
      simp only [ec, r_ok, hne, if_true, st]
      exact e2
/-- all that is got, and what hindsight gets -/
def prE (fs : List Int) (x : S2) : D := .tup [.int (worthL fs x.1), .int (worthL fs x.2)]
theorem ends_i (h : HOk s fs) (h4 : s ≤ 4) (h3 : fs.length ≤ 3) (hr : ROk s fs.length (.nested L)) (k : Nat) (g : G) : ∃ kn, GI (sc81 s fs L) (z81 fs) kn [] ∧ den p (k + 7) 93 [hlD s fs, (Rl.nested L).d] g = .ok (.lst (kn.map (prE fs))) g := by
  obtain ⟨kn, e0, gi⟩ := ends81 h.s1 h4 h3 L
  refine ⟨kn, gi, ?_⟩
  obtain ⟨Γ', ew, ly, t5, t6, t7, t8, t9, t10, eΓ⟩ := ew_w (p := p) h h4 h3 hr k g 20000 FUEL _ _ _ .no .no .no .no .no .no (GI.start _) (by simp) e0 (by decide)
  refine Eq.trans (den_f H81.h__law_ends rfl (by decide)) ?_
  show endR (evB p.cs (den p (k + 6)) b__law_ends [.val (hlD s fs), .val (Rl.nested L).d, .no, .no, .no, .no, .no, .no, .no, .no, .no] g) = _
  generalize (Rl.nested L).d = R at *
  have f1 := h.f1
  have em : opD .mul (.tup [.int 0]) (.int fs.length) = some (ti (List.replicate fs.length 0)) := by
    have hc : ¬ ([D.int 0] = []) ∧ (1 : Int) ≤ (fs.length : Int) ∧ (fs.length : Int) ≤ 1000 ∧ ([D.int 0] : List D).length ≤ 1000 := ⟨by simp, by omega, by omega, by simp⟩
    simp only [opD, hc, not_false_eq_true, and_self, if_true, ti]
    congr 2
    rw [Int.toNat_natCast]
    induction fs.length with
    | zero => rfl
    | succ n ih => simp [List.replicate_succ, ih]
  have el : biD .len [ti fs] = some (.int fs.length) := by simp [ti]
  have ok0 := key_pD.ok (z81 fs)
  have eb : b__law_ends = .cons (.asg (.var 2) (.bin .mul (.tup (.cons (.cst (.int 0)) .nil)) (.bi .len (.cons (.idx (.var 0) (.cst (.int 1))) .nil)))) (.cons (.par [(3, true), (4, false)] (.cons (.done (.tup (.cons (.var 2) (.cons (.var 2) .nil))) (.cst (.bl true))) (.cons (.lst (.cons (.tup (.cons (.var 2) (.cons (.var 2) .nil))) .nil)) .nil))) (.cons (.whl FUEL (.cmp .ne (.var 4) (.lst .nil)) bodyEW) (.cons (.frz 3) (.cons (.ret (.lc (.tup (.cons (.call 82 (.cons (.var 0) (.cons (.var 6) .nil))) (.cons (.call 82 (.cons (.var 0) (.cons (.var 7) .nil))) .nil))) (.tup [(.var 6), (.var 7)]) (.seq (.var 3)) none)) .nil)))) := rfl
  rw [eb]
  refine Eq.trans (congrArg endR (step_nx (Γ1 := [.val (hlD s fs), .val R, .val (ti (List.replicate fs.length 0)), .no, .no, .no, .no, .no, .no, .no, .no]) (g1 := g) ?_ (step_nx (Γ1 := GmF (hlD s fs) R (ti (List.replicate fs.length 0)) [z81 fs] [z81 fs] .no .no .no .no .no .no) (g1 := g) ?_ (step_nx (Γ1 := Γ') (g1 := g) (by rw [s_whl']; exact ew) (step_nx (Γ1 := [.val (hlD s fs), .val R, .val (ti (List.replicate fs.length 0)), .val (knE pD kn), .val (.lst (ly.map pD)), t5, t6, t7, t8, t9, t10]) (g1 := g) (by rw [eΓ, s_frz']; rfl) (step_rt (d := .lst (kn.map (prE fs))) (g1 := g) ?_)))))) rfl
  · have ix : idxD (hlD s fs) (.int 1) = some (ti fs) := rfl
    simp only [s_asg', x_bin, x_tup, x_bi, x_idx, x_var, x_cst, a_cons, a_nil, r_ok, List.getElem?_cons_zero, ix, l_some, el, em, t_var]
    rfl
  · have ez : D.tup [ti (List.replicate fs.length 0), ti (List.replicate fs.length 0)] = pD (z81 fs) := rfl
    simp only [s_par', a_cons, a_nil, r_ok, x_lst, x_tup, x_done, x_cst, x_var, List.getElem?_cons_zero, List.getElem?_cons_succ, ez, ok0, if_true]
    rfl
  · have hkn := len81 h4 h3 gi.nd fun x hx => p81 h.s1 (gi.rc x hx)
    have hw := fun (c : List Int) (hc : CIn s fs.length c) (g : G) => tworth_i (p := p) h (k + 5) g hc
    rw [s_ret']
    have lc := lc_map (cs := p.cs) (call := den p (k + 6)) (elt := (.tup (.cons (.call 82 (.cons (.var 0) (.cons (.var 6) .nil))) (.cons (.call 82 (.cons (.var 0) (.cons (.var 7) .nil))) .nil)))) (t := .tup [(.var 6), (.var 7)]) (it := .seq (.var 3)) (Γ := [.val (hlD s fs), .val R, .val (ti (List.replicate fs.length 0)), .val (knE pD kn), .val (.lst (ly.map pD)), t5, t6, t7, t8, t9, t10]) (g := g) (l := kn) (enc := pD) (h := prE fs)
      (by
        have : seqD (knE pD kn) = some (kn.map pD) := by
          simp only [knE, seqD, List.length_map]
          rw [if_pos (by omega)]
        simp only [i_seq, x_var, List.getElem?_cons_zero, List.getElem?_cons_succ, r_ok, this, l_some])
      (fun x hx g => by
        have q := p81 h.s1 (gi.rc x hx)
        have w1 := hw x.1 q.1 g
        have w2 := hw x.2 q.2 g
        simp [pD, prE, wipeG, T.vars, varsT, w1, w2])
    rw [lc, r_ok]
end
end Pk

set_option Elab.async false
set_option linter.all false
set_option maxRecDepth 100000
set_option maxHeartbeats 4000000
/-! k81: the least share of pairs. -/
namespace Pk
open PySem Bk
/-- many turns of a loop, each of which draws a few numbers -/
theorem turns_g {f : D → Gm → G → R Fl} {P : Gm → Prop} {c : Int} (hc : 0 ≤ c) (H : ∀ x Γ g, P Γ → g.spot + c + 1000 < 2 ^ 60 → ∃ Γ' g', f x Γ g = .ok (.nx Γ') g' ∧ P Γ' ∧ g'.spot ≤ g.spot + c) : ∀ (xs : List D) (Γ : Gm) (g : G), P Γ → g.spot + c * xs.length + 1000 < 2 ^ 60 → ∃ Γ' g', forR f xs Γ g = .ok (.nx Γ') g' ∧ P Γ' ∧ g'.spot ≤ g.spot + c * xs.length
  | [], Γ, g, h, _ => ⟨Γ, g, rfl, h, by simp⟩
  | x :: xs, Γ, g, h, hs => by
    simp only [List.length_cons] at hs ⊢
    push_cast at hs ⊢
    rw [Int.mul_add] at hs ⊢
    have hn : 0 ≤ c * (xs.length : Int) := Int.mul_nonneg hc (by omega)
    obtain ⟨Γ1, g1, e1, p1, s1⟩ := H x Γ g h (by omega)
    obtain ⟨Γ2, g2, e2, p2, s2⟩ := turns_g hc H xs Γ1 g1 p1 (by omega)
    refine ⟨Γ2, g2, ?_, p2, by omega⟩
    simp only [forR, e1, r_ok]
    exact e2
variable {p : Pr} [HP p] [HC p] [H89 p] [H81 p]
def bodyQ81 : B := (.cons (.asg (.var 2) (.bin .add (.var 2) (.tup (.cons (.bin .div (.bi .int (.cons (.bin .sub (.bin .mul (.var 3) (.var 1)) (.bin .mod (.bi .int (.cons (.bin .mul (.var 3) (.var 1)) .nil)) (.idx (.var 0) (.cst (.int 1))))) .nil)) (.idx (.var 0) (.cst (.int 1)))) .nil)))) .nil)
theorem limits81_w (cs : List (Nat × D)) (call : Nat → List D → G → R D) (g : G) (fs : List Int) (w : Int) (ps0 : List Int) (s : Int) (hw : 0 < w) (hws : Sm w) (hs : Sm s) : ∀ (ps acc : List Int) (s3 : Slot), (∀ q ∈ ps, Sm q) → acc.length + ps.length ≤ 100 →
    ∃ s3', forR (fun x Γ g => (lift (setT (.var 3) x Γ) g).bind fun Γ' g => evB cs call bodyQ81 Γ' g) (ps.map .int) [.val (plD fs w ps0), .val (.int s), .val (ti acc), s3] g = .ok (.nx [.val (plD fs w ps0), .val (.int s), .val (ti (acc ++ limI ps w s)), s3']) g
  | [], acc, s3, _, _ => ⟨s3, by simp [forR, limI]⟩
  | q :: ps, acc, s3, h, hl => by
    simp only [List.length_cons] at hl
    obtain ⟨s3', ih⟩ := limits81_w cs call g fs w ps0 s hw hws hs ps (acc ++ [q * s / w]) (.val (.int q)) (fun x hx => h x (by simp [hx])) (by simp; omega)
    refine ⟨s3', ?_⟩
    have m1 : opD .mul (.int q) (.int s) = some (.int (q * s)) := o_mul (mulOk (h q (by simp)) hs)
    have m2 : opD .mod (.int (q * s)) (.int w) = some (.int (q * s % w)) := o_mod hw
    have m3 : opD .div (.int (q * s - q * s % w)) (.int w) = some (.int (q * s / w)) := by
      rw [o_div (divOk hw hws)]
      have e : q * s - q * s % w = w * (q * s / w) := by have := Int.mul_ediv_add_emod (q * s) w; omega
      rw [e, Int.mul_ediv_cancel_left _ (by omega)]
    have ea : opD .add (ti acc) (.tup [.int (q * s / w)]) = some (ti (acc ++ [q * s / w])) := by
      simp only [opD, ti]
      rw [if_pos (by simp; omega)]
      simp
    have st : ((lift (setT (.var 3) (.int q) [.val (plD fs w ps0), .val (.int s), .val (ti acc), s3]) g).bind fun Γ' g => evB cs call bodyQ81 Γ' g) = .ok (.nx [.val (plD fs w ps0), .val (.int s), .val (ti (acc ++ [q * s / w])), .val (.int q)]) g := by
      simp [bodyQ81, m1, m2, m3, ea]
    have el : acc ++ limI (q :: ps) w s = (acc ++ [q * s / w]) ++ limI ps w s := by simp [limI]
    rw [el, List.map_cons]
    unfold forR
    rw [st, r_ok]
    exact ih
section
variable {fs : List Int} {w : Int} {ps : List Int}
theorem limits81_l (h : PO fs w ps) (k : Nat) {s : Int} (g : G) (hs : Sm s) : den p (k + 1) 36 [plD fs w ps, .int s] g = .ok (ti (limI ps w s)) g := by
  refine Eq.trans (den_f H81.h__law_limits rfl (by decide)) ?_
  show endR (evB p.cs (den p k) b__law_limits [.val (plD fs w ps), .val (.int s), .no, .no] g) = _
  have hw := h.w0
  have h4 := h.f4
  obtain ⟨s3, e⟩ := limits81_w p.cs (den p k) g fs w ps s (by omega) h.wsm hs ps [] .no h.psm (by simp [h.len]; omega)
  have et : ti [] = .tup [] := rfl
  have es : evS p.cs (den p k) (.for_ (.var 3) (.seq (.idx (.var 0) (.cst (.int 2)))) bodyQ81) [.val (plD fs w ps), .val (.int s), .val (.tup []), .no] g = .ok (.nx [.val (plD fs w ps), .val (.int s), .val (ti (limI ps w s)), s3]) g := by
    rw [s_for']
    rw [et] at e
    simp only [i_seq, x_idx, x_var, x_cst, List.getElem?_cons_zero, r_ok, pl_2, l_some, ti_it, ti_sq]
    simpa using e
  have eb : b__law_limits = (.cons (.asg (.var 2) (.tup .nil)) (.cons (.for_ (.var 3) (.seq (.idx (.var 0) (.cst (.int 2)))) bodyQ81) (.cons (.ret (.var 2)) .nil))) := rfl
  rw [eb]
  simp [es]
end
theorem plan_d3 (k : Nat) {fh most : Int} (g : G) (f0 : 1 ≤ fh) (f1 : fh ≤ 4) (h0 : 1 ≤ most) (h1 : most ≤ 60) (hs : g.spot + 100 < 2 ^ 60) : ∃ fs w ps g', den p (k + 2) 0 [.m, .int fh, .int most] g = .ok (plD fs w ps) g' ∧ PO fs w ps ∧ w ≤ most ∧ g'.spot ≤ g.spot + 14 ∧ (∀ x ∈ fs, x ≤ 96) ∧ (fs.length : Int) ≤ fh := by
  obtain ⟨fs, g1, e1, hf, hg1, hfl, h96⟩ := fares_d (p := p) k (most := fh) g f0 f1 (by omega)
  obtain ⟨v, g2, e2, v0, v1, hg2⟩ := drw_ok (lim := most) (g := g1) (by omega) (by omega) (by omega)
  have hfl' : fs.length ≤ 4 := by omega
  obtain ⟨ns, g3, e3, n1, n2, hg3⟩ := lc_draws (f := fun x g => (lift (setT (.var 5) x (wipeG [.val .m, .val (.int fh), .val (.int most), .val (ti fs), .val (.int (1 + v)), .no] (T.var 5).vars)) g).bind fun Γ' g => (evE p.cs (den p (k + 1)) (.draw (.var 0) (.bin .add (.var 4) (.cst (.int 1)))) Γ' g).bind fun y g => .ok (some y) g) (lim := 1 + v + 1) (fun x g hs => by
    obtain ⟨u, g', e, u0, u1, hg⟩ := drw_ok (lim := 1 + v + 1) (g := g) (by omega) (by omega) hs
    exact ⟨u, g', by simp [x_drw, e, -x_draw], u0, u1, hg⟩) (fs.map .int) g2 (by simp; omega)
  refine ⟨fs, 1 + v, sortI ns, g3, ?_, ?_, by omega, by simp at hg3; omega, h96, hfl⟩
  · refine Eq.trans (den_f HP.h__law_plan rfl (by decide)) ?_
    show endR (evB p.cs (den p (k + 1)) b__law_plan [.val .m, .val (.int fh), .val (.int most), .no, .no, .no] g) = _
    have e4 : evE p.cs (den p (k + 1)) (.lc (.draw (.var 0) (.bin .add (.var 4) (.cst (.int 1)))) (.var 5) (.seq (.var 3)) none) [.val .m, .val (.int fh), .val (.int most), .val (ti fs), .val (.int (1 + v)), .no] g2 = .ok (.lst (ns.map .int)) g3 := by
      have ei : evI p.cs (den p (k + 1)) (.seq (.var 3)) [.val .m, .val (.int fh), .val (.int most), .val (ti fs), .val (.int (1 + v)), .no] g2 = .ok (fs.map .int) g2 := by simp
      rw [x_lc0, ei, r_ok, e3]
      rfl
    simp [b__law_plan, e1, x_drw, e2, e4, ints_map, -x_draw]
    simp [plD, ti]
  · have hp := sortI_perm' ns
    have hh := hf
    unfold fsOk at hh
    simp only [Bool.and_eq_true, decide_eq_true_eq, List.all_eq_true] at hh
    obtain ⟨⟨⟨a1, a2⟩, a3⟩, a4⟩ := hh
    refine ⟨a1, a2, a3, by omega, by omega, by rw [hp.length_eq, n1]; simp, fun q hq => ?_, pair_ups (sortI_sorted' ns), a4⟩
    have := n2 q (hp.mem_iff.mp hq)
    omega
def bodySL : B := match b__law_share_least with
  | .cons _ (.cons (.for_ _ _ b) _) => b
  | _ => .nil
def pp2 (q : Int × Int) : D := .tup [.int q.1, .int q.2]
theorem sl_w (k : Nat) (g : G) (s0 : Slot) : ∀ (l : List (Int × Int)) (a b : Int) (s2 s3 : Slot), 0 ≤ a → 1 ≤ b → a ≤ 10 ^ 9 → b ≤ 10 ^ 9 → (∀ q ∈ l, 0 ≤ q.1 ∧ q.1 ≤ 600 ∧ 0 ≤ q.2 ∧ q.2 ≤ 600) →
    ∃ a' b' t2 t3, forR (fun x Γ g => (lift (setT (.tup [.var 2, .var 3]) x Γ) g).bind fun Γ' g => evB p.cs (den p (k + 1)) bodySL Γ' g) (l.map pp2) [s0, .val (fracD a.toNat b.toNat), s2, s3] g = .ok (.nx [s0, .val (fracD a'.toNat b'.toNat), t2, t3]) g
      ∧ (0 ≤ a' ∧ 1 ≤ b' ∧ a' ≤ 10 ^ 9 ∧ b' ≤ 10 ^ 9) ∧ a' * b ≤ a * b' ∧ (∀ q ∈ l, 0 < q.2 → a' * q.2 ≤ q.1 * b') ∧ ((a' = a ∧ b' = b) ∨ ∃ q ∈ l, 0 < q.2 ∧ a' = q.1 ∧ b' = q.2)
  | [], a, b, s2, s3, h1, h2, h3, h4, _ => ⟨a, b, s2, s3, rfl, ⟨h1, h2, h3, h4⟩, Int.le_refl _, (fun q hq => by cases hq), .inl ⟨rfl, rfl⟩⟩
  | q :: l, a, b, s2, s3, h1, h2, h3, h4, hl => by
    obtain ⟨q1, q2⟩ := q
    have hq := hl (q1, q2) List.mem_cons_self
    simp only at hq
    obtain ⟨c, d, h, ef, hh, ea, eb, c0, d1, ca, db⟩ := frac_of h1 h2
    have om1 : opD .mul (.int q1) (.int d) = some (.int (q1 * d)) := o_mul (mulOk (sm_nn hq.1 (by omega)) (sm_nn (by omega) (by omega)))
    have om2 : opD .mul (.int c) (.int q2) = some (.int (c * q2)) := o_mul (mulOk (sm_nn c0 (by omega)) (sm_nn hq.2.2.1 (by omega)))
    have cr : (q1 * d < c * q2) ↔ (q1 * b < a * q2) := by
      rw [ea, eb]
      have e1 : q1 * (h * d) = h * (q1 * d) := Int.mul_left_comm _ _ _
      have e2 : h * c * q2 = h * (c * q2) := Int.mul_assoc _ _ _
      rw [e1, e2]
      exact (Int.mul_lt_mul_left hh).symm
    by_cases hc : 0 < q2 ∧ q1 * b < a * q2
    · have el := least81_i (p := p) k (a := q1) (b := q2) g hq.1 (by omega) (by omega)
      obtain ⟨a', b', t2, t3, e2, bd, i1, i2, i3⟩ := sl_w k g s0 l q1 q2 (.val (.int q1)) (.val (.int q2)) hq.1 (by omega) (by omega) (by omega) (fun z hz => hl z (List.mem_cons_of_mem _ hz))
      refine ⟨a', b', t2, t3, ?_, bd, fr_trans (by omega) (by omega : 0 < q2) (by omega) i1 (by omega), fun z hz z0 => ?_, ?_⟩
      · have st : (lift (setT (.tup [.var 2, .var 3]) (pp2 (q1, q2)) [s0, .val (fracD a.toNat b.toNat), s2, s3]) g).bind (fun Γ' g => evB p.cs (den p (k + 1)) bodySL Γ' g) = .ok (.nx [s0, .val (fracD q1.toNat q2.toNat), .val (.int q1), .val (.int q2)]) g := by
          rw [ef]
          simp [pp2, bodySL, b__law_share_least, om1, om2, hc.1, cr.mpr hc.2, el]
        simp only [List.map_cons, forR, st, r_ok]
        exact e2
      · rcases List.mem_cons.mp hz with rfl | hz
        · exact i1
        · exact i2 z hz z0
      · rcases i3 with ⟨x, y⟩ | ⟨z, hz, x⟩
        · exact .inr ⟨(q1, q2), List.mem_cons_self, hc.1, x, y⟩
        · exact .inr ⟨z, List.mem_cons_of_mem _ hz, x⟩
    · obtain ⟨a', b', t2, t3, e2, bd, i1, i2, i3⟩ := sl_w k g s0 l a b (.val (.int q1)) (.val (.int q2)) h1 h2 h3 h4 (fun z hz => hl z (List.mem_cons_of_mem _ hz))
      refine ⟨a', b', t2, t3, ?_, bd, i1, fun z hz z0 => ?_, ?_⟩
      · have st : (lift (setT (.tup [.var 2, .var 3]) (pp2 (q1, q2)) [s0, .val (fracD a.toNat b.toNat), s2, s3]) g).bind (fun Γ' g => evB p.cs (den p (k + 1)) bodySL Γ' g) = .ok (.nx [s0, .val (fracD a.toNat b.toNat), .val (.int q1), .val (.int q2)]) g := by
          rw [ef]
          by_cases h0 : 0 < q2
          · have hn : ¬ (q1 * d < c * q2) := fun z => hc ⟨h0, cr.mp z⟩
            simp [pp2, bodySL, b__law_share_least, om1, om2, h0, hn]
          · simp [pp2, bodySL, b__law_share_least, h0]
        simp only [List.map_cons, forR, st, r_ok]
        exact e2
      · rcases List.mem_cons.mp hz with rfl | hz
        · have hge : a * q2 ≤ q1 * b := by
            have : ¬ (q1 * b < a * q2) := fun y => hc ⟨z0, y⟩
            omega
          exact fr_trans (by omega) (by omega : 0 < b) z0 i1 hge
        · exact i2 z hz z0
      · rcases i3 with x | ⟨z, hz, x⟩
        · exact .inl x
        · exact .inr ⟨z, List.mem_cons_of_mem _ hz, x⟩
theorem sl_i (k : Nat) (g : G) {l : List (Int × Int)} (hl : ∀ q ∈ l, 0 ≤ q.1 ∧ q.1 ≤ 600 ∧ 0 ≤ q.2 ∧ q.2 ≤ 600) {A B : Int} (hA : 0 ≤ A) (hB : 1 ≤ B) (hB9 : B ≤ 600) (hAB : A ≤ B) (lo : ∀ q ∈ l, 0 < q.2 → A * q.2 ≤ q.1 * B) (at_ : (A, B) ∈ l) :
    den p (k + 2) 95 [.lst (l.map pp2)] g = .ok (fracD A.toNat B.toNat) g := by
  obtain ⟨a, b, t2, t3, e, bd, i1, i2, i3⟩ := sl_w (p := p) k g (.val (.lst (l.map pp2))) l 1 1 .no .no (by decide) (by decide) (by decide) (by decide) hl
  have up := i2 _ at_ (by show 0 < B; omega)
  have dn : A * b ≤ a * B := by
    rcases i3 with ⟨rfl, rfl⟩ | ⟨q, hq, q0, rfl, rfl⟩
    · omega
    · exact lo q hq q0
  have ec : fracD a.toNat b.toNat = fracD A.toNat B.toNat := frac_cross bd.1 bd.2.1 hA hB (by simp only at up; omega)
  rw [ec] at e
  refine Eq.trans (den_f H81.h__law_share_least rfl (by decide)) ?_
  show endR (evB p.cs (den p (k + 1)) b__law_share_least [.val (.lst (l.map pp2)), .no, .no, .no] g) = _
  have e11 : fracD (1 : Int).toNat (1 : Int).toNat = .tup [.int 1, .int 1] := rfl
  rw [e11] at e
  have eb : b__law_share_least = .cons (.asg (.var 1) (.tup (.cons (.cst (.int 1)) (.cons (.cst (.int 1)) .nil)))) (.cons (.for_ (.tup [(.var 2), (.var 3)]) (.seq (.var 0)) bodySL) (.cons (.ret (.var 1)) .nil)) := rfl
  rw [eb]
  refine Eq.trans (congrArg endR (step_nx (Γ1 := [.val (.lst (l.map pp2)), .val (.tup [.int 1, .int 1]), .no, .no]) (g1 := g) (by simp) (step_nx (by
    rw [s_for']
    simp only [i_seq, x_var, List.getElem?_cons_zero, List.getElem?_cons_succ, r_ok, it_lst, sq_lst, l_some]
    exact e) (step_rt (d := fracD A.toNat B.toNat) (g1 := g) (by simp))))) rfl
end Pk

set_option Elab.async false
set_option linter.all false
set_option maxRecDepth 100000
set_option maxHeartbeats 4000000
/-! k81: turns, end. -/
namespace Pk
open PySem Bk
instance : HP Bk.p := by constructor <;> rfl
instance : HC Bk.p := by constructor <;> rfl
instance : H89 Bk.p := by constructor <;> rfl
instance : H81 Bk.p := by constructor <;> rfl
theorem lk17 : Bk.p.ds.lookup 17 = some ⟨2, 2, likeB⟩ := rfl
theorem frac_sz81 {a b : Nat} (ha : a ≤ 100000) (hb : b ≤ 100000) : Sz 40 1 (fracD a b) := by
  unfold fracD
  have k : ∀ x y : Nat, x / y ≤ x := fun x y => Nat.div_le_self x y
  split
  · exact (Sz.tsm (l := [1, 1]) (by decide)).mono (by decide) (by decide)
  · refine (Sz.tsm (l := [((a / Nat.gcd a b : Nat) : Int), ((b / Nat.gcd a b : Nat) : Int)]) fun x hx => ?_).mono (by simp) (by decide)
    have k1 := k a (Nat.gcd a b)
    have k2 := k b (Nat.gcd a b)
    simp only [List.mem_cons, List.not_mem_nil, or_false] at hx
    rcases hx with rfl | rfl
    · rw [Int.natAbs_natCast]; omega
    · rw [Int.natAbs_natCast]; omega
theorem pl_sz {fs : List Int} {w : Int} {ps : List Int} (h : PO fs w ps) : Sz 400 2 (plD fs w ps) := by
  have hf : Sz 52 1 (ti fs) := (Sz.tsm (l := fs) fun x hx => by have := h.f x hx; omega).mono (by have := h.f4; omega) (by decide)
  have hp : Sz 60 1 (ti ps) := by
    refine (Sz.tup (n := 12) (h := 0) (ds := ps.map .int) fun d hd => ?_).mono (by simp only [List.length_map]; have := h.f4; have := h.len; omega) (by decide)
    obtain ⟨x, hx, rfl⟩ := List.mem_map.mp hd
    have hq := h.q x hx
    have hw := h.w1
    by_cases hz : x = 1000000000
    · subst hz; exact ⟨by decide, by decide, by decide, by decide +kernel⟩
    · exact (Sz.small (i := x) (by omega)).mono (by decide) (by decide)
  have hw : Sz 60 0 (.int w) := by
    have h0 := h.w0
    have h1 := h.w1
    by_cases hz : w = 1000000000
    · subst hz; exact ⟨by decide, by decide, by decide, by decide +kernel⟩
    · exact (Sz.small (i := w) (by omega)).mono (by decide) (by decide)
  refine (Sz.tup (n := 60) (h := 1) (ds := [ti fs, .int w, ti ps]) fun d hd => ?_).mono (by simp) (by decide)
  simp only [List.mem_cons, List.not_mem_nil, or_false] at hd
  rcases hd with rfl | rfl | rfl
  · exact hf.mono (by decide) (by decide)
  · exact hw.mono (by decide) (by decide)
  · exact hp
theorem max_l {l : List Int} {W : Int} (hm : W ∈ l) (hu : ∀ x ∈ l, x ≤ W) : biD .max [.lst (l.map .int)] = some (.int W) := by
  simp only [biD, ints_map, Option.bind_some]
  cases l with
  | nil => cases hm
  | cons a l =>
    simp only
    obtain ⟨h1, h2⟩ := maxI_mem81 l a
    have e1 := hu _ h1
    have e2 := h2 _ hm
    rw [show maxI a l = W by omega]
def b_turn : B := match b_law with
  | .cons (.for_ _ _ b) _ => b
  | _ => .nil
def b_end : B := match b_law with
  | .cons _ b => b
  | _ => .nil
theorem turn81 (s0 s2 s3 s4 s5 s6 s7 s8 s9 s10 s11 : Slot) (g : G) (hs : g.spot + 100 + 1000 < 2 ^ 60) :
    ∃ t3 t4 t5 t6 t7 t8 t9 g', evB Bk.p.cs (den Bk.p 10) b_turn [s0, .val .m, s2, s3, s4, s5, s6, s7, s8, s9, s10, s11] g
      = .ok (.nx [s0, .val .m, s2, t3, t4, t5, t6, t7, t8, t9, s10, s11]) g' ∧ g'.spot ≤ g.spot + 100 := by
  obtain ⟨x, g1, e1, hx, hg1⟩ := of_i (p := Bk.p) 9 (xs := [.int 3, .int 7, .int 12]) g (by simp) (by simp) (by omega)
  obtain ⟨m0, rfl, hm0, hm1⟩ : ∃ m0 : Int, x = .int m0 ∧ 1 ≤ m0 ∧ m0 ≤ 60 := by
    simp only [List.mem_cons, List.not_mem_nil, or_false] at hx
    rcases hx with z | z | z
    · exact ⟨_, z, by decide, by decide⟩
    · exact ⟨_, z, by decide, by decide⟩
    · exact ⟨_, z, by decide, by decide⟩
  obtain ⟨fs, w, ps, g2, e2, po, hw, hg2, h96, hf3⟩ := plan_d3 (p := Bk.p) 8 (fh := 3) (most := m0) g1 (by decide) (by decide) hm0 (by omega) (by omega)
  obtain ⟨u, g3, e3, u0, u1, hg3⟩ := drw_ok (lim := 4) (g := g2) (by decide) (by decide) (by omega)
  generalize hsd : 1 + u = s at *
  have hs1 : 1 ≤ s := by omega
  have hs4 : s ≤ 4 := by omega
  have hs6 : s ≤ 6 := by omega
  have h : HOk s fs := ⟨hs1, hs6, po.f1, po.f4, po.f, po.upf⟩
  have eLL := limits81_l (p := Bk.p) po 9 (s := s) g3 (sm_nn (by omega) (by omega))
  have eL := limits_of_i (p := Bk.p) po 5 (s := s) g3 hs1 (by omega)
  have eN := need_plan_i (p := Bk.p) 6 fs w ps g3 po.to
  have eS := share_i (p := Bk.p) po 5 (s := s) g3 hs1 (by omega)
  obtain ⟨n0, ns0, eRl, eR⟩ := regret_i (p := Bk.p) po 5 (s := s) g3 hs1 (by omega)
  have hLb := limI_bd po (s := s) (by omega)
  have hLu := limI_up po (s := s) (by omega)
  have hll : (limI ps w s).length = fs.length := by simp [limI, po.len]
  have hpb := prs_bd (d := s) po.f po.f4 hLu (fun l hl => (hLb l hl).2) (by omega) (by omega) hs1 (by omega)
  obtain ⟨b0, r0, ep⟩ := prs_ne (d := s) (fs := fs) (ls := limI ps w s) po.f1 hll
  generalize hLd : limI ps w s = L at *
  have lm := less_mem r0 b0
  have ll := less_le r0 b0 (fun q hq => by
    rw [← ep] at hq
    have := hpb q hq
    omega)
  have esh : shV (prs s fs L) = fracD (lessI b0 r0).1.toNat (lessI b0 r0).2.toNat := by rw [ep]; rfl
  rw [← ep] at lm ll
  rw [esh] at eS
  obtain ⟨KA, kA1, kA2, kA3⟩ : ∃ K, K < fs.length ∧ (lessI b0 r0).1 = (gI fs L 0 0).getD K 0 ∧ (lessI b0 r0).2 = s * fs.getD K 0 := by
    obtain ⟨z, hz, ez⟩ := List.mem_map.mp lm
    obtain ⟨K, h1, h2, h3⟩ := zip_get81 hz
    exact ⟨K, h2, by rw [← ez, h3], by rw [← ez, h3]⟩
  have glen : (gI fs L 0 0).length = fs.length := by rw [gI_len]; omega
  have lJ : ∀ J, J < fs.length → (lessI b0 r0).1 * (s * fs.getD J 0) ≤ (gI fs L 0 0).getD J 0 * (lessI b0 r0).2 := fun J hJ => by
    have hm : ((gI fs L 0 0).getD J 0, s * fs.getD J 0) ∈ prs s fs L := List.mem_map.mpr ⟨((gI fs L 0 0).getD J 0, fs.getD J 0), zip_has81 (by omega) hJ, rfl⟩
    exact ll _ hm
  have hbA := hpb _ lm
  have hupf : Up 0 fs := upS_up po.upf (fun b hb => by
    have := (po.f b (List.mem_of_mem_head? hb)).1
    omega)
  have hAB : (lessI b0 r0).1 ≤ (lessI b0 r0).2 := by
    rw [kA2, kA3]
    have := gI_le fs L 0 0 0 KA hupf hLu hll kA1
    have hF := (po.f _ (mem_getD kA1)).1
    have h2 : fs.getD KA 0 * (L.getD KA 0 - 0) ≤ fs.getD KA 0 * s := Int.mul_le_mul_of_nonneg_left (by have := (hLb _ (mem_getD (l := L) (i := KA) (by omega))).2; omega) (by omega)
    rw [Int.mul_comm s]
    omega
  have hB6 : (lessI b0 r0).2 ≤ 600 := by
    rw [kA3]
    have hF := (po.f _ (mem_getD kA1)).2
    have : s * fs.getD KA 0 ≤ 6 * 99 := Int.mul_le_mul hs6 hF (by have := (po.f _ (mem_getD kA1)).1; omega) (by decide)
    omega
  have wl : ∀ J, J < fs.length → s * fs.getD J 0 - (gI fs L 0 0).getD J 0 ≤ maxI n0 ns0 := fun J hJ => by
    have hm : s * fs.getD J 0 - (gI fs L 0 0).getD J 0 ∈ (fs.zip (gI fs L 0 0)).map fun q => s * q.1 - q.2 := List.mem_map.mpr ⟨(fs.getD J 0, (gI fs L 0 0).getD J 0), zip_has81 hJ (by omega), rfl⟩
    rw [eRl] at hm
    exact (maxI_mem81 ns0 n0).2 _ hm
  obtain ⟨KW, kW1, kW2⟩ : ∃ K, K < fs.length ∧ maxI n0 ns0 = s * fs.getD K 0 - (gI fs L 0 0).getD K 0 := by
    have := (maxI_mem81 ns0 n0).1
    rw [← eRl] at this
    obtain ⟨z, hz, ez⟩ := List.mem_map.mp this
    obtain ⟨K, h1, h2, h3⟩ := zip_get81 hz
    exact ⟨K, h1, by rw [← ez, h3]⟩
  have w0 : 0 ≤ maxI n0 ns0 := by
    have := wl 0 (by have := po.f1; omega)
    have g := gI_le fs L 0 0 0 0 hupf hLu hll (by have := po.f1; omega)
    have hF := (po.f _ (mem_getD (l := fs) (i := 0) (by have := po.f1; omega))).1
    have h2 : fs.getD 0 0 * (L.getD 0 0 - 0) ≤ fs.getD 0 0 * s := Int.mul_le_mul_of_nonneg_left (by have := (hLb _ (mem_getD (l := L) (i := 0) (by have := po.f1; omega))).2; omega) (by omega)
    rw [Int.mul_comm s] at this
    omega
  have g0 : ∀ J, J < fs.length → 0 ≤ (gI fs L 0 0).getD J 0 := fun J hJ => (gI_bd (M := s) po.f hLu (Int.le_refl _) (fun l hl => (hLb l hl).2) _ (mem_getD (by omega))).1
  generalize (lessI b0 r0).1 = A at *
  generalize (lessI b0 r0).2 = B at *
  generalize hWd : maxI n0 ns0 = W at *
  have wab : WAB s fs L W A B := ⟨wl, w0, hbA.1, hbA.2.2.1, hAB, by omega, by omega, lJ⟩
  have hr : ROk s fs.length (.nested L) := ⟨⟨⟨hll, hLb⟩, by
    have : Up 0 L := hLu
    exact pair_ups (by
      have key : ∀ {l : List Int} {a : Int}, Up a l → l.Pairwise (· ≤ ·) := by
        intro l
        induction l with
        | nil => intro a _; exact List.Pairwise.nil
        | cons b l ih => intro a hu; exact List.pairwise_cons.mpr ⟨fun y hy => up_all hu.2 y hy, ih hu.2⟩
      exact key this)⟩, by simp only [Rl.words]; omega, by simp only [Rl.deep]; omega⟩
  obtain ⟨kn, gi, eE⟩ := ends_i (p := Bk.p) h hs4 (by omega) hr 3 g3
  have fact := fun x (hx : x ∈ kn) => facts81 h hll hLb hLu wab (gi.rc x hx)
  -- the pairs, plainly
  have ePs : kn.map (prE fs) = (kn.map fun x => (worthL fs x.1, worthL fs x.2)).map pp2 := by rw [List.map_map]; rfl
  rw [ePs] at eE
  generalize hPd : (kn.map fun x => (worthL fs x.1, worthL fs x.2)) = PS at *
  have pb : ∀ q ∈ PS, 0 ≤ q.1 ∧ q.1 ≤ 600 ∧ 0 ≤ q.2 ∧ q.2 ≤ 600 := fun q hq => by
    rw [← hPd] at hq
    obtain ⟨x, hx, rfl⟩ := List.mem_map.mp hq
    have f := fact x hx
    exact ⟨f.1.1, f.1.2, f.2.1.1, f.2.1.2⟩
  have plo : ∀ q ∈ PS, 0 < q.2 → A * q.2 ≤ q.1 * B := fun q hq h0 => by
    rw [← hPd] at hq
    obtain ⟨x, hx, rfl⟩ := List.mem_map.mp hq
    have f := (fact x hx).2.2.2
    simp only at h0 ⊢
    unfold ptA ptB at f
    rw [if_pos h0, if_pos h0] at f
    exact f
  have pat : ∀ K, K < fs.length → ((gI fs L 0 0).getD K 0, s * fs.getD K 0) ∈ PS := fun K hK => by
    obtain ⟨x, hx, q1, q2⟩ := full81 h hll hLb hLu hK
    rw [← hPd]
    exact List.mem_map.mpr ⟨x, gi.all hx, by rw [q1, q2]⟩
  have eSL := sl_i (p := Bk.p) 8 g3 pb wab.A0 wab.B1 hB6 hAB plo (by rw [kA2, kA3]; exact pat KA kA1)
  have eM : biD .max [.lst ((PS.map fun q => q.2 - q.1).map .int)] = some (.int W) := by
    refine max_l ?_ fun x hx => ?_
    · rw [kW2]
      exact List.mem_map.mpr ⟨_, pat KW kW1, rfl⟩
    · obtain ⟨q, hq, rfl⟩ := List.mem_map.mp hx
      rw [← hPd] at hq
      obtain ⟨y, hy, rfl⟩ := List.mem_map.mp hq
      exact (fact y hy).2.2.1
  rw [List.map_map] at eM
  have hW9 : W ≤ 1000 := by
    have hF := po.f _ (mem_getD kW1)
    have := g0 KW kW1
    have : s * fs.getD KW 0 ≤ 6 * 99 := Int.mul_le_mul hs6 hF.2 (by omega) (by decide)
    omega
  have szL : Sz 52 1 (ti L) := (Sz.tsm (l := L) fun x hx => by have := hLb x hx; omega).mono (by have := po.f4; omega) (by decide)
  have like1 : den Bk.p 10 17 [.lst [ti L, ti L, plD fs w ps], .lst [ti L, ti L, plD fs w ps]] g3 = .ok (.bl true) g3 := like_s lk17 9 (n := 5000) g3 ((Sz.lst (n := 400) (h := 2) (ds := [ti L, ti L, plD fs w ps]) fun x hx => by
      simp only [List.mem_cons, List.not_mem_nil, or_false] at hx
      rcases hx with rfl | rfl | rfl
      · exact szL.mono (by decide) (by decide)
      · exact szL.mono (by decide) (by decide)
      · exact pl_sz po).mono (by simp) (by decide)) (by decide)
  have szd : Sz 200 2 (.lst [.int W, fracD A.toNat B.toNat]) := (Sz.lst (n := 40) (h := 1) (ds := [.int W, fracD A.toNat B.toNat]) fun x hx => by
      simp only [List.mem_cons, List.not_mem_nil, or_false] at hx
      rcases hx with rfl | rfl
      · exact (Sz.small (by omega)).mono (by decide) (by decide)
      · exact frac_sz81 (by omega) (by omega)).mono (by simp) (by decide)
  have like2 : den Bk.p 10 17 [.lst [.lst [.int W, fracD A.toNat B.toNat], .lst [.int W, fracD A.toNat B.toNat]], .lst [.lst [.int W, fracD A.toNat B.toNat], .lst [.int W, fracD A.toNat B.toNat]]] g3 = .ok (.bl true) g3 := like_s lk17 9 (n := 5000) g3 ((Sz.lst (n := 200) (h := 2) (ds := [.lst [.int W, fracD A.toNat B.toNat], .lst [.int W, fracD A.toNat B.toNat]]) fun x hx => by
      simp only [List.mem_cons, List.not_mem_nil, or_false] at hx
      rcases hx with rfl | rfl
      · exact szd
      · exact szd).mono (by simp) (by decide)) (by decide)
  have i0 : idxD (plD fs w ps) (.int 0) = some (ti fs) := rfl
  have ehl : D.tup [.int s, ti fs] = hlD s fs := rfl
  have enst : D.tup [.str "nested", ti L] = (Rl.nested L).d := rfl
  generalize (Rl.nested L).d = RN at *
  generalize fracD A.toNat B.toNat = AB at *
  clear fact pat plo pb lJ wl g0 ll lm
  have lcm : ∀ t3 t4 t5 t6 t8 t9, evE Bk.p.cs (den Bk.p 10) (.lc (.bin .sub (.var 11) (.var 10)) (.tup [(.var 10), (.var 11)]) (.seq (.var 7)) none) [s0, .val .m, s2, t3, t4, t5, t6, .val (.lst (PS.map pp2)), t8, t9, s10, s11] g3 = .ok (.lst (PS.map (D.int ∘ fun q => q.2 - q.1))) g3 := by
    intro t3 t4 t5 t6 t8 t9
    refine lc_map (l := PS) (enc := pp2) (h := D.int ∘ fun q => q.2 - q.1) (by simp) fun q hq g => ?_
    simp [pp2, wipeG, T.vars, varsT]
  refine ⟨.val (plD fs w ps), .val (.lst [.int W, AB]), .val (.lst [.int W, AB]), .val (.int s), .val (.lst (PS.map pp2)), .val (ti L), .val (hlD s fs), g3, ?_, by omega⟩
  have eT : b_turn = (.cons (.asg (.var 3) (.call 0 (.cons (.var 1) (.cons (.cst (.int 3)) (.cons (.call 9 (.cons (.var 1) (.cons (.lst (.cons (.cst (.int 3)) (.cons (.cst (.int 7)) (.cons (.cst (.int 12)) .nil)))) .nil))) .nil))))) (.cons (.asg (.var 6) (.bin .add (.cst (.int 1)) (.draw (.var 1) (.cst (.int 4))))) (match b_turn with | .cons _ (.cons _ b) => b | _ => .nil))) := rfl
  rw [eT]
  refine step_nx (Γ1 := [s0, .val .m, s2, .val (plD fs w ps), s4, s5, s6, s7, s8, s9, s10, s11]) (g1 := g2) (by simp [e1, e2]) ?_
  refine step_nx (Γ1 := [s0, .val .m, s2, .val (plD fs w ps), s4, s5, .val (.int s), s7, s8, s9, s10, s11]) (g1 := g3) (by simp [-x_draw, x_drw, e3, hsd]) ?_
  generalize plD fs w ps = PL at *
  generalize hlD s fs = HL at *
  generalize ti L = TL at *
  show evB Bk.p.cs (den Bk.p 10) (match b_turn with | .cons _ (.cons _ b) => b | _ => .nil) _ g3 = _
  simp [b_turn, b_law, eLL, i0, ehl, eL, eN, like1, enst, eE, lcm, eM, eSL, eR, eS, like2, parG]
theorem end81 (s0 s1 t2 t3 t4 t5 t6 t7 t8 t9 t10 t11 : Slot) (g : G) : evB Bk.p.cs (den Bk.p 10) b_end [s0, s1, t2, t3, t4, t5, t6, t7, t8, t9, t10, t11] g = .ok (.rt (.bl true)) g := by
  kernel_rfl
theorem law_ok (ns : List Int) (g : G) (hl : ns.length ≤ 63) (hs : g.spot = 0) : ∃ g', evB Bk.p.cs (den Bk.p 10) b_law (.val (.scr ns) :: .val .m :: List.replicate 10 .no) g = .ok (.rt (.bl true)) g' := by
  have bm : biD .min2 [.int 5, .int (ns.length : Int)] = some (.int (if (ns.length : Int) < 5 then (ns.length : Int) else 5)) := rfl
  have hr : (-1000000 : Int) ≤ 3 + (if (ns.length : Int) < 5 then (ns.length : Int) else 5) ∧ 3 + (if (ns.length : Int) < 5 then (ns.length : Int) else 5) ≤ 1000000 := by split <;> omega
  generalize hM : 3 + (if (ns.length : Int) < 5 then (ns.length : Int) else 5) = M at *
  have hM2 : M ≤ 10 := by rw [← hM]; split <;> omega
  obtain ⟨Γ', g1, e1, ⟨t2, t3, t4, t5, t6, t7, t8, t9, t10, t11, eΓ⟩, _⟩ := turns_g (f := fun x Γ g => (lift (setT (.var 2) x Γ) g).bind fun Γ' g => evB Bk.p.cs (den Bk.p 10) b_turn Γ' g) (P := fun Γ => ∃ s2 s3 s4 s5 s6 s7 s8 s9 s10 s11, Γ = [.val (.scr ns), .val .m, s2, s3, s4, s5, s6, s7, s8, s9, s10, s11]) (c := 100) (by decide) (fun x Γ g hP hg => by
    obtain ⟨s2, s3, s4, s5, s6, s7, s8, s9, s10, s11, rfl⟩ := hP
    obtain ⟨t3, t4, t5, t6, t7, t8, t9, g', e, hg'⟩ := turn81 (.val (.scr ns)) (.val x) s3 s4 s5 s6 s7 s8 s9 s10 s11 g hg
    exact ⟨_, g', e, ⟨_, _, _, _, _, _, _, _, _, _, rfl⟩, hg'⟩) (rngD 0 M.toNat) (.val (.scr ns) :: .val .m :: List.replicate 10 .no) g ⟨_, _, _, _, _, _, _, _, _, _, rfl⟩ (by rw [rngD_len]; omega)
  subst eΓ
  refine ⟨g1, ?_⟩
  have eL : b_law = .cons (.for_ (.var 2) (.rng1 (.bin .add (.cst (.int 3)) (.bi .min2 (.cons (.cst (.int 5)) (.cons (.bi .len (.cons (.var 0) .nil)) .nil))))) b_turn) b_end := rfl
  rw [eL]
  have hi := rng1_i (cs := Bk.p.cs) (call := den Bk.p 10) (Γ := .val (.scr ns) :: .val .m :: List.replicate 10 .no) (g := g) (a := .bin .add (.cst (.int 3)) (.bi .min2 (.cons (.cst (.int 5)) (.cons (.bi .len (.cons (.var 0) .nil)) .nil)))) (i := M) (by simp [bm, hM]) hr
  exact step_nx (by rw [s_for', hi, r_ok]; exact e1) (end81 ..)
end Pk

set_option Elab.async false
set_option linter.all false
set_option maxRecDepth 100000
set_option maxHeartbeats 0
namespace Bk
open PySem PySem.Spec PyProof.Rows L2 Row
abbrev DEPTH : Nat := 10
abbrev STEPS : Nat := 4000
/-! ### held against the text -/
def pn : PrN := ⟨[(0, ("MOST_OF" : Str)), (1, ("MOST_ROOM" : Str)), (2, ("MOST_FARES" : Str)), (3, ("MOST_FARE" : Str))], [(17, ("_law_like" : Str)), (0, ("_law_plan" : Str)), (93, ("_law_ends" : Str)), (14, ("limits_of" : Str)), (5, ("regret_of" : Str)), (10, ("share_of" : Str)), (9, ("_law_of" : Str)), (36, ("_law_limits" : Str)), (6, ("need_plan" : Str)), (95, ("_law_share_least" : Str)), (1, ("_law_fares" : Str)), (82, ("_law_worth" : Str)), (80, ("_law_deal" : Str)), (94, ("_law_seen_with" : Str)), (7, ("need_room" : Str)), (12, ("limits_in" : Str)), (8, ("regrets_at" : Str)), (11, ("gains_by" : Str)), (13, ("lesser_share" : Str)), (20, ("need_fares" : Str)), (21, ("is_whole" : Str)), (22, ("are_rising" : Str)), (27, ("_law_least" : Str)), (84, ("_law_lets" : Str)), (85, ("_law_more" : Str)), (23, ("fraction" : Str)), (24, ("are_fares" : Str)), (4, ("common" : Str))]⟩
theorem sc__law_like : FnScope n__law_like ["_law_answer", "_law_due"] (defScope (top 31)) := C8.fnScope_by (by decide +kernel)
theorem ck__law_like : chkB 200 pn ⟨n__law_like, defScope (top 31), fun _ => true⟩ (defBody (top 31)) b__law_like = true := by decide +kernel
theorem sc__law_plan : FnScope n__law_plan ["_law_m", "_law_fares_here", "_law_most"] (defScope (top 40)) := C8.fnScope_by (by decide +kernel)
theorem ck__law_plan : chkB 200 pn ⟨n__law_plan, defScope (top 40), fun _ => true⟩ (defBody (top 40)) b__law_plan = true := by decide +kernel
theorem sc__law_ends : FnScope n__law_ends ["_law_hall_so", "_law_some"] (defScope (top 42)) := C8.fnScope_by (by decide +kernel)
theorem ck__law_ends : chkB 200 pn ⟨n__law_ends, defScope (top 42), fun _ => true⟩ (defBody (top 42)) b__law_ends = true := by decide +kernel
theorem sc_limits_of : FnScope n_limits_of ["plan", "seats"] (defScope (top 20)) := C8.fnScope_by (by decide +kernel)
theorem ck_limits_of : chkB 200 pn ⟨n_limits_of, defScope (top 20), fun _ => true⟩ (defBody (top 20)) b_limits_of = true := by decide +kernel
theorem sc_regret_of : FnScope n_regret_of ["plan", "seats"] (defScope (top 23)) := C8.fnScope_by (by decide +kernel)
theorem ck_regret_of : chkB 200 pn ⟨n_regret_of, defScope (top 23), fun _ => true⟩ (defBody (top 23)) b_regret_of = true := by decide +kernel
theorem sc_share_of : FnScope n_share_of ["plan", "seats"] (defScope (top 25)) := C8.fnScope_by (by decide +kernel)
theorem ck_share_of : chkB 200 pn ⟨n_share_of, defScope (top 25), fun _ => true⟩ (defBody (top 25)) b_share_of = true := by decide +kernel
theorem sc__law_of : FnScope n__law_of ["_law_m", "_law_some"] (defScope (top 32)) := C8.fnScope_by (by decide +kernel)
theorem ck__law_of : chkB 200 pn ⟨n__law_of, defScope (top 32), fun _ => true⟩ (defBody (top 32)) b__law_of = true := by decide +kernel
theorem sc__law_limits : FnScope n__law_limits ["_law_plan_so", "_law_many"] (defScope (top 39)) := C8.fnScope_by (by decide +kernel)
theorem ck__law_limits : chkB 200 pn ⟨n__law_limits, defScope (top 39), fun _ => true⟩ (defBody (top 39)) b__law_limits = true := by decide +kernel
theorem sc_need_plan : FnScope n_need_plan ["plan"] (defScope (top 17)) := C8.fnScope_by (by decide +kernel)
theorem ck_need_plan : chkB 200 pn ⟨n_need_plan, defScope (top 17), fun _ => true⟩ (defBody (top 17)) b_need_plan = true := by decide +kernel
theorem sc__law_share_least : FnScope n__law_share_least ["_law_pairs"] (defScope (top 43)) := C8.fnScope_by (by decide +kernel)
theorem ck__law_share_least : chkB 200 pn ⟨n__law_share_least, defScope (top 43), fun _ => true⟩ (defBody (top 43)) b__law_share_least = true := by decide +kernel
theorem sc__law_fares : FnScope n__law_fares ["_law_m", "_law_most"] (defScope (top 33)) := C8.fnScope_by (by decide +kernel)
theorem ck__law_fares : chkB 200 pn ⟨n__law_fares, defScope (top 33), fun _ => true⟩ (defBody (top 33)) b__law_fares = true := by decide +kernel
theorem sc__law_worth : FnScope n__law_worth ["_law_hall_so", "_law_counts"] (defScope (top 37)) := C8.fnScope_by (by decide +kernel)
theorem ck__law_worth : chkB 200 pn ⟨n__law_worth, defScope (top 37), fun _ => true⟩ (defBody (top 37)) b__law_worth = true := by decide +kernel
theorem sc__law_deal : FnScope n__law_deal ["_law_hall_so", "_law_some", "_law_sold_so", "_law_paid_so", "_law_k"] (defScope (top 36)) := C8.fnScope_by (by decide +kernel)
theorem ck__law_deal : chkB 200 pn ⟨n__law_deal, defScope (top 36), fun _ => true⟩ (defBody (top 36)) b__law_deal = true := by decide +kernel
theorem sc__law_seen_with : FnScope n__law_seen_with ["_law_hall_so", "_law_counts", "_law_k"] (defScope (top 41)) := C8.fnScope_by (by decide +kernel)
theorem ck__law_seen_with : chkB 200 pn ⟨n__law_seen_with, defScope (top 41), fun _ => true⟩ (defBody (top 41)) b__law_seen_with = true := by decide +kernel
theorem sc_need_room : FnScope n_need_room ["seats"] (defScope (top 18)) := C8.fnScope_by (by decide +kernel)
theorem ck_need_room : chkB 200 pn ⟨n_need_room, defScope (top 18), fun _ => true⟩ (defBody (top 18)) b_need_room = true := by decide +kernel
theorem sc_limits_in : FnScope n_limits_in ["plan", "seats"] (defScope (top 19)) := C8.fnScope_by (by decide +kernel)
theorem ck_limits_in : chkB 200 pn ⟨n_limits_in, defScope (top 19), fun _ => true⟩ (defBody (top 19)) b_limits_in = true := by decide +kernel
theorem sc_regrets_at : FnScope n_regrets_at ["plan", "seats"] (defScope (top 22)) := C8.fnScope_by (by decide +kernel)
theorem ck_regrets_at : chkB 200 pn ⟨n_regrets_at, defScope (top 22), fun _ => true⟩ (defBody (top 22)) b_regrets_at = true := by decide +kernel
theorem sc_gains_by : FnScope n_gains_by ["fares", "limits"] (defScope (top 21)) := C8.fnScope_by (by decide +kernel)
theorem ck_gains_by : chkB 200 pn ⟨n_gains_by, defScope (top 21), fun _ => true⟩ (defBody (top 21)) b_gains_by = true := by decide +kernel
theorem sc_lesser_share : FnScope n_lesser_share ["pairs"] (defScope (top 24)) := C8.fnScope_by (by decide +kernel)
theorem ck_lesser_share : chkB 200 pn ⟨n_lesser_share, defScope (top 24), fun _ => true⟩ (defBody (top 24)) b_lesser_share = true := by decide +kernel
theorem sc_need_fares : FnScope n_need_fares ["fares"] (defScope (top 16)) := C8.fnScope_by (by decide +kernel)
theorem ck_need_fares : chkB 200 pn ⟨n_need_fares, defScope (top 16), fun _ => true⟩ (defBody (top 16)) b_need_fares = true := by decide +kernel
theorem sc_is_whole : FnScope n_is_whole ["value", "least", "most"] (defScope (top 7)) := C8.fnScope_by (by decide +kernel)
theorem ck_is_whole : chkB 200 pn ⟨n_is_whole, defScope (top 7), fun _ => true⟩ (defBody (top 7)) b_is_whole = true := by decide +kernel
theorem sc_are_rising : FnScope n_are_rising ["value"] (defScope (top 15)) := C8.fnScope_by (by decide +kernel)
theorem ck_are_rising : chkB 200 pn ⟨n_are_rising, defScope (top 15), fun _ => true⟩ (defBody (top 15)) b_are_rising = true := by decide +kernel
theorem sc__law_least : FnScope n__law_least ["_law_part", "_law_of_here"] (defScope (top 38)) := C8.fnScope_by (by decide +kernel)
theorem ck__law_least : chkB 200 pn ⟨n__law_least, defScope (top 38), fun _ => true⟩ (defBody (top 38)) b__law_least = true := by decide +kernel
theorem sc__law_lets_84 : FnScope n__law_lets_84 ["_law_seats_so", "_law_some", "_law_sold_so", "_law_k"] (defScope (top 34)) := C8.fnScope_by (by decide +kernel)
theorem ck__law_lets_84 : chkB 200 pn ⟨n__law_lets_84, defScope (top 34), fun _ => true⟩ (defBody (top 34)) b__law_lets_84 = true := by decide +kernel
theorem sc__law_more : FnScope n__law_more ["_law_counts", "_law_k", "_law_more_here"] (defScope (top 35)) := C8.fnScope_by (by decide +kernel)
theorem ck__law_more : chkB 200 pn ⟨n__law_more, defScope (top 35), fun _ => true⟩ (defBody (top 35)) b__law_more = true := by decide +kernel
theorem sc_fraction : FnScope n_fraction ["one", "other"] (defScope (top 10)) := C8.fnScope_by (by decide +kernel)
theorem ck_fraction : chkB 200 pn ⟨n_fraction, defScope (top 10), fun _ => true⟩ (defBody (top 10)) b_fraction = true := by decide +kernel
theorem sc_are_fares : FnScope n_are_fares ["value"] (defScope (top 14)) := C8.fnScope_by (by decide +kernel)
theorem ck_are_fares : chkB 200 pn ⟨n_are_fares, defScope (top 14), fun _ => true⟩ (defBody (top 14)) b_are_fares = true := by decide +kernel
theorem sc_common : FnScope n_common ["one", "other"] (defScope (top 9)) := C8.fnScope_by (by decide +kernel)
theorem ck_common : chkB 200 pn ⟨n_common, defScope (top 9), fun _ => true⟩ (defBody (top 9)) b_common = true := by decide +kernel
theorem sc_law : FnScope n_law ["_law_script"] (defScope sLaw) := C8.fnScope_by (by decide +kernel)
theorem ck_law : chkB 200 pn ⟨n_law, defScope sLaw, fun _ => true⟩ (defBody sLaw).tail b_law = true := by decide +kernel
/-! ### the head -/
def d__law_mixed : He.DefD := ⟨("_law_mixed", none), "_law_mixed", "_law_mixed", defArgs (top 27), defBody (top 27), defScope (top 27), [], []⟩
def d__law_folded : He.DefD := ⟨("_law_folded", none), "_law_folded", "_law_folded", defArgs (top 28), defBody (top 28), defScope (top 28), [], []⟩
def d__law_draw : He.DefD := ⟨("_law_draw", none), "_law_draw", "_law_draw", defArgs (top 29), defBody (top 29), defScope (top 29), [], []⟩
def d__law_begun : He.DefD := ⟨("_law_begun", none), "_law_begun", "_law_begun", defArgs (top 30), defBody (top 30), defScope (top 30), [], []⟩
def d_law : He.DefD := ⟨("law", none), "law", "law", defArgs (top 44), defBody (top 44), defScope (top 44), [], []⟩
def d__law_like : He.DefD := ⟨("_law_like", none), "_law_like", "_law_like", defArgs (top 31), defBody (top 31), defScope (top 31), [], []⟩
def d__law_plan : He.DefD := ⟨("_law_plan", none), "_law_plan", "_law_plan", defArgs (top 40), defBody (top 40), defScope (top 40), [], []⟩
def d__law_ends : He.DefD := ⟨("_law_ends", none), "_law_ends", "_law_ends", defArgs (top 42), defBody (top 42), defScope (top 42), [], []⟩
def d_limits_of : He.DefD := ⟨("limits_of", none), "limits_of", "limits_of", defArgs (top 20), defBody (top 20), defScope (top 20), [], []⟩
def d_regret_of : He.DefD := ⟨("regret_of", none), "regret_of", "regret_of", defArgs (top 23), defBody (top 23), defScope (top 23), [], []⟩
def d_share_of : He.DefD := ⟨("share_of", none), "share_of", "share_of", defArgs (top 25), defBody (top 25), defScope (top 25), [], []⟩
def d__law_of : He.DefD := ⟨("_law_of", none), "_law_of", "_law_of", defArgs (top 32), defBody (top 32), defScope (top 32), [], []⟩
def d__law_limits : He.DefD := ⟨("_law_limits", none), "_law_limits", "_law_limits", defArgs (top 39), defBody (top 39), defScope (top 39), [], []⟩
def d_need_plan : He.DefD := ⟨("need_plan", none), "need_plan", "need_plan", defArgs (top 17), defBody (top 17), defScope (top 17), [], []⟩
def d__law_share_least : He.DefD := ⟨("_law_share_least", none), "_law_share_least", "_law_share_least", defArgs (top 43), defBody (top 43), defScope (top 43), [], []⟩
def d__law_fares : He.DefD := ⟨("_law_fares", none), "_law_fares", "_law_fares", defArgs (top 33), defBody (top 33), defScope (top 33), [], []⟩
def d__law_worth : He.DefD := ⟨("_law_worth", none), "_law_worth", "_law_worth", defArgs (top 37), defBody (top 37), defScope (top 37), [], []⟩
def d__law_deal : He.DefD := ⟨("_law_deal", none), "_law_deal", "_law_deal", defArgs (top 36), defBody (top 36), defScope (top 36), [], []⟩
def d__law_seen_with : He.DefD := ⟨("_law_seen_with", none), "_law_seen_with", "_law_seen_with", defArgs (top 41), defBody (top 41), defScope (top 41), [], []⟩
def d_need_room : He.DefD := ⟨("need_room", none), "need_room", "need_room", defArgs (top 18), defBody (top 18), defScope (top 18), [], []⟩
def d_limits_in : He.DefD := ⟨("limits_in", none), "limits_in", "limits_in", defArgs (top 19), defBody (top 19), defScope (top 19), [], []⟩
def d_regrets_at : He.DefD := ⟨("regrets_at", none), "regrets_at", "regrets_at", defArgs (top 22), defBody (top 22), defScope (top 22), [], []⟩
def d_gains_by : He.DefD := ⟨("gains_by", none), "gains_by", "gains_by", defArgs (top 21), defBody (top 21), defScope (top 21), [], []⟩
def d_lesser_share : He.DefD := ⟨("lesser_share", none), "lesser_share", "lesser_share", defArgs (top 24), defBody (top 24), defScope (top 24), [], []⟩
def d_need_fares : He.DefD := ⟨("need_fares", none), "need_fares", "need_fares", defArgs (top 16), defBody (top 16), defScope (top 16), [], []⟩
def d_is_whole : He.DefD := ⟨("is_whole", none), "is_whole", "is_whole", defArgs (top 7), defBody (top 7), defScope (top 7), [], []⟩
def d_are_rising : He.DefD := ⟨("are_rising", none), "are_rising", "are_rising", defArgs (top 15), defBody (top 15), defScope (top 15), [], []⟩
def d__law_least : He.DefD := ⟨("_law_least", none), "_law_least", "_law_least", defArgs (top 38), defBody (top 38), defScope (top 38), [], []⟩
def d__law_lets_84 : He.DefD := ⟨("_law_lets", none), "_law_lets", "_law_lets", defArgs (top 34), defBody (top 34), defScope (top 34), [], []⟩
def d__law_more : He.DefD := ⟨("_law_more", none), "_law_more", "_law_more", defArgs (top 35), defBody (top 35), defScope (top 35), [], []⟩
def d_fraction : He.DefD := ⟨("fraction", none), "fraction", "fraction", defArgs (top 10), defBody (top 10), defScope (top 10), [], []⟩
def d_are_fares : He.DefD := ⟨("are_fares", none), "are_fares", "are_fares", defArgs (top 14), defBody (top 14), defScope (top 14), [], []⟩
def d_common : He.DefD := ⟨("common", none), "common", "common", defArgs (top 9), defBody (top 9), defScope (top 9), [], []⟩
def fn : List He.DefD := [d__law_mixed, d__law_folded, d__law_draw, d__law_begun, d_law, d__law_like, d__law_plan, d__law_ends, d_limits_of, d_regret_of, d_share_of, d__law_of, d__law_limits, d_need_plan, d__law_share_least, d__law_fares, d__law_worth, d__law_deal, d__law_seen_with, d_need_room, d_limits_in, d_regrets_at, d_gains_by, d_lesser_share, d_need_fares, d_is_whole, d_are_rising, d__law_least, d__law_lets_84, d__law_more, d_fraction, d_are_fares, d_common]
def fa : List He.Fa := [.glo "_law_mixed", .glo "_law_folded", .glo "_law_draw", .glo "_law_begun", .glo "law", .glo "_law_like", .glo "_law_plan", .glo "_law_ends", .glo "limits_of", .glo "regret_of", .glo "share_of", .glo "_law_of", .glo "_law_limits", .glo "need_plan", .glo "_law_share_least", .glo "_law_fares", .glo "_law_worth", .glo "_law_deal", .glo "_law_seen_with", .glo "need_room", .glo "limits_in", .glo "regrets_at", .glo "gains_by", .glo "lesser_share", .glo "need_fares", .glo "is_whole", .glo "are_rising", .glo "_law_least", .glo "_law_lets", .glo "_law_more", .glo "fraction", .glo "are_fares", .glo "common", .int "MOST_OF" 1000000000, .int "MOST_ROOM" 1000000000000000000000000000000, .int "MOST_FARES" 4, .int "MOST_FARE" 99, .free "len", .free "all", .free "any", .free "sum", .free "min", .free "max", .free "sorted", .free "tuple", .free "list", .free "int", .free "repr", .free "isinstance", .free "range", .free "zip", .free "enumerate", .free "bool", .free "str"]
abbrev RR : PySem.W.OpenRow := PySem.W.OpenLaw.row PySem.Challenge.rw_booklimits_k81_whole_plans
abbrev hk : PySem.W.Hook := He.hookD 4 fa fn
def ob (s : PySem.W.SharedT) : He.AlD := He.obsDG 4 fa fn (HandSHeadRun.getT s)
theorem ob_eq (s : PySem.W.SharedT) : ob s = hk.obs s.abs := He.obsDG_eq (HandSHeadRun.getT_eq s)
def loose : List Str := (["CallError", "BadNumber", "BadPlan", "MOST_FARES", "MOST_FARE", "is_whole", "common", "fraction", "MOST_ROOM", "MOST_OF", "are_fares", "are_rising", "need_fares", "need_plan", "need_room", "limits_in", "limits_of", "gains_by", "regrets_at", "regret_of", "lesser_share", "share_of", "_law_mixed", "_law_folded", "_law_draw", "_law_begun", "_law_like", "_law_of", "_law_fares", "_law_lets"] : List Str) ++ (["_law_more", "_law_deal", "_law_worth", "_law_least", "_law_limits", "_law_plan", "_law_seen_with", "_law_ends", "_law_share_least"] : List Str)
theorem run (w : World) : HandSHeadRun.RunEq RR (PySem.W.view RR.prog [44]) hk ob STEPS loose w := by
  intro os
  kernel_rfl
section
variable {P : Program} {w : World} {K : PySem.W.Frag} {h : Heap} {mg : Str → Option Value} {base : Heap}
theorem lookup_mem {α : Type} {l : List (Nat × α)} {i : Nat} {x : α} (h : l.lookup i = some x) : (i, x) ∈ l := by
  induction l with
  | nil => cases h
  | cons a l ih =>
    obtain ⟨j, y⟩ := a
    rw [List.lookup_cons] at h
    by_cases e : i == j
    · rw [e] at h; cases h; rw [eq_of_beq e]; exact List.mem_cons_self
    · simp only [Bool.not_eq_true] at e; rw [e] at h; exact List.mem_cons_of_mem _ (ih h)
theorem world (X : K.In h) (G : h.Ns mainGlobals mg) (c : He.SaysD fa fn K) : World0 P w K mg base pn p where
  cs := fun i d x h1 h2 => by
    have hm := lookup_mem h2
    simp only [pn, List.mem_cons, List.not_mem_nil, or_false, Prod.mk.injEq] at hm
    rcases hm with ⟨rfl, rfl⟩ | ⟨rfl, rfl⟩ | ⟨rfl, rfl⟩ | ⟨rfl, rfl⟩
    · obtain ⟨t, e⟩ := He.int_ok X G (c.fact 33 (f := .int "MOST_OF" 1000000000) rfl)
      have h1 : some (D.int 1000000000) = some d := h1
      cases h1
      exact ⟨_, .int 1000000000, by decide +kernel, e, ⟨t, rfl⟩, fun _ _ => rfl⟩
    · obtain ⟨t, e⟩ := He.int_ok X G (c.fact 34 (f := .int "MOST_ROOM" 1000000000000000000000000000000) rfl)
      have h1 : some (D.int 1000000000000000000000000000000) = some d := h1
      cases h1
      exact ⟨_, .int 1000000000000000000000000000000, by decide +kernel, e, ⟨t, rfl⟩, fun _ _ => rfl⟩
    · obtain ⟨t, e⟩ := He.int_ok X G (c.fact 35 (f := .int "MOST_FARES" 4) rfl)
      have h1 : some (D.int 4) = some d := h1
      cases h1
      exact ⟨_, .int 4, by decide +kernel, e, ⟨t, rfl⟩, fun _ _ => rfl⟩
    · obtain ⟨t, e⟩ := He.int_ok X G (c.fact 36 (f := .int "MOST_FARE" 99) rfl)
      have h1 : some (D.int 99) = some d := h1
      cases h1
      exact ⟨_, .int 99, by decide +kernel, e, ⟨t, rfl⟩, fun _ _ => rfl⟩
  ds := fun f x h1 => by
    have hm := lookup_mem h1
    simp only [pn, List.mem_cons, List.not_mem_nil, or_false, Prod.mk.injEq] at hm
    rcases hm with ⟨rfl, rfl⟩ | ⟨rfl, rfl⟩ | ⟨rfl, rfl⟩ | ⟨rfl, rfl⟩ | ⟨rfl, rfl⟩ | ⟨rfl, rfl⟩ | ⟨rfl, rfl⟩ | ⟨rfl, rfl⟩ | ⟨rfl, rfl⟩ | ⟨rfl, rfl⟩ | ⟨rfl, rfl⟩ | ⟨rfl, rfl⟩ | ⟨rfl, rfl⟩ | ⟨rfl, rfl⟩ | ⟨rfl, rfl⟩ | ⟨rfl, rfl⟩ | ⟨rfl, rfl⟩ | ⟨rfl, rfl⟩ | ⟨rfl, rfl⟩ | ⟨rfl, rfl⟩ | ⟨rfl, rfl⟩ | ⟨rfl, rfl⟩ | ⟨rfl, rfl⟩ | ⟨rfl, rfl⟩ | ⟨rfl, rfl⟩ | ⟨rfl, rfl⟩ | ⟨rfl, rfl⟩ | ⟨rfl, rfl⟩
    · obtain ⟨fd, F⟩ := c.def_ 5 (d := d__law_like) rfl
      exact ⟨_, _, fd, ["_law_answer", "_law_due"], rfl, ⟨_, _, _, n__law_like, 200, F, sc__law_like, by decide +kernel, ck__law_like, rfl, rfl⟩, by decide +kernel, He.glo_ok X G (c.fact 5 (f := .glo "_law_like") rfl), FunD.bindsN F fun _ _ _ _ _ _ us hl => match us, hl with | [_, _], _ => rfl⟩
    · obtain ⟨fd, F⟩ := c.def_ 6 (d := d__law_plan) rfl
      exact ⟨_, _, fd, ["_law_m", "_law_fares_here", "_law_most"], rfl, ⟨_, _, _, n__law_plan, 200, F, sc__law_plan, by decide +kernel, ck__law_plan, rfl, rfl⟩, by decide +kernel, He.glo_ok X G (c.fact 6 (f := .glo "_law_plan") rfl), FunD.bindsN F fun _ _ _ _ _ _ us hl => match us, hl with | [_, _, _], _ => rfl⟩
    · obtain ⟨fd, F⟩ := c.def_ 7 (d := d__law_ends) rfl
      exact ⟨_, _, fd, ["_law_hall_so", "_law_some"], rfl, ⟨_, _, _, n__law_ends, 200, F, sc__law_ends, by decide +kernel, ck__law_ends, rfl, rfl⟩, by decide +kernel, He.glo_ok X G (c.fact 7 (f := .glo "_law_ends") rfl), FunD.bindsN F fun _ _ _ _ _ _ us hl => match us, hl with | [_, _], _ => rfl⟩
    · obtain ⟨fd, F⟩ := c.def_ 8 (d := d_limits_of) rfl
      exact ⟨_, _, fd, ["plan", "seats"], rfl, ⟨_, _, _, n_limits_of, 200, F, sc_limits_of, by decide +kernel, ck_limits_of, rfl, rfl⟩, by decide +kernel, He.glo_ok X G (c.fact 8 (f := .glo "limits_of") rfl), FunD.bindsN F fun _ _ _ _ _ _ us hl => match us, hl with | [_, _], _ => rfl⟩
    · obtain ⟨fd, F⟩ := c.def_ 9 (d := d_regret_of) rfl
      exact ⟨_, _, fd, ["plan", "seats"], rfl, ⟨_, _, _, n_regret_of, 200, F, sc_regret_of, by decide +kernel, ck_regret_of, rfl, rfl⟩, by decide +kernel, He.glo_ok X G (c.fact 9 (f := .glo "regret_of") rfl), FunD.bindsN F fun _ _ _ _ _ _ us hl => match us, hl with | [_, _], _ => rfl⟩
    · obtain ⟨fd, F⟩ := c.def_ 10 (d := d_share_of) rfl
      exact ⟨_, _, fd, ["plan", "seats"], rfl, ⟨_, _, _, n_share_of, 200, F, sc_share_of, by decide +kernel, ck_share_of, rfl, rfl⟩, by decide +kernel, He.glo_ok X G (c.fact 10 (f := .glo "share_of") rfl), FunD.bindsN F fun _ _ _ _ _ _ us hl => match us, hl with | [_, _], _ => rfl⟩
    · obtain ⟨fd, F⟩ := c.def_ 11 (d := d__law_of) rfl
      exact ⟨_, _, fd, ["_law_m", "_law_some"], rfl, ⟨_, _, _, n__law_of, 200, F, sc__law_of, by decide +kernel, ck__law_of, rfl, rfl⟩, by decide +kernel, He.glo_ok X G (c.fact 11 (f := .glo "_law_of") rfl), FunD.bindsN F fun _ _ _ _ _ _ us hl => match us, hl with | [_, _], _ => rfl⟩
    · obtain ⟨fd, F⟩ := c.def_ 12 (d := d__law_limits) rfl
      exact ⟨_, _, fd, ["_law_plan_so", "_law_many"], rfl, ⟨_, _, _, n__law_limits, 200, F, sc__law_limits, by decide +kernel, ck__law_limits, rfl, rfl⟩, by decide +kernel, He.glo_ok X G (c.fact 12 (f := .glo "_law_limits") rfl), FunD.bindsN F fun _ _ _ _ _ _ us hl => match us, hl with | [_, _], _ => rfl⟩
    · obtain ⟨fd, F⟩ := c.def_ 13 (d := d_need_plan) rfl
      exact ⟨_, _, fd, ["plan"], rfl, ⟨_, _, _, n_need_plan, 200, F, sc_need_plan, by decide +kernel, ck_need_plan, rfl, rfl⟩, by decide +kernel, He.glo_ok X G (c.fact 13 (f := .glo "need_plan") rfl), FunD.bindsN F fun _ _ _ _ _ _ us hl => match us, hl with | [_], _ => rfl⟩
    · obtain ⟨fd, F⟩ := c.def_ 14 (d := d__law_share_least) rfl
      exact ⟨_, _, fd, ["_law_pairs"], rfl, ⟨_, _, _, n__law_share_least, 200, F, sc__law_share_least, by decide +kernel, ck__law_share_least, rfl, rfl⟩, by decide +kernel, He.glo_ok X G (c.fact 14 (f := .glo "_law_share_least") rfl), FunD.bindsN F fun _ _ _ _ _ _ us hl => match us, hl with | [_], _ => rfl⟩
    · obtain ⟨fd, F⟩ := c.def_ 15 (d := d__law_fares) rfl
      exact ⟨_, _, fd, ["_law_m", "_law_most"], rfl, ⟨_, _, _, n__law_fares, 200, F, sc__law_fares, by decide +kernel, ck__law_fares, rfl, rfl⟩, by decide +kernel, He.glo_ok X G (c.fact 15 (f := .glo "_law_fares") rfl), FunD.bindsN F fun _ _ _ _ _ _ us hl => match us, hl with | [_, _], _ => rfl⟩
    · obtain ⟨fd, F⟩ := c.def_ 16 (d := d__law_worth) rfl
      exact ⟨_, _, fd, ["_law_hall_so", "_law_counts"], rfl, ⟨_, _, _, n__law_worth, 200, F, sc__law_worth, by decide +kernel, ck__law_worth, rfl, rfl⟩, by decide +kernel, He.glo_ok X G (c.fact 16 (f := .glo "_law_worth") rfl), FunD.bindsN F fun _ _ _ _ _ _ us hl => match us, hl with | [_, _], _ => rfl⟩
    · obtain ⟨fd, F⟩ := c.def_ 17 (d := d__law_deal) rfl
      exact ⟨_, _, fd, ["_law_hall_so", "_law_some", "_law_sold_so", "_law_paid_so", "_law_k"], rfl, ⟨_, _, _, n__law_deal, 200, F, sc__law_deal, by decide +kernel, ck__law_deal, rfl, rfl⟩, by decide +kernel, He.glo_ok X G (c.fact 17 (f := .glo "_law_deal") rfl), FunD.bindsN F fun _ _ _ _ _ _ us hl => match us, hl with | [_, _, _, _, _], _ => rfl⟩
    · obtain ⟨fd, F⟩ := c.def_ 18 (d := d__law_seen_with) rfl
      exact ⟨_, _, fd, ["_law_hall_so", "_law_counts", "_law_k"], rfl, ⟨_, _, _, n__law_seen_with, 200, F, sc__law_seen_with, by decide +kernel, ck__law_seen_with, rfl, rfl⟩, by decide +kernel, He.glo_ok X G (c.fact 18 (f := .glo "_law_seen_with") rfl), FunD.bindsN F fun _ _ _ _ _ _ us hl => match us, hl with | [_, _, _], _ => rfl⟩
    · obtain ⟨fd, F⟩ := c.def_ 19 (d := d_need_room) rfl
      exact ⟨_, _, fd, ["seats"], rfl, ⟨_, _, _, n_need_room, 200, F, sc_need_room, by decide +kernel, ck_need_room, rfl, rfl⟩, by decide +kernel, He.glo_ok X G (c.fact 19 (f := .glo "need_room") rfl), FunD.bindsN F fun _ _ _ _ _ _ us hl => match us, hl with | [_], _ => rfl⟩
    · obtain ⟨fd, F⟩ := c.def_ 20 (d := d_limits_in) rfl
      exact ⟨_, _, fd, ["plan", "seats"], rfl, ⟨_, _, _, n_limits_in, 200, F, sc_limits_in, by decide +kernel, ck_limits_in, rfl, rfl⟩, by decide +kernel, He.glo_ok X G (c.fact 20 (f := .glo "limits_in") rfl), FunD.bindsN F fun _ _ _ _ _ _ us hl => match us, hl with | [_, _], _ => rfl⟩
    · obtain ⟨fd, F⟩ := c.def_ 21 (d := d_regrets_at) rfl
      exact ⟨_, _, fd, ["plan", "seats"], rfl, ⟨_, _, _, n_regrets_at, 200, F, sc_regrets_at, by decide +kernel, ck_regrets_at, rfl, rfl⟩, by decide +kernel, He.glo_ok X G (c.fact 21 (f := .glo "regrets_at") rfl), FunD.bindsN F fun _ _ _ _ _ _ us hl => match us, hl with | [_, _], _ => rfl⟩
    · obtain ⟨fd, F⟩ := c.def_ 22 (d := d_gains_by) rfl
      exact ⟨_, _, fd, ["fares", "limits"], rfl, ⟨_, _, _, n_gains_by, 200, F, sc_gains_by, by decide +kernel, ck_gains_by, rfl, rfl⟩, by decide +kernel, He.glo_ok X G (c.fact 22 (f := .glo "gains_by") rfl), FunD.bindsN F fun _ _ _ _ _ _ us hl => match us, hl with | [_, _], _ => rfl⟩
    · obtain ⟨fd, F⟩ := c.def_ 23 (d := d_lesser_share) rfl
      exact ⟨_, _, fd, ["pairs"], rfl, ⟨_, _, _, n_lesser_share, 200, F, sc_lesser_share, by decide +kernel, ck_lesser_share, rfl, rfl⟩, by decide +kernel, He.glo_ok X G (c.fact 23 (f := .glo "lesser_share") rfl), FunD.bindsN F fun _ _ _ _ _ _ us hl => match us, hl with | [_], _ => rfl⟩
    · obtain ⟨fd, F⟩ := c.def_ 24 (d := d_need_fares) rfl
      exact ⟨_, _, fd, ["fares"], rfl, ⟨_, _, _, n_need_fares, 200, F, sc_need_fares, by decide +kernel, ck_need_fares, rfl, rfl⟩, by decide +kernel, He.glo_ok X G (c.fact 24 (f := .glo "need_fares") rfl), FunD.bindsN F fun _ _ _ _ _ _ us hl => match us, hl with | [_], _ => rfl⟩
    · obtain ⟨fd, F⟩ := c.def_ 25 (d := d_is_whole) rfl
      exact ⟨_, _, fd, ["value", "least", "most"], rfl, ⟨_, _, _, n_is_whole, 200, F, sc_is_whole, by decide +kernel, ck_is_whole, rfl, rfl⟩, by decide +kernel, He.glo_ok X G (c.fact 25 (f := .glo "is_whole") rfl), FunD.bindsN F fun _ _ _ _ _ _ us hl => match us, hl with | [_, _, _], _ => rfl⟩
    · obtain ⟨fd, F⟩ := c.def_ 26 (d := d_are_rising) rfl
      exact ⟨_, _, fd, ["value"], rfl, ⟨_, _, _, n_are_rising, 200, F, sc_are_rising, by decide +kernel, ck_are_rising, rfl, rfl⟩, by decide +kernel, He.glo_ok X G (c.fact 26 (f := .glo "are_rising") rfl), FunD.bindsN F fun _ _ _ _ _ _ us hl => match us, hl with | [_], _ => rfl⟩
    · obtain ⟨fd, F⟩ := c.def_ 27 (d := d__law_least) rfl
      exact ⟨_, _, fd, ["_law_part", "_law_of_here"], rfl, ⟨_, _, _, n__law_least, 200, F, sc__law_least, by decide +kernel, ck__law_least, rfl, rfl⟩, by decide +kernel, He.glo_ok X G (c.fact 27 (f := .glo "_law_least") rfl), FunD.bindsN F fun _ _ _ _ _ _ us hl => match us, hl with | [_, _], _ => rfl⟩
    · obtain ⟨fd, F⟩ := c.def_ 28 (d := d__law_lets_84) rfl
      exact ⟨_, _, fd, ["_law_seats_so", "_law_some", "_law_sold_so", "_law_k"], rfl, ⟨_, _, _, n__law_lets_84, 200, F, sc__law_lets_84, by decide +kernel, ck__law_lets_84, rfl, rfl⟩, by decide +kernel, He.glo_ok X G (c.fact 28 (f := .glo "_law_lets") rfl), FunD.bindsN F fun _ _ _ _ _ _ us hl => match us, hl with | [_, _, _, _], _ => rfl⟩
    · obtain ⟨fd, F⟩ := c.def_ 29 (d := d__law_more) rfl
      exact ⟨_, _, fd, ["_law_counts", "_law_k", "_law_more_here"], rfl, ⟨_, _, _, n__law_more, 200, F, sc__law_more, by decide +kernel, ck__law_more, rfl, rfl⟩, by decide +kernel, He.glo_ok X G (c.fact 29 (f := .glo "_law_more") rfl), FunD.bindsN F fun _ _ _ _ _ _ us hl => match us, hl with | [_, _, _], _ => rfl⟩
    · obtain ⟨fd, F⟩ := c.def_ 30 (d := d_fraction) rfl
      exact ⟨_, _, fd, ["one", "other"], rfl, ⟨_, _, _, n_fraction, 200, F, sc_fraction, by decide +kernel, ck_fraction, rfl, rfl⟩, by decide +kernel, He.glo_ok X G (c.fact 30 (f := .glo "fraction") rfl), FunD.bindsN F fun _ _ _ _ _ _ us hl => match us, hl with | [_, _], _ => rfl⟩
    · obtain ⟨fd, F⟩ := c.def_ 31 (d := d_are_fares) rfl
      exact ⟨_, _, fd, ["value"], rfl, ⟨_, _, _, n_are_fares, 200, F, sc_are_fares, by decide +kernel, ck_are_fares, rfl, rfl⟩, by decide +kernel, He.glo_ok X G (c.fact 31 (f := .glo "are_fares") rfl), FunD.bindsN F fun _ _ _ _ _ _ us hl => match us, hl with | [_], _ => rfl⟩
    · obtain ⟨fd, F⟩ := c.def_ 32 (d := d_common) rfl
      exact ⟨_, _, fd, ["one", "other"], rfl, ⟨_, _, _, n_common, 200, F, sc_common, by decide +kernel, ck_common, rfl, rfl⟩, by decide +kernel, He.glo_ok X G (c.fact 32 (f := .glo "common") rfl), FunD.bindsN F fun _ _ _ _ _ _ us hl => match us, hl with | [_, _], _ => rfl⟩
  dr := by
    obtain ⟨fd, F⟩ := c.def_ 2 (d := d__law_draw) rfl
    obtain ⟨fdM, FM⟩ := c.def_ 0 (d := d__law_mixed) rfl
    exact ⟨_, fd, _, He.glo_ok X G (c.fact 2 (f := .glo "_law_draw") rfl), F.kp, FunD.bindsN (ps := ["_law_m", "_law_limit"]) F fun _ _ _ _ _ _ us hl => match us, hl with | [_, _], _ => rfl, fun W => ok_draw W F FM (He.glo_ok X G (c.fact 0 (f := .glo "_law_mixed") rfl)) (He.free_ok X G (c.fact 46 (f := .free "int") rfl)) (He.free_ok X G (c.fact 37 (f := .free "len") rfl))⟩
  bn := fun x hx => by
    simp only [bNames, List.mem_cons, List.not_mem_nil, or_false] at hx
    rcases hx with rfl | rfl | rfl | rfl | rfl | rfl | rfl | rfl | rfl | rfl | rfl | rfl | rfl | rfl | rfl | rfl | rfl
    · exact (He.free_ok X G (c.fact 37 (f := .free "len") rfl))
    · exact (He.free_ok X G (c.fact 38 (f := .free "all") rfl))
    · exact (He.free_ok X G (c.fact 39 (f := .free "any") rfl))
    · exact (He.free_ok X G (c.fact 40 (f := .free "sum") rfl))
    · exact (He.free_ok X G (c.fact 41 (f := .free "min") rfl))
    · exact (He.free_ok X G (c.fact 42 (f := .free "max") rfl))
    · exact (He.free_ok X G (c.fact 43 (f := .free "sorted") rfl))
    · exact (He.free_ok X G (c.fact 44 (f := .free "tuple") rfl))
    · exact (He.free_ok X G (c.fact 45 (f := .free "list") rfl))
    · exact (He.free_ok X G (c.fact 46 (f := .free "int") rfl))
    · exact (He.free_ok X G (c.fact 47 (f := .free "repr") rfl))
    · exact (He.free_ok X G (c.fact 48 (f := .free "isinstance") rfl))
    · exact (He.free_ok X G (c.fact 49 (f := .free "range") rfl))
    · exact (He.free_ok X G (c.fact 50 (f := .free "zip") rfl))
    · exact (He.free_ok X G (c.fact 51 (f := .free "enumerate") rfl))
    · exact (He.free_ok X G (c.fact 52 (f := .free "bool") rfl))
    · exact (He.free_ok X G (c.fact 53 (f := .free "str") rfl))
end
theorem facts {P : Program} {w : World} {K : PySem.W.Frag} {h : Heap} {mg : Str → Option Value} {f : Addr} (X : K.In h) (GN : h.Ns mainGlobals mg) (hfa : mg ("law" : Str) = some (.ref f)) (c : He.SaysD fa fn K)
    (hlaw : ∀ (ns : List Int) (g : G), ns.length ≤ 63 → GOk g → g.spot = 0 → ∃ g', evB p.cs (den p DEPTH) b_law (gm0 10 ns) g = .ok (.rt (.bl true)) g') :
    ∃ fd : FuncData, (∀ (s : Shared) (v : Value), BindsTo s fd ⟨[v], []⟩ [("_law_script", v)]) ∧ ∀ base : Heap, K.In base → base.Ns mainGlobals mg → FnOkG P w K mg base CX0 (DEPTH + 3) f fd ["_law_script"] (spLaw K) := by
  obtain ⟨fd, F⟩ := c.def_ 4 (d := d_law) rfl
  obtain ⟨fdB, FB⟩ := c.def_ 3 (d := d__law_begun) rfl
  obtain ⟨fdF, FF⟩ := c.def_ 1 (d := d__law_folded) rfl
  have e := hfa.symm.trans (He.glo_ok X GN (c.fact 4 (f := .glo "law") rfl))
  cases e
  have b := FunD.bindsA (ps := ["_law_script"]) F fun _ _ _ _ _ _ us hl => match us, hl with | [_], _ => rfl
  refine ⟨fd, fun s v => b s [v] rfl, fun base _ _ => ?_⟩
  have bB : Binds K fdB ["_law_script"] [] := FunD.bindsN FB fun _ _ _ _ _ _ us hl => match us, hl with | [_], _ => rfl
  exact ok_law (world X GN c) (n := 200) (st0 := (defBody sLaw).head!) (rest := (defBody sLaw).tail) F sc_law (by decide +kernel) rfl (by decide +kernel) (by decide +kernel) (He.glo_ok X GN (c.fact 3 (f := .glo "_law_begun") rfl)) FB.kp bB (ok_begun FB FF (He.glo_ok X GN (c.fact 1 (f := .glo "_law_folded") rfl)) (He.free_ok X GN (c.fact 46 (f := .free "int") rfl)) (He.free_ok X GN (c.fact 49 (f := .free "range") rfl)) (He.free_ok X GN (c.fact 51 (f := .free "enumerate") rfl))) ck_law hlaw
end Bk
open PySem PySem.W PySem.Calls PyProof.Rows
/-- the law holds, once the compact program answers true -/
theorem holds_of (hlaw : ∀ (ns : List Int) (g : Bk.G), ns.length ≤ 63 → Bk.GOk g → g.spot = 0 → ∃ g', Bk.evB Bk.p.cs (Bk.den Bk.p Bk.DEPTH) Bk.b_law (Bk.gm0 10 ns) g = .ok (.rt (.bl true)) g') : PySem.Challenge.rw_booklimits_k81_whole_plans.Holds := by
  w_on; o_law
  refine HandSHeadRun.head_any (r := OpenLaw.row PySem.Challenge.rw_booklimits_k81_whole_plans) (q := view (OpenLaw.row PySem.Challenge.rw_booklimits_k81_whole_plans).prog [44]) (H := Bk.hk) (ob := Bk.ob) (M := Bk.STEPS) (loose := Bk.loose) (d := HandSHeadRun.topDef (OpenLaw.row PySem.Challenge.rw_booklimits_k81_whole_plans).prog 44) (kwd := []) Bk.ob_eq
    (by kernel_rfl) (fun s => by kernel_rfl) Bk.run (by kernel_rfl) (by kernel_rfl) (by kernel_rfl) (by rfl) (by first | assumption | decide +kernel) (by decide +kernel) ⟨rfl, rfl, rfl, rfl, rfl, by decide +kernel⟩ ?hw ?hc
  case hw => w_witness2
  case hc =>
    refine Bk.walk_G (l := PySem.Challenge.rw_booklimits_k81_whole_plans) (n := 63) (k := Bk.DEPTH + 3) (x := "_law_script") (CX := L2.CX0) rfl (by decide) (by kernel_rfl) ⟨rfl, by decide, by decide⟩ ?F (fun _ _ _ _ z => z)
    intro w mg fa h Y GN hmg0
    obtain ⟨K, KX, c⟩ := Y
    have hmg : mg ("law" : PySem.Str) = some (.ref fa) := by
      have e : (HandSHeadRun.topDef (OpenLaw.row PySem.Challenge.rw_booklimits_k81_whole_plans).prog 44).name = ("law" : PySem.Str) := by kernel_rfl
      rw [← e]
      exact hmg0
    obtain ⟨fd, hb, hF⟩ := Bk.facts (P := (PySem.Challenge.rw_booklimits_k81_whole_plans).prog) (w := w) KX GN hmg c hlaw
    exact ⟨K, fd, Bk.spLaw K, KX, hb, fun H a ns hl _ hS => ⟨a, ns, rfl, hS, hl, fun _ => rfl⟩, hF⟩

set_option maxRecDepth 100000 in
set_option maxHeartbeats 8000000 in
theorem PySem.Challenge.cw_booklimits_k81_whole_plans_holds : PySem.Challenge.rw_booklimits_k81_whole_plans.Holds := by
  exact holds_of fun ns g hl _ hs => Pk.law_ok ns g hl hs
