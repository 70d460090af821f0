import PyProof.Rows.All
import Wide.All
import OpenK.AllK
import Wide.FinOn
import PySem.Challenge.RW_booklimits_k84_whole_best_plans
import PySem.Str
import PySem.PyData
import PyProof.P3Statements
import PyProof.ReprReads
import PyProof.EqLayable
import KE.LtData
import KE.KeyNested
import KE.SortKeyed
import PyProof.ReprLen
import PyProof.Rows.RegStrFacts
import HandS.ForMost
import HandS.Evl
import HandS.Lambda
import HandS.TupMul
import KE.DataMinMax
import KE.KTupSum
import KE.DataEq
import PyProof.TableCode
import HandS.SortInts
import PyProof.DictRoadsH
import KE.KDictKeyed
import HandS.Conv
import KE.KDictCopyH
import KE.SortData
import HandS.Wide
import HandS.TupAny
import HandS.Style
import HandS.IsInst
import HandS.Deep
import KE.KSortedM
import KE.GoesZip
import KE.GoesEnum
import HandS.Zip
import HandS.Exc
import HandS.Star
import PyProof.EqAt
import KE.KDictDisplayH
import PyProof.DictTable
import PyProof.NeKinds
import KE.KExcLine
import HandS.ExcField
import KE.KDflt
import HandS.TryMany
import HandS.Defaults
import HandS.Words
import HandS.Dict
import HandS.Walk
import HandS.Ends
import HandS.HeadEnd
import HandS.Head0
import HandS.Head1
import HandS.Head2
import HandS.HeadHook1
import HandS.HeadHook2
import HandS.HeadHook3
import HandS.HeadHook4
import HandS.Codes
set_option Elab.async false
/-! The compact language and its evaluator over plain data. -/
namespace Bk
open PySem

inductive D where
  | non | bl (b : Bool) | int (i : Int) | str (x : Str) | tup (xs : List D) | lst (xs : List D)
  /-- the drawing state's handle -/
  | m
  /-- the script -/
  | scr (ns : List Int)
  /-- a dict: its keys, its values -/
  | dct (ks vs : List D)

mutual
def D.py : D → PyData
  | .non => .none
  | .bl b => .bool b
  | .int i => .int i
  | .str x => .str x
  | .tup xs => .tuple (pys xs)
  | .lst xs => .list (pys xs)
  | .m => .none
  | .scr _ => .none
  | .dct _ _ => .none
def pys : List D → List PyData
  | [] => []
  | x :: xs => x.py :: pys xs
end
mutual
/-- no handle within -/
def D.pl : D → Bool
  | .tup xs => pls xs
  | .lst xs => pls xs
  | .m => false
  | .scr _ => false
  | .dct _ _ => false
  | _ => true
def pls : List D → Bool
  | [] => true
  | x :: xs => x.pl && pls xs
end

/-! ### keys of dicts -/
mutual
def keyD : D → NestedKey
  | .non => .none
  | .bl b => .num (if b then 1 else 0)
  | .int i => .num i
  | .str x => .text x
  | .tup xs => .tup (keysD xs)
  | _ => .none
def keysD : List D → List NestedKey
  | [] => []
  | x :: xs => keyD x :: keysD xs
end
mutual
def okP : D → Bool
  | .non => true
  | .bl _ => true
  | .int _ => true
  | .str _ => true
  | .tup xs => okPs xs
  | _ => false
def okPs : List D → Bool
  | [] => true
  | x :: xs => okP x && okPs xs
end
def okK : D → Bool
  | .tup xs => okPs xs && decide ((keyD (.tup xs)).depth ≤ 8)
  | _ => false
def getK (k : NestedKey) : List D → List D → Option D
  | a :: ks, v :: vs => if keyD a = k then some v else getK k ks vs
  | _, _ => none
def setK (k : NestedKey) (y : D) : List D → List D → List D
  | a :: ks, v :: vs => if keyD a = k then y :: vs else v :: setK k y ks vs
  | _, _ => []
def putD (ks vs : List D) (k y : D) : D := if (getK (keyD k) ks vs).isSome then .dct ks (setK (keyD k) y ks vs) else .dct (ks ++ [k]) (vs ++ [y])
/-- {k: v for ..}, dict(pairs): stored one by one -/
def putsD : List D → List D → List (D × D) → Option D
  | ks, vs, [] => some (.dct ks vs)
  | ks, vs, (k, y) :: r => if okK k && decide (ks.length < 1000000) then (match putD ks vs k y with | .dct ks' vs' => putsD ks' vs' r | _ => none) else none
def pairsD : List D → Option (List (D × D))
  | [] => some []
  | .tup [k, v] :: r => (pairsD r).map ((k, v) :: ·)
  | _ => none

/-- the drawing state -/
structure G where
  cells : List Int
  great : List Int
  spot : Int

inductive R (α : Type) where
  | ok (a : α) (g : G)
  | ex (c : Nat) (ds : List D) (g : G)
  | st
@[inline] def R.bind {α β : Type} (r : R α) (k : α → G → R β) : R β := match r with
  | .ok a g => k a g
  | .ex c ds g => .ex c ds g
  | .st => .st

def mixed (cell n : Int) : Int :=
  (((cell * (1 + 2 * n) * 48271) % 2147483647 + 7919 * n * n + 104729 * n) * 69621) % 2147483629 / 7
/-- `_law_draw` -/
def G.mix (g : G) (lim : Int) : Int := mixed (mixed ((g.cells.getD (g.spot % 64).toNat 0) + 31 * (g.spot / 64)) g.spot) (g.spot + 7) % lim
def G.here (g : G) : Nat := (g.spot % (g.great.length : Int)).toNat
def G.draw (g : G) (lim : Int) : Int × G :=
  if g.great = [] then (g.mix lim, { g with spot := g.spot + 1 })
  else if 0 < g.great.getD g.here 0 then
    (g.great.getD g.here 0 % lim, { g with spot := g.spot + 1, great := g.great.set g.here (g.great.getD g.here 0 / lim) })
  else (g.mix lim, { g with spot := g.spot + 1 })

inductive Op where | add | sub | mul | div | mod | pow
inductive Cm where | eq | ne | lt | le | gt | ge | isin | notin | isN | notN
inductive Ty where | int | bool | str | tuple | list
  deriving DecidableEq
inductive Bi where | len | all | any | sum | min | max | min2 | max2 | sorted | tuple | list | int | repr | maxd | mind | sortd
inductive T where | var (i : Nat) | tup (ts : List T)

mutual
inductive E where
  | cst (d : D)
  | var (i : Nat)
  | glb (i : Nat)
  | bin (o : Op) (a b : E)
  | neg (a : E)
  | cmp (o : Cm) (a b : E)
  | chn (o p : Cm) (a b c : E)
  | and (a b : E)
  | or (a b : E)
  | not (a : E)
  | ife (c a b : E)
  | tup (as : A)
  | lst (as : A)
  | idx (a b : E)
  | sl (a : E) (lo hi : Option E)
  | lc (elt : E) (t : T) (it : I) (cond : Option E)
  | call (f : Nat) (as : A)
  | bi (b : Bi) (as : A)
  | isi (a : E) (ts : List Ty)
  | draw (a b : E)
  /-- two lists, a new one -/
  | cat (a b : E)
  /-- a[::-1] of a list -/
  | rev (a : E)
  /-- an owned list: an item; whether it is (not) empty -/
  | idxO (i : Nat) (b : E)
  | emO (neg : Bool) (i : Nat)
  /-- {}, {k: v} -/
  | dnil
  | done (k v : E)
  /-- a key (not) in an owned dict; how many keys -/
  | inO (neg : Bool) (a : E) (i : Nat)
  | lenO (i : Nat)
  /-- list(range(a)), list(range(a, b)) -/
  | lrng1 (a : E)
  | lrng2 (a b : E)
  /-- displays with starred items -/
  | tupS (as : A)
  | lstS (as : A)
  /-- x(lambda: e), x the v-th def that tells what comes of it: in a list, or the error's label and fields -/
  | said (v : Nat) (tb : List (Nat × Str)) (e : E)
inductive A where
  | nil
  | cons (e : E) (as : A)
  | star (e : E) (as : A)
inductive I where
  | seq (e : E)
  | rng1 (a : E)
  | rng2 (a b : E)
  | zip (a b : E)
  | enum (a : E)
end
mutual
inductive S where
  | expr (e : E)
  | asg (t : T) (e : E)
  /-- a name gets a new list that it owns -/
  | own (i : Nat) (e : E)
  /-- x, y = a, b; x, y, z = a, b, c; the mark: an owned new list -/
  | par (ts : List (Nat × Bool)) (as : A)
  | aug (i : Nat) (e : E)
  | ret (e : E)
  | ife (c : E) (a b : B)
  | for_ (t : T) (it : I) (b : B)
  | whl (n : Nat) (c : E) (b : B)
  | app (i : Nat) (e : E)
  /-- of owned lists: x[a] = b; t = x.pop(); x.extend(e) -/
  | sto (i : Nat) (a b : E)
  | pop (t : T) (i : Nat)
  | ext (i : Nat) (e : E)
  /-- nothing in the text: what is owned is owned no more -/
  | frz (i : Nat)
  | stop
  | pass
  /-- raise C(e, ..) -/
  | rais (c : Nat) (as : A)
inductive B where
  | nil
  | cons (s : S) (b : B)
end

inductive Slot where
  | no | val (d : D) | own (d : D)
abbrev Gm := List Slot

/-! ### operations on data -/
def MulOk (i j : Int) : Bool := decide (i.natAbs.log2 + j.natAbs.log2 < 1000000)
def DivOk (j : Int) : Bool := decide (0 < j) && decide (j.natAbs.log2 < 9000)
def opD : Op → D → D → Option D
  | .add, .int i, .int j => some (.int (i + j))
  | .sub, .int i, .int j => some (.int (i - j))
  | .mul, .int i, .int j => if MulOk i j then some (.int (i * j)) else none
  | .div, .int i, .int j => if DivOk j then some (.int (i / j)) else none
  | .mod, .int i, .int j => if 0 < j then some (.int (i % j)) else none
  | .pow, .int i, .int j => if 0 ≤ j ∧ j ≤ 1000 ∧ i.natAbs < 2 ^ 64 then some (.int (i ^ j.toNat)) else none
  | .add, .tup xs, .tup ys => if xs.length + ys.length ≤ 1000000 then some (.tup (xs ++ ys)) else none
  | .add, .lst xs, .lst ys => if xs.length + ys.length ≤ 1000000 then some (.lst (xs ++ ys)) else none
  | .mul, .tup xs, .int k => if ¬ xs = [] ∧ 1 ≤ k ∧ k ≤ 1000 ∧ xs.length ≤ 1000 then some (.tup (List.replicate k.toNat xs).flatten) else none
  | .mul, .lst xs, .int k => if xs.length * k.toNat ≤ 1000000 ∧ k ≤ 1000000 ∧ -1000000 ≤ k then some (.lst (List.replicate k.toNat xs).flatten) else none
  | .add, .str x, .str y => if x.length + y.length ≤ 1000000 then some (.str (x ++ y)) else none
  | _, _, _ => none
/-- == and != are asked of data whose depth is at most 64 -/
def flatD : D → Bool
  | .non => true
  | .bl _ => true
  | .int _ => true
  | .str _ => true
  | _ => false
def eqF : D → D → Bool
  | .non, .non => true
  | .bl a, .bl b => a == b
  | .bl a, .int b => (if a then 1 else 0) == b
  | .int a, .bl b => a == (if b then 1 else 0)
  | .int a, .int b => a == b
  | .str a, .str b => a == b
  | _, _ => false
def inF (x : D) (ys : List D) : Bool := ys.any fun y => eqF y x
def cmpD : Cm → D → D → Option Bool
  | .lt, .int i, .int j => some (decide (i < j))
  | .le, .int i, .int j => some (decide (i ≤ j))
  | .gt, .int i, .int j => some (decide (j < i))
  | .ge, .int i, .int j => some (decide (j ≤ i))
  | .eq, .int i, .int j => some (decide (i = j))
  | .ne, .int i, .int j => some (!decide (i = j))
  | .eq, .str x, .str y => some (decide (x = y))
  | .ne, .str x, .str y => some (!decide (x = y))
  | .eq, a, b => if a.pl && b.pl && SeqAt.shaped a.py && SeqAt.shaped b.py then some (PyData.eqv a.py b.py) else none
  | .ne, a, b => if a.pl && b.pl && SeqAt.shaped a.py && SeqAt.shaped b.py then some (!PyData.eqv a.py b.py) else none
  | .isin, x, .tup ys => if flatD x && ys.all flatD then some (inF x ys) else none
  | .isin, x, .lst ys => if flatD x && ys.all flatD then some (inF x ys) else none
  | .notin, x, .tup ys => if flatD x && ys.all flatD then some (!inF x ys) else none
  | .notin, x, .lst ys => if flatD x && ys.all flatD then some (!inF x ys) else none
  | .isin, x, .dct ks vs => if okK x then some (getK (keyD x) ks vs).isSome else none
  | .notin, x, .dct ks vs => if okK x then some (!(getK (keyD x) ks vs).isSome) else none
  | .isN, .non, .non => some true
  | .isN, .int _, .non => some false
  | .isN, .str _, .non => some false
  | .isN, .tup _, .non => some false
  | .isN, .lst _, .non => some false
  | .isN, .bl _, .non => some false
  | .notN, .non, .non => some false
  | .notN, .int _, .non => some true
  | .notN, .str _, .non => some true
  | .notN, .tup _, .non => some true
  | .notN, .lst _, .non => some true
  | .notN, .bl _, .non => some true
  | _, _, _ => none
/-- xs[i] -/
def atD (xs : List D) (i : Int) : Option D := if 0 ≤ i then xs[i.toNat]? else if 0 ≤ i + xs.length then xs[(i + xs.length).toNat]? else none
def ixD (n : Nat) (i : Int) : Option Nat := if 0 ≤ i then (if i.toNat < n then some i.toNat else none) else if 0 ≤ i + n then some (i + n).toNat else none
def idxD : D → D → Option D
  | .tup xs, .int i => atD xs i
  | .lst xs, .int i => atD xs i
  | .dct ks vs, k => if okK k then getK (keyD k) ks vs else none
  | _, _ => none
def sIxD (n : Nat) (d : Nat) : Option Int → Nat
  | none => d
  | some i => if i < 0 then (i + n).toNat else min i.toNat n
def cutD (xs : List D) (lo hi : Option Int) : List D := (xs.drop (sIxD xs.length 0 lo)).take (sIxD xs.length xs.length hi - sIxD xs.length 0 lo)
def slD : D → Option Int → Option Int → Option D
  | .tup xs, lo, hi => some (.tup (cutD xs lo hi))
  | .lst xs, lo, hi => some (.lst (cutD xs lo hi))
  | _, _, _ => none
def intsD : List D → Option (List Int)
  | [] => some []
  | .int i :: r => (intsD r).map (i :: ·)
  | _ => none
def blsD : List D → Option (List Bool)
  | [] => some []
  | .bl i :: r => (blsD r).map (i :: ·)
  | _ => none
def maxI : Int → List Int → Int := fun a l => l.foldl (fun x y => if x < y then y else x) a
def minI : Int → List Int → Int := fun a l => l.foldl (fun x y => if y < x then y else x) a
def insI (i : Int) : List Int → List Int
  | [] => [i]
  | j :: r => if i ≤ j then i :: j :: r else j :: insI i r
def sortI (l : List Int) : List Int := l.foldr insI []
/-- the greatest, the least of alike data -/
def maxDD : D → List D → D := fun a l => l.foldl (fun x y => if W.dataLt x.py y.py then y else x) a
def minDD : D → List D → D := fun a l => l.foldl (fun x y => if W.dataLt y.py x.py then y else x) a
def alkD (xs : List D) : Bool := pls xs && xs.all (fun x => xs.all fun y => W.alike x.py y.py) && xs.all (fun x => match x with | .non => false | _ => true) && decide (PyData.depthAll (pys xs) ≤ 60)
/-- sorted data -/
def sortDD (xs : List D) : List D := xs.mergeSort (W.dataLe false D.py)
def biD : Bi → List D → Option D
  | .len, [.tup xs] => some (.int xs.length)
  | .len, [.lst xs] => some (.int xs.length)
  | .len, [.scr ns] => some (.int ns.length)
  | .len, [.str x] => if x.length ≤ 1000000 then some (.int x.length) else none
  | .all, [.lst xs] => (blsD xs).map fun bs => .bl (bs.all id)
  | .any, [.lst xs] => (blsD xs).map fun bs => .bl (bs.any id)
  | .sum, [.lst xs] => (intsD xs).map fun ns => .int ns.sum
  | .sum, [.tup xs] => (intsD xs).map fun ns => .int ns.sum
  | .max, [.lst xs] => (intsD xs).bind fun | [] => none | n :: ns => some (.int (maxI n ns))
  | .min, [.lst xs] => (intsD xs).bind fun | [] => none | n :: ns => some (.int (minI n ns))
  | .max2, [.int i, .int j] => some (.int (if i < j then j else i))
  | .min2, [.int i, .int j] => some (.int (if j < i then j else i))
  | .sorted, [.lst xs] => (intsD xs).map fun ns => .lst ((sortI ns).map .int)
  | .sorted, [.tup xs] => (intsD xs).map fun ns => .lst ((sortI ns).map .int)
  | .tuple, [.lst xs] => some (.tup xs)
  | .tuple, [.tup xs] => some (.tup xs)
  | .list, [.lst xs] => some (.lst xs)
  | .list, [.tup xs] => some (.lst xs)
  | .int, [.int i] => some (.int i)
  | .int, [.bl b] => some (.int (if b then 1 else 0))
  | .list, [.dct ks _] => if ks.length ≤ 1000000 then some (.lst ks) else none
  | .sortd, [.lst xs] => if alkD xs && xs.all (fun x => match x with | .tup (_ :: _) => true | _ => false) then some (.lst (sortDD xs)) else none
  | .maxd, [.lst xs] => if alkD xs then (match xs with | [] => none | x :: r => some (maxDD x r)) else none
  | .mind, [.lst xs] => if alkD xs then (match xs with | [] => none | x :: r => some (minDD x r)) else none
  | .repr, [d] => if d.pl && d.py.showable && decide (d.py.depth ≤ 64) && decide (d.py.shown.length ≤ 1000000) then some (.str d.py.shown) else none
  | _, _ => none
def isI : Ty → D → Bool
  | .bool, .bl _ => true
  | .int, .bl _ => true
  | .int, .int _ => true
  | .str, .str _ => true
  | .tuple, .tup _ => true
  | .list, .lst _ => true
  | .list, .scr _ => true
  | _, _ => false
def isiD (ts : List Ty) : D → Option Bool
  | .m => none
  | .dct _ _ => none
  | d => some (ts.any (isI · d))

/-! ### targets -/
mutual
def setT : T → D → Gm → Option Gm
  | .var i, d, Γ => if i < Γ.length then some (Γ.set i (.val d)) else none
  | .tup ts, .tup ds, Γ => setTs ts ds Γ
  | .tup _, _, _ => none
def setTs : List T → List D → Gm → Option Gm
  | [], [], Γ => some Γ
  | t :: ts, d :: ds, Γ => (setT t d Γ).bind (setTs ts ds)
  | _, _, _ => none
end
mutual
def T.vars : T → List Nat
  | .var i => [i]
  | .tup ts => varsT ts
def varsT : List T → List Nat
  | [] => []
  | t :: ts => t.vars ++ varsT ts
end
def wipeG (Γ : Gm) : List Nat → Gm
  | [] => Γ
  | v :: vs => (wipeG Γ vs).set v .no

def rngD (a : Int) : Nat → List D
  | 0 => []
  | n + 1 => .int a :: rngD (a + 1) n
def zipD : List D → List D → List D
  | x :: xs, y :: ys => .tup [x, y] :: zipD xs ys
  | _, _ => []
def enumD (n : Int) : List D → List D
  | [] => []
  | x :: xs => .tup [.int n, x] :: enumD (n + 1) xs
def seqD : D → Option (List D)
  | .tup xs => some xs
  | .lst xs => some xs
  | .dct ks _ => if ks.length ≤ 1000000 then some ks else none
  | _ => none
def itemsD : D → Option (List D)
  | .tup xs => some xs
  | .lst xs => some xs
  | _ => none

def lift {α : Type} (o : Option α) (g : G) : R α := match o with
  | some a => .ok a g
  | none => .st
/-- [elt for x in items if cond] -/
def R.nox {α : Type} (r : R α) : R α := match r with
  | .ok a g => .ok a g
  | _ => .st
def lcR (f : D → G → R (Option D)) : List D → G → R (List D)
  | [], g => .ok [] g
  | x :: xs, g => (f x g).nox.bind fun o g1 => (lcR f xs g1).bind fun ys g2 => .ok (match o with | some y => y :: ys | none => ys) g2
inductive Fl where
  | nx (Γ : Gm) | rt (d : D)
def forR (f : D → Gm → G → R Fl) : List D → Gm → G → R Fl
  | [], Γ, g => .ok (.nx Γ) g
  | x :: xs, Γ, g => (f x Γ g).bind fun fl g1 => match fl with
    | .nx Γ' => forR f xs Γ' g1
    | .rt d => .ok (.rt d) g1
def whlR (c : Gm → G → R Bool) (f : Gm → G → R Fl) : Nat → Gm → G → R Fl
  | 0, _, _ => .st
  | n + 1, Γ, g => (c Γ g).bind fun b g1 => if b then (f Γ g1).bind fun fl g2 => (match fl with
      | .nx Γ' => whlR c f n Γ' g2
      | .rt d => .ok (.rt d) g2)
    else .ok (.nx Γ) g1
def blR (r : R D) : R Bool := r.bind fun d g => match d with | .bl b => .ok b g | _ => .st

/-- what a program is: constants by number, defs: parameters, names, body -/
structure Df where
  np : Nat
  nn : Nat
  body : B
structure Pr where
  cs : List (Nat × D)
  ds : List (Nat × Df)

def isOb : D → Bool
  | .lst _ => true
  | .dct _ _ => true
  | _ => false
def parG : List (Nat × Bool) → List D → Gm → Option Gm
  | [], [], Γ => some Γ
  | (i, o) :: ts, d :: ds, Γ => if i < Γ.length then parG ts ds (Γ.set i (if o && isOb d then .own d else .val d)) else none
  | _, _, _ => none

def caughtR (tb : List (Nat × Str)) (r : R D) : R D := match r with
  | .ok d g => .ok (.lst [d]) g
  | .ex c ds g => match tb.lookup c with
    | some x => .ok (.tup (.str x :: ds)) g
    | none => .st
  | .st => .st

section
variable (cs : List (Nat × D)) (call : Nat → List D → G → R D)
mutual
def evE : E → Gm → G → R D
  | .cst d, _, g => .ok d g
  | .var i, Γ, g => match Γ[i]? with | some (.val d) => .ok d g | _ => .st
  | .glb i, _, g => lift (cs.lookup i) g
  | .bin o a b, Γ, g => (evE a Γ g).bind fun x g => (evE b Γ g).bind fun y g => lift (opD o x y) g
  | .neg a, Γ, g => (evE a Γ g).bind fun x g => match x with | .int i => .ok (.int (-i)) g | _ => .st
  | .cmp o a b, Γ, g => (evE a Γ g).bind fun x g => (evE b Γ g).bind fun y g => lift ((cmpD o x y).map .bl) g
  | .chn o p a b c, Γ, g => (evE a Γ g).bind fun x g => (evE b Γ g).bind fun y g => (lift (cmpD o x y) g).bind fun k g =>
      if k then (evE c Γ g).bind fun z g => lift ((cmpD p y z).map .bl) g else .ok (.bl false) g
  | .and a b, Γ, g => (blR (evE a Γ g)).bind fun k g => if k then (blR (evE b Γ g)).bind fun j g => .ok (.bl j) g else .ok (.bl false) g
  | .or a b, Γ, g => (blR (evE a Γ g)).bind fun k g => if k then .ok (.bl true) g else (blR (evE b Γ g)).bind fun j g => .ok (.bl j) g
  | .not a, Γ, g => (blR (evE a Γ g)).bind fun k g => .ok (.bl (!k)) g
  | .ife c a b, Γ, g => (blR (evE c Γ g)).bind fun k g => if k then evE a Γ g else evE b Γ g
  | .tup as, Γ, g => (evA as Γ g).bind fun xs g => .ok (.tup xs) g
  | .lst as, Γ, g => (evA as Γ g).bind fun xs g => .ok (.lst xs) g
  | .idx a b, Γ, g => (evE a Γ g).bind fun x g => (evE b Γ g).bind fun y g => lift (idxD x y) g
  | .sl a lo hi, Γ, g => (evE a Γ g).bind fun x g => (evO lo Γ g).bind fun l g => (evO hi Γ g).bind fun h g => lift (slD x l h) g
  | .lc elt t it cond, Γ, g => (evI it Γ g).bind fun xs g => (lcR (fun x g => (lift (setT t x (wipeG Γ t.vars)) g).bind fun Γ' g =>
      match cond with
      | none => (evE elt Γ' g).bind fun y g => .ok (some y) g
      | some c => (blR (evE c Γ' g)).bind fun k g => if k then (evE elt Γ' g).bind fun y g => .ok (some y) g else .ok none g) xs g).bind fun ys g => .ok (.lst ys) g
  | .call f as, Γ, g => (evA as Γ g).bind fun xs g => call f xs g
  | .bi b as, Γ, g => (evA as Γ g).bind fun xs g => lift (biD b xs) g
  | .isi a ts, Γ, g => (evE a Γ g).bind fun x g => lift ((isiD ts x).map .bl) g
  | .draw a b, Γ, g => (evE a Γ g).bind fun x g => (evE b Γ g).bind fun y g => match x, y with
      | .m, .int lim => if 0 < lim ∧ lim < 2 ^ 4000 ∧ g.spot < 2 ^ 60 then .ok (.int (g.draw lim).1) (g.draw lim).2 else .st
      | _, _ => .st
  | .cat a b, Γ, g => (evE a Γ g).bind fun x g => (evE b Γ g).bind fun y g => match x, y with
      | .lst xs, .lst ys => if xs.length + ys.length ≤ 1000000 then .ok (.lst (xs ++ ys)) g else .st
      | _, _ => .st
  | .rev a, Γ, g => (evE a Γ g).bind fun x g => match x with
      | .lst xs => .ok (.lst xs.reverse) g
      | _ => .st
  | .idxO i b, Γ, g => match Γ[i]? with
      | some (.own d) => (evE b Γ g).bind fun y g => lift (idxD d y) g
      | _ => .st
  | .dnil, _, g => .ok (.dct [] []) g
  | .done a b, Γ, g => (evE a Γ g).bind fun k g => (evE b Γ g).bind fun v g => if okK k then .ok (.dct [k] [v]) g else .st
  | .inO neg a i, Γ, g => (evE a Γ g).bind fun k g => match Γ[i]? with
      | some (.own (.dct ks vs)) => if okK k then .ok (.bl (if neg then !(getK (keyD k) ks vs).isSome else (getK (keyD k) ks vs).isSome)) g else .st
      | _ => .st
  | .lrng1 a, Γ, g => (evE a Γ g).bind fun x g => match x with | .int i => if -1000000 ≤ i ∧ i ≤ 1000000 then .ok (.lst (rngD 0 i.toNat)) g else .st | _ => .st
  | .lrng2 a b, Γ, g => (evE a Γ g).bind fun x g => (evE b Γ g).bind fun y g => match x, y with
      | .int i, .int j => if (-1000000 ≤ i ∧ i ≤ 1000000) ∧ -1000000 ≤ j ∧ j ≤ 1000000 then .ok (.lst (rngD i (j - i).toNat)) g else .st
      | _, _ => .st
  | .lenO i, Γ, g => match Γ[i]? with
      | some (.own (.dct ks vs)) => if ks.length ≤ 1000000 then .ok (.int ks.length) g else .st
      | _ => .st
  | .emO neg i, Γ, g => match Γ[i]? with
      | some (.own (.lst xs)) => .ok (.bl (if neg then !xs.isEmpty else xs.isEmpty)) g
      | _ => .st
  | .tupS as, Γ, g => (evA as Γ g).bind fun xs g => if xs.length ≤ 1000000 then .ok (.tup xs) g else .st
  | .lstS as, Γ, g => (evA as Γ g).bind fun xs g => if xs.length ≤ 1000000 then .ok (.lst xs) g else .st
  | .said _ tb e, Γ, g => caughtR tb (evE e Γ g)
def evO : Option E → Gm → G → R (Option Int)
  | none, _, g => .ok none g
  | some e, Γ, g => (evE e Γ g).bind fun x g => match x with | .int i => .ok (some i) g | _ => .st
def evA : A → Gm → G → R (List D)
  | .nil, _, g => .ok [] g
  | .cons e as, Γ, g => (evE e Γ g).bind fun x g => (evA as Γ g).bind fun xs g => .ok (x :: xs) g
  | .star e as, Γ, g => (evE e Γ g).bind fun x g => match itemsD x with
      | some ys => (evA as Γ g).bind fun xs g => .ok (ys ++ xs) g
      | none => .st
def evI : I → Gm → G → R (List D)
  | .seq e, Γ, g => (evE e Γ g).bind fun x g => lift (seqD x) g
  | .rng1 a, Γ, g => (evE a Γ g).bind fun x g => match x with | .int i => if -1000000 ≤ i ∧ i ≤ 1000000 then .ok (rngD 0 i.toNat) g else .st | _ => .st
  | .rng2 a b, Γ, g => (evE a Γ g).bind fun x g => (evE b Γ g).bind fun y g => match x, y with
      | .int i, .int j => if (-1000000 ≤ i ∧ i ≤ 1000000) ∧ -1000000 ≤ j ∧ j ≤ 1000000 then .ok (rngD i (j - i).toNat) g else .st
      | _, _ => .st
  | .zip a b, Γ, g => (evE a Γ g).bind fun x g => (evE b Γ g).bind fun y g => match itemsD x, itemsD y with
      | some xs, some ys => .ok (zipD xs ys) g
      | _, _ => .st
  | .enum a, Γ, g => (evE a Γ g).bind fun x g => match itemsD x with
      | some xs => .ok (enumD 0 xs) g
      | _ => .st
end
mutual
def evS : S → Gm → G → R Fl
  | .expr e, Γ, g => (evE cs call e Γ g).bind fun _ g => .ok (.nx Γ) g
  | .asg t e, Γ, g => (evE cs call e Γ g).bind fun x g => (lift (setT t x Γ) g).bind fun Γ' g => .ok (.nx Γ') g
  | .own i e, Γ, g => (evE cs call e Γ g).bind fun x g => match x with
      | .lst xs => if i < Γ.length then .ok (.nx (Γ.set i (.own (.lst xs)))) g else .st
      | .dct ks vs => if i < Γ.length then .ok (.nx (Γ.set i (.own (.dct ks vs)))) g else .st
      | _ => .st
  | .par ts as, Γ, g => (evA cs call as Γ g).bind fun xs g => (lift (parG ts xs Γ) g).bind fun Γ' g => .ok (.nx Γ') g
  | .aug i e, Γ, g => match Γ[i]? with
      | some (.val x) => (evE cs call e Γ g).bind fun y g => (match x, y with
        | .int a, .int b => .ok (.nx (Γ.set i (.val (.int (a + b))))) g
        | _, _ => .st)
      | _ => .st
  | .ret e, Γ, g => (evE cs call e Γ g).bind fun x g => .ok (.rt x) g
  | .ife c a b, Γ, g => (blR (evE cs call c Γ g)).bind fun k g => if k then evB a Γ g else evB b Γ g
  | .for_ t it b, Γ, g => (evI cs call it Γ g).bind fun xs g => forR (fun x Γ g => (lift (setT t x Γ) g).bind fun Γ' g => evB b Γ' g) xs Γ g
  | .whl n c b, Γ, g => whlR (fun Γ g => blR (evE cs call c Γ g)) (fun Γ g => evB b Γ g) n Γ g
  | .app i e, Γ, g => match Γ[i]? with
      | some (.own (.lst xs)) => (evE cs call e Γ g).bind fun y g => if xs.length < 1000000 then .ok (.nx (Γ.set i (.own (.lst (xs ++ [y]))))) g else .st
      | _ => .st
  | .sto i a b, Γ, g => (evE cs call b Γ g).bind fun y g => match Γ[i]? with
      | some (.own (.lst xs)) => (evE cs call a Γ g).bind fun k g => (match k with
        | .int k => (match ixD xs.length k with
          | some j => .ok (.nx (Γ.set i (.own (.lst (xs.set j y))))) g
          | none => .st)
        | _ => .st)
      | some (.own (.dct ks vs)) => (evE cs call a Γ g).bind fun k g => if okK k && decide (ks.length < 1000000) then .ok (.nx (Γ.set i (.own (putD ks vs k y)))) g else .st
      | _ => .st
  | .pop t i, Γ, g => match Γ[i]? with
      | some (.own (.lst xs)) => (match xs[xs.length - 1]? with
        | some x => (lift (setT t x (Γ.set i (.own (.lst xs.dropLast)))) g).bind fun Γ' g => .ok (.nx Γ') g
        | none => .st)
      | _ => .st
  | .ext i e, Γ, g => match Γ[i]? with
      | some (.own (.lst xs)) => (evE cs call e Γ g).bind fun y g => (match y with
        | .lst ys => if xs.length + ys.length ≤ 1000000 then .ok (.nx (Γ.set i (.own (.lst (xs ++ ys))))) g else .st
        | _ => .st)
      | _ => .st
  | .frz i, Γ, g => match Γ[i]? with
      | some (.own d) => .ok (.nx (Γ.set i (.val d))) g
      | _ => .ok (.nx Γ) g
  | .stop, _, _ => .st
  | .pass, Γ, g => .ok (.nx Γ) g
  | .rais c as, Γ, g => (evA cs call as Γ g).bind fun ds g => .ex c ds g
def evB : B → Gm → G → R Fl
  | .nil, Γ, g => .ok (.nx Γ) g
  | .cons s b, Γ, g => (evS s Γ g).bind fun fl g => match fl with
    | .nx Γ' => evB b Γ' g
    | .rt d => .ok (.rt d) g
end
end

def startG (n : Nat) (ds : List D) : Gm := ds.map .val ++ List.replicate (n - ds.length) .no
def endR (r : R Fl) : R D := r.bind fun fl g => match fl with
  | .nx _ => .ok .non g
  | .rt d => .ok d g
def den (p : Pr) : Nat → Nat → List D → G → R D
  | 0, _, _, _ => .st
  | k + 1, f, ds, g => match p.ds.lookup f with
    | none => .st
    | some df => if ds.length = df.np ∧ df.np ≤ df.nn then endR (evB p.cs (den p k) df.body (startG df.nn ds) g) else .st
end Bk

set_option Elab.async false
set_option linter.all false
namespace Bk
open PySem
/-! ### the compact program -/
def FUEL : Nat := 10 ^ 200
abbrev tbSaid : List (Nat × Str) := [(0, "hall"), (1, "rule"), (2, "call"), (3, "number"), (4, "plan"), (5, "share"), (6, "log"), (7, "paper"), (8, "text"), (9, "great")]
def n__law_like : List Str := ["_law_answer", "_law_due"]
def b__law_like : B := (.cons (.ret (.cmp .eq (.bi .repr (.cons (.var 0) .nil)) (.bi .repr (.cons (.var 1) .nil)))) .nil)
abbrev f__law_like : Nat × Df := (17, ⟨2, 2, b__law_like⟩)
def n__law_plan : List Str := ["_law_m", "_law_fares_here", "_law_most", "_law_fares_so", "_law_whole", "_law_one"]
def b__law_plan : B := (.cons (.asg (.tup [(.var 3), (.var 4)]) (.tup (.cons (.call 1 (.cons (.var 0) (.cons (.var 1) .nil))) (.cons (.bin .add (.cst (.int 1)) (.draw (.var 0) (.var 2))) .nil)))) (.cons (.ret (.tup (.cons (.var 3) (.cons (.var 4) (.cons (.bi .tuple (.cons (.bi .sorted (.cons (.lc (.draw (.var 0) (.bin .add (.var 4) (.cst (.int 1)))) (.var 5) (.seq (.var 3)) none) .nil)) .nil)) .nil))))) .nil))
abbrev f__law_plan : Nat × Df := (0, ⟨3, 6, b__law_plan⟩)
def n__law_long : List Str := ["_law_plan_so", "_law_found", "_law_k", "_law_near", "_law_far"]
def b__law_long : B := (.cons (.asg (.var 1) (.tup (.cons (.cst (.int 1)) (.cons (.cst (.int 1)) .nil)))) (.cons (.for_ (.var 2) (.rng1 (.bi .len (.cons (.idx (.var 0) (.cst (.int 0))) .nil))) (.cons (.par [(3, false), (4, false)] (.cons (.call 26 (.cons (.idx (.var 0) (.cst (.int 0))) (.cons (.idx (.var 0) (.cst (.int 2))) (.cons (.var 2) .nil)))) (.cons (.bin .mul (.idx (.var 0) (.cst (.int 1))) (.idx (.idx (.var 0) (.cst (.int 0))) (.var 2))) .nil))) (.cons (.ife (.cmp .lt (.bin .mul (.var 3) (.idx (.var 1) (.cst (.int 1)))) (.bin .mul (.idx (.var 1) (.cst (.int 0))) (.var 4))) (.cons (.asg (.var 1) (.call 27 (.cons (.var 3) (.cons (.var 4) .nil)))) .nil) .nil) .nil))) (.cons (.ret (.var 1)) .nil)))
abbrev f__law_long : Nat × Df := (25, ⟨1, 5, b__law_long⟩)
def n_seats_from : List Str := ["plan", "share", "last", "rest", "line", "number"]
def b_seats_from : B := (.cons (.expr (.call 29 (.cons (.var 0) .nil))) (.cons (.ife (.not (.call 30 (.cons (.var 1) .nil))) (.cons (.rais 5 (.cons (.var 1) .nil)) .nil) .nil) (.cons (.asg (.var 2) (.cst (.int 0))) (.cons (.for_ (.var 3) (.rng1 (.idx (.var 0) (.cst (.int 1)))) (.cons (.for_ (.var 4) (.seq (.call 31 (.cons (.var 0) (.cons (.var 1) (.cons (.var 3) .nil))))) (.cons (.asg (.var 5) (.call 32 (.cons (.var 4) .nil))) (.cons (.ife (.cmp .isN (.var 5) (.cst .non)) (.cons (.ret (.cst .non)) .nil) .nil) (.cons (.asg (.var 2) (.bi .max2 (.cons (.var 2) (.cons (.ife (.cmp .ge (.var 5) (.cst (.int 0))) (.bin .add (.bin .mul (.var 5) (.idx (.var 0) (.cst (.int 1)))) (.var 3)) (.cst (.int 0))) .nil)))) .nil)))) .nil)) (.cons (.ret (.bin .add (.var 2) (.cst (.int 1)))) .nil)))))
abbrev f_seats_from : Nat × Df := (28, ⟨2, 6, b_seats_from⟩)
def n__law_of : List Str := ["_law_m", "_law_some"]
def b__law_of : B := (.cons (.ret (.idx (.var 1) (.draw (.var 0) (.bi .len (.cons (.var 1) .nil))))) .nil)
abbrev f__law_of : Nat × Df := (9, ⟨2, 2, b__law_of⟩)
def n__law_least : List Str := ["_law_part", "_law_of_here", "_law_one", "_law_two"]
def b__law_least : B := (.cons (.par [(2, false), (3, false)] (.cons (.var 0) (.cons (.var 1) .nil))) (.cons (.whl FUEL (.cmp .ne (.var 3) (.cst (.int 0))) (.cons (.par [(2, false), (3, false)] (.cons (.var 3) (.cons (.bin .mod (.bi .int (.cons (.var 2) .nil)) (.var 3)) .nil))) .nil)) (.cons (.ret (.tup (.cons (.bin .div (.var 0) (.var 2)) (.cons (.bin .div (.var 1) (.var 2)) .nil)))) .nil)))
abbrev f__law_least : Nat × Df := (27, ⟨2, 4, b__law_least⟩)
def n_long_share : List Str := ["plan"]
def b_long_share : B := (.cons (.ret (.call 16 (.cons (.call 6 (.cons (.var 0) .nil)) .nil))) .nil)
abbrev f_long_share : Nat × Df := (15, ⟨1, 1, b_long_share⟩)
def n__law_from_right : List Str := ["_law_plan_so", "_law_share_so", "_law_many", "_law_spot"]
def b__law_from_right : B := (.cons (.ife (.cmp .isN (.var 2) (.cst .non)) (.cons (.ret (.call 34 (.cons (.var 0) (.cons (.var 1) .nil)))) .nil) .nil) (.cons (.ife (.or (.not (.isi (.var 2) [.int])) (.or (.cmp .lt (.var 2) (.cst (.int 1))) (.call 34 (.cons (.var 0) (.cons (.var 1) .nil))))) (.cons (.ret (.cst (.bl false))) .nil) .nil) (.cons (.ife (.and (.cmp .gt (.var 2) (.cst (.int 1))) (.cmp .ge (.bi .min (.cons (.call 35 (.cons (.var 0) (.cons (.var 1) (.cons (.bin .sub (.var 2) (.cst (.int 1))) .nil)))) .nil)) (.cst (.int 0)))) (.cons (.ret (.cst (.bl false))) .nil) .nil) (.cons (.for_ (.var 3) (.rng1 (.idx (.var 0) (.cst (.int 1)))) (.cons (.ife (.cmp .lt (.bi .min (.cons (.call 35 (.cons (.var 0) (.cons (.var 1) (.cons (.bin .add (.var 2) (.var 3)) .nil)))) .nil)) (.cst (.int 0))) (.cons (.ret (.cst (.bl false))) .nil) .nil) .nil)) (.cons (.ret (.cst (.bl true))) .nil)))))
abbrev f__law_from_right : Nat × Df := (33, ⟨3, 4, b__law_from_right⟩)
def n_share_of : List Str := ["plan", "seats", "gains", "gain", "fare"]
def b_share_of : B := (.cons (.expr (.call 6 (.cons (.var 0) .nil))) (.cons (.expr (.call 7 (.cons (.var 1) .nil))) (.cons (.asg (.var 2) (.call 11 (.cons (.idx (.var 0) (.cst (.int 0))) (.cons (.call 12 (.cons (.var 0) (.cons (.var 1) .nil))) .nil)))) (.cons (.ret (.call 13 (.cons (.lc (.tup (.cons (.var 3) (.cons (.bin .mul (.var 1) (.var 4)) .nil))) (.tup [(.var 3), (.var 4)]) (.zip (.var 2) (.idx (.var 0) (.cst (.int 0)))) none) .nil))) .nil))))
abbrev f_share_of : Nat × Df := (10, ⟨2, 5, b_share_of⟩)
def n__law_fares : List Str := ["_law_m", "_law_most", "_law_k", "_law_found", "_law_last"]
def b__law_fares : B := (.cons (.asg (.tup [(.var 3), (.var 4)]) (.tup (.cons (.tup .nil) (.cons (.cst (.int 0)) .nil)))) (.cons (.for_ (.var 2) (.rng1 (.bin .add (.cst (.int 1)) (.draw (.var 0) (.var 1)))) (.cons (.asg (.var 4) (.bin .add (.bin .add (.var 4) (.cst (.int 1))) (.draw (.var 0) (.idx (.lst (.cons (.cst (.int 3)) (.cons (.cst (.int 24)) .nil))) (.draw (.var 0) (.cst (.int 2))))))) (.cons (.asg (.var 3) (.bin .add (.var 3) (.tup (.cons (.var 4) .nil)))) .nil))) (.cons (.ret (.var 3)) .nil)))
abbrev f__law_fares : Nat × Df := (1, ⟨2, 5, b__law_fares⟩)
def n__law_gain : List Str := ["_law_fares_so", "_law_limits_here", "_law_k", "_law_found", "_law_j"]
def b__law_gain : B := (.cons (.asg (.var 3) (.bin .mul (.idx (.var 0) (.cst (.int 0))) (.idx (.var 1) (.cst (.int 0))))) (.cons (.for_ (.var 4) (.rng2 (.cst (.int 1)) (.bin .add (.var 2) (.cst (.int 1)))) (.cons (.asg (.var 3) (.bin .add (.var 3) (.bin .mul (.idx (.var 0) (.var 4)) (.bin .sub (.idx (.var 1) (.var 4)) (.idx (.var 1) (.bin .sub (.var 4) (.cst (.int 1)))))))) .nil)) (.cons (.ret (.var 3)) .nil)))
abbrev f__law_gain : Nat × Df := (26, ⟨3, 5, b__law_gain⟩)
def n_need_few : List Str := ["plan"]
def b_need_few : B := (.cons (.ife (.cmp .gt (.idx (.call 6 (.cons (.var 0) .nil)) (.cst (.int 1))) (.glb 4)) (.cons (.rais 9 (.cons (.glb 4) .nil)) .nil) .nil) (.cons (.ret (.var 0)) .nil))
abbrev f_need_few : Nat × Df := (29, ⟨1, 1, b_need_few⟩)
def n_is_share : List Str := ["value"]
def b_is_share : B := (.cons (.ife (.or (.not (.isi (.var 0) [.tuple])) (.or (.cmp .ne (.bi .len (.cons (.var 0) .nil)) (.cst (.int 2))) (.not (.call 21 (.cons (.idx (.var 0) (.cst (.int 1))) (.cons (.cst (.int 1)) (.cons (.glb 1) .nil))))))) (.cons (.ret (.cst (.bl false))) .nil) .nil) (.cons (.ret (.and (.call 21 (.cons (.idx (.var 0) (.cst (.int 0))) (.cons (.cst (.int 0)) (.cons (.idx (.var 0) (.cst (.int 1))) .nil)))) (.cmp .eq (.call 4 (.cons (.idx (.var 0) (.cst (.int 0))) (.cons (.idx (.var 0) (.cst (.int 1))) .nil))) (.cst (.int 1))))) .nil))
abbrev f_is_share : Nat × Df := (30, ⟨1, 1, b_is_share⟩)
def n_surplus_lines : List Str := ["plan", "share", "rest", "found", "seats", "gains", "near", "far", "gain", "fare"]
def b_surplus_lines : B := (.cons (.own 3 (.lst .nil)) (.cons (.for_ (.var 4) (.seq (.tup (.cons (.var 2) (.cons (.bin .add (.var 2) (.idx (.var 0) (.cst (.int 1)))) .nil)))) (.cons (.asg (.var 5) (.call 11 (.cons (.idx (.var 0) (.cst (.int 0))) (.cons (.call 12 (.cons (.var 0) (.cons (.var 4) .nil))) .nil)))) (.cons (.app 3 (.lc (.bin .sub (.bin .mul (.var 8) (.idx (.var 1) (.cst (.int 1)))) (.bin .mul (.bin .mul (.idx (.var 1) (.cst (.int 0))) (.var 4)) (.var 9))) (.tup [(.var 8), (.var 9)]) (.zip (.var 5) (.idx (.var 0) (.cst (.int 0)))) none)) .nil))) (.cons (.frz 3) (.cons (.ret (.lc (.tup (.cons (.bin .sub (.var 7) (.var 6)) (.cons (.var 6) .nil))) (.tup [(.var 6), (.var 7)]) (.zip (.idx (.var 3) (.cst (.int 0))) (.idx (.var 3) (.cst (.int 1)))) none)) .nil))))
abbrev f_surplus_lines : Nat × Df := (31, ⟨3, 10, b_surplus_lines⟩)
def n_last_below : List Str := ["line", "slope", "base"]
def b_last_below : B := (.cons (.asg (.tup [(.var 1), (.var 2)]) (.var 0)) (.cons (.ife (.or (.cmp .lt (.var 1) (.cst (.int 0))) (.and (.cmp .eq (.var 1) (.cst (.int 0))) (.cmp .lt (.var 2) (.cst (.int 0))))) (.cons (.ret (.cst .non)) .nil) .nil) (.cons (.ret (.ife (.cmp .ge (.var 2) (.cst (.int 0))) (.neg (.cst (.int 1))) (.bin .div (.bin .sub (.bin .sub (.cst (.int 0)) (.var 2)) (.cst (.int 1))) (.var 1)))) .nil)))
abbrev f_last_below : Nat × Df := (32, ⟨1, 3, b_last_below⟩)
def n_long_in : List Str := ["plan", "gains", "gain", "fare"]
def b_long_in : B := (.cons (.asg (.var 1) (.call 11 (.cons (.idx (.var 0) (.cst (.int 0))) (.cons (.idx (.var 0) (.cst (.int 2))) .nil)))) (.cons (.ret (.call 13 (.cons (.lc (.tup (.cons (.var 2) (.cons (.bin .mul (.idx (.var 0) (.cst (.int 1))) (.var 3)) .nil))) (.tup [(.var 2), (.var 3)]) (.zip (.var 1) (.idx (.var 0) (.cst (.int 0)))) none) .nil))) .nil))
abbrev f_long_in : Nat × Df := (16, ⟨1, 4, b_long_in⟩)
def n_need_plan : List Str := ["plan", "part"]
def b_need_plan : B := (.cons (.ife (.or (.not (.isi (.var 0) [.tuple])) (.cmp .ne (.bi .len (.cons (.var 0) .nil)) (.cst (.int 3)))) (.cons (.rais 4 (.cons (.cst (.str "form")) .nil)) .nil) .nil) (.cons (.expr (.call 20 (.cons (.idx (.var 0) (.cst (.int 0))) .nil))) (.cons (.ife (.not (.call 21 (.cons (.idx (.var 0) (.cst (.int 1))) (.cons (.cst (.int 1)) (.cons (.glb 0) .nil))))) (.cons (.rais 4 (.cons (.cst (.str "of")) .nil)) .nil) .nil) (.cons (.ife (.or (.not (.isi (.idx (.var 0) (.cst (.int 2))) [.tuple])) (.cmp .ne (.bi .len (.cons (.idx (.var 0) (.cst (.int 2))) .nil)) (.bi .len (.cons (.idx (.var 0) (.cst (.int 0))) .nil)))) (.cons (.rais 4 (.cons (.cst (.str "parts")) .nil)) .nil) .nil) (.cons (.ife (.or (.not (.bi .all (.cons (.lc (.call 21 (.cons (.var 1) (.cons (.cst (.int 0)) (.cons (.idx (.var 0) (.cst (.int 1))) .nil)))) (.var 1) (.seq (.idx (.var 0) (.cst (.int 2)))) none) .nil))) (.not (.call 22 (.cons (.idx (.var 0) (.cst (.int 2))) .nil)))) (.cons (.rais 4 (.cons (.cst (.str "parts")) .nil)) .nil) .nil) (.cons (.ret (.var 0)) .nil))))))
abbrev f_need_plan : Nat × Df := (6, ⟨1, 2, b_need_plan⟩)
def n__law_ever_falls : List Str := ["_law_plan_so", "_law_share_so", "_law_rest", "_law_begin", "_law_later", "_law_k"]
def b__law_ever_falls : B := (.cons (.for_ (.var 2) (.rng1 (.idx (.var 0) (.cst (.int 1)))) (.cons (.asg (.var 3) (.call 35 (.cons (.var 0) (.cons (.var 1) (.cons (.var 2) .nil))))) (.cons (.asg (.var 4) (.call 35 (.cons (.var 0) (.cons (.var 1) (.cons (.bin .add (.var 2) (.idx (.var 0) (.cst (.int 1)))) .nil))))) (.cons (.for_ (.var 5) (.rng1 (.bi .len (.cons (.var 3) .nil))) (.cons (.ife (.or (.cmp .lt (.idx (.var 4) (.var 5)) (.idx (.var 3) (.var 5))) (.and (.cmp .eq (.idx (.var 4) (.var 5)) (.idx (.var 3) (.var 5))) (.cmp .lt (.idx (.var 3) (.var 5)) (.cst (.int 0))))) (.cons (.ret (.cst (.bl true))) .nil) .nil) .nil)) .nil)))) (.cons (.ret (.cst (.bl false))) .nil))
abbrev f__law_ever_falls : Nat × Df := (34, ⟨2, 6, b__law_ever_falls⟩)
def n__law_surplus : List Str := ["_law_plan_so", "_law_share_so", "_law_many", "_law_k", "_law_limits_here", "_law_found", "_law_gain_here"]
def b__law_surplus : B := (.cons (.par [(4, false), (5, true)] (.cons (.call 36 (.cons (.var 0) (.cons (.var 2) .nil))) (.cons (.lst .nil) .nil))) (.cons (.for_ (.var 3) (.rng1 (.bi .len (.cons (.idx (.var 0) (.cst (.int 0))) .nil))) (.cons (.asg (.var 6) (.call 26 (.cons (.idx (.var 0) (.cst (.int 0))) (.cons (.var 4) (.cons (.var 3) .nil))))) (.cons (.app 5 (.bin .sub (.bin .mul (.var 6) (.idx (.var 1) (.cst (.int 1)))) (.bin .mul (.bin .mul (.idx (.var 1) (.cst (.int 0))) (.var 2)) (.idx (.idx (.var 0) (.cst (.int 0))) (.var 3))))) .nil))) (.cons (.frz 5) (.cons (.ret (.var 5)) .nil))))
abbrev f__law_surplus : Nat × Df := (35, ⟨3, 7, b__law_surplus⟩)
def n_need_room : List Str := ["seats"]
def b_need_room : B := (.cons (.ife (.not (.call 21 (.cons (.var 0) (.cons (.cst (.int 1)) (.cons (.glb 1) .nil))))) (.cons (.rais 3 (.cons (.var 0) .nil)) .nil) .nil) .nil)
abbrev f_need_room : Nat × Df := (7, ⟨1, 1, b_need_room⟩)
def n_gains_by : List Str := ["fares", "limits", "found", "ahead", "whole", "fare", "limit"]
def b_gains_by : B := (.cons (.par [(2, true), (3, false), (4, false)] (.cons (.lst .nil) (.cons (.cst (.int 0)) (.cons (.cst (.int 0)) .nil)))) (.cons (.for_ (.tup [(.var 5), (.var 6)]) (.zip (.var 0) (.var 1)) (.cons (.aug 4 (.bin .mul (.var 5) (.bin .sub (.var 6) (.var 3)))) (.cons (.asg (.var 3) (.var 6)) (.cons (.app 2 (.var 4)) .nil)))) (.cons (.frz 2) (.cons (.ret (.var 2)) .nil))))
abbrev f_gains_by : Nat × Df := (11, ⟨2, 7, b_gains_by⟩)
def n_lesser_share : List Str := ["pairs", "best", "one"]
def b_lesser_share : B := (.cons (.asg (.var 1) (.idx (.var 0) (.cst (.int 0)))) (.cons (.for_ (.var 2) (.seq (.sl (.var 0) (some (.cst (.int 1))) none)) (.cons (.ife (.cmp .lt (.bin .mul (.idx (.var 2) (.cst (.int 0))) (.idx (.var 1) (.cst (.int 1)))) (.bin .mul (.idx (.var 1) (.cst (.int 0))) (.idx (.var 2) (.cst (.int 1))))) (.cons (.asg (.var 1) (.var 2)) .nil) .nil) .nil)) (.cons (.ret (.call 23 (.cons (.idx (.var 1) (.cst (.int 0))) (.cons (.idx (.var 1) (.cst (.int 1))) .nil)))) .nil)))
abbrev f_lesser_share : Nat × Df := (13, ⟨1, 3, b_lesser_share⟩)
def n_limits_in : List Str := ["plan", "seats", "part"]
def b_limits_in : B := (.cons (.ret (.bi .tuple (.cons (.lc (.bin .div (.bin .mul (.var 2) (.var 1)) (.idx (.var 0) (.cst (.int 1)))) (.var 2) (.seq (.idx (.var 0) (.cst (.int 2)))) none) .nil))) .nil)
abbrev f_limits_in : Nat × Df := (12, ⟨2, 3, b_limits_in⟩)
def n_is_whole : List Str := ["value", "least", "most"]
def b_is_whole : B := (.cons (.ret (.and (.isi (.var 0) [.int]) (.and (.not (.isi (.var 0) [.bool])) (.chn .le .le (.var 1) (.var 0) (.var 2))))) .nil)
abbrev f_is_whole : Nat × Df := (21, ⟨3, 3, b_is_whole⟩)
def n_common : List Str := ["one", "other"]
def b_common : B := (.cons (.whl FUEL (.cmp .ne (.var 1) (.cst (.int 0))) (.cons (.par [(0, false), (1, false)] (.cons (.var 1) (.cons (.bin .mod (.bi .int (.cons (.var 0) .nil)) (.var 1)) .nil))) .nil)) (.cons (.ret (.var 0)) .nil))
abbrev f_common : Nat × Df := (4, ⟨2, 2, b_common⟩)
def n_need_fares : List Str := ["fares"]
def b_need_fares : B := (.cons (.ife (.not (.call 24 (.cons (.var 0) .nil))) (.cons (.rais 4 (.cons (.cst (.str "fares")) .nil)) .nil) .nil) (.cons (.ret (.var 0)) .nil))
abbrev f_need_fares : Nat × Df := (20, ⟨1, 1, b_need_fares⟩)
def n_are_rising : List Str := ["value", "one", "other"]
def b_are_rising : B := (.cons (.ret (.bi .all (.cons (.lc (.cmp .le (.var 1) (.var 2)) (.tup [(.var 1), (.var 2)]) (.zip (.var 0) (.sl (.var 0) (some (.cst (.int 1))) none)) none) .nil))) .nil)
abbrev f_are_rising : Nat × Df := (22, ⟨1, 3, b_are_rising⟩)
def n__law_limits : List Str := ["_law_plan_so", "_law_many", "_law_found", "_law_part"]
def b__law_limits : B := (.cons (.asg (.var 2) (.tup .nil)) (.cons (.for_ (.var 3) (.seq (.idx (.var 0) (.cst (.int 2)))) (.cons (.asg (.var 2) (.bin .add (.var 2) (.tup (.cons (.bin .div (.bi .int (.cons (.bin .sub (.bin .mul (.var 3) (.var 1)) (.bin .mod (.bi .int (.cons (.bin .mul (.var 3) (.var 1)) .nil)) (.idx (.var 0) (.cst (.int 1))))) .nil)) (.idx (.var 0) (.cst (.int 1)))) .nil)))) .nil)) (.cons (.ret (.var 2)) .nil)))
abbrev f__law_limits : Nat × Df := (36, ⟨2, 4, b__law_limits⟩)
def n_fraction : List Str := ["one", "other", "divisor"]
def b_fraction : B := (.cons (.ife (.cmp .eq (.var 1) (.cst (.int 0))) (.cons (.ret (.tup (.cons (.cst (.int 1)) (.cons (.cst (.int 1)) .nil)))) .nil) .nil) (.cons (.asg (.var 2) (.call 4 (.cons (.var 0) (.cons (.var 1) .nil)))) (.cons (.ret (.tup (.cons (.bin .div (.var 0) (.var 2)) (.cons (.bin .div (.var 1) (.var 2)) .nil)))) .nil)))
abbrev f_fraction : Nat × Df := (23, ⟨2, 3, b_fraction⟩)
def n_are_fares : List Str := ["value", "fare", "one", "other"]
def b_are_fares : B := (.cons (.ife (.or (.not (.isi (.var 0) [.tuple])) (.not (.chn .le .le (.cst (.int 1)) (.bi .len (.cons (.var 0) .nil)) (.glb 2)))) (.cons (.ret (.cst (.bl false))) .nil) .nil) (.cons (.ife (.not (.bi .all (.cons (.lc (.call 21 (.cons (.var 1) (.cons (.cst (.int 1)) (.cons (.glb 3) .nil)))) (.var 1) (.seq (.var 0)) none) .nil))) (.cons (.ret (.cst (.bl false))) .nil) .nil) (.cons (.ret (.bi .all (.cons (.lc (.cmp .lt (.var 2) (.var 3)) (.tup [(.var 2), (.var 3)]) (.zip (.var 0) (.sl (.var 0) (some (.cst (.int 1))) none)) none) .nil))) .nil)))
abbrev f_are_fares : Nat × Df := (24, ⟨1, 4, b_are_fares⟩)
def n_regret_lines : List Str := ["plan", "rest"]
def b_regret_lines : B := (.cons (.expr (.call 29 (.cons (.var 0) .nil))) (.cons (.ret (.bi .tuple (.cons (.lc (.call 38 (.cons (.var 0) (.cons (.var 1) .nil))) (.var 1) (.rng1 (.idx (.var 0) (.cst (.int 1)))) none) .nil))) .nil))
abbrev f_regret_lines : Nat × Df := (37, ⟨1, 2, b_regret_lines⟩)
def n__law_pieces_right : List Str := ["_law_m", "_law_plan_so", "_law_rest", "_law_pieces", "_law_k", "_law_far", "_law_last", "_law_spot", "_law_n", "_law_slope", "_law_base", "_law_before"]
def b__law_pieces_right : B := (.cons (.ife (.or (.cmp .eq (.var 3) (.tup .nil)) (.cmp .ne (.idx (.idx (.var 3) (.cst (.int 0))) (.cst (.int 0))) (.bi .int (.cons (.cmp .eq (.var 2) (.cst (.int 0))) .nil)))) (.cons (.ret (.cst (.bl false))) .nil) .nil) (.cons (.for_ (.var 4) (.rng1 (.bi .len (.cons (.var 3) .nil))) (.cons (.asg (.tup [(.var 8), (.var 9), (.var 10)]) (.idx (.var 3) (.var 4))) (.cons (.asg (.var 6) (.bin .add (.bin .add (.var 8) (.cst (.int 1))) (.draw (.var 0) (.bin .pow (.cst (.int 10)) (.cst (.int 9)))))) (.cons (.ife (.cmp .lt (.bin .add (.var 4) (.cst (.int 1))) (.bi .len (.cons (.var 3) .nil))) (.cons (.asg (.var 6) (.bin .sub (.idx (.idx (.var 3) (.bin .add (.var 4) (.cst (.int 1)))) (.cst (.int 0))) (.cst (.int 1)))) .nil) .nil) (.cons (.for_ (.var 7) (.seq (.tup (.cons (.var 8) (.cons (.var 6) (.cons (.bin .div (.bin .add (.var 8) (.var 6)) (.cst (.int 2))) .nil))))) (.cons (.ife (.cmp .ne (.bin .add (.bin .mul (.var 9) (.var 7)) (.var 10)) (.call 40 (.cons (.var 1) (.cons (.bin .add (.bin .mul (.var 7) (.idx (.var 1) (.cst (.int 1)))) (.var 2)) .nil)))) (.cons (.ret (.cst (.bl false))) .nil) .nil) .nil)) (.cons (.ife (.cmp .ne (.var 9) (.call 41 (.cons (.var 1) (.cons (.bin .add (.bin .mul (.var 8) (.idx (.var 1) (.cst (.int 1)))) (.var 2)) .nil)))) (.cons (.ret (.cst (.bl false))) .nil) .nil) (.cons (.ife (.cmp .gt (.var 4) (.cst (.int 0))) (.cons (.asg (.var 11) (.idx (.var 3) (.bin .sub (.var 4) (.cst (.int 1))))) (.cons (.ife (.cmp .ge (.bin .add (.bin .mul (.idx (.var 11) (.cst (.int 1))) (.var 8)) (.idx (.var 11) (.cst (.int 2)))) (.bin .add (.bin .mul (.var 9) (.var 8)) (.var 10))) (.cons (.ret (.cst (.bl false))) .nil) .nil) .nil)) .nil) .nil))))))) (.cons (.asg (.var 5) (.bin .add (.bin .mul (.bin .pow (.cst (.int 10)) (.cst (.int 20))) (.idx (.var 1) (.cst (.int 1)))) (.var 2))) (.cons (.asg (.tup [(.var 8), (.var 9), (.var 10)]) (.idx (.var 3) (.neg (.cst (.int 1))))) (.cons (.ife (.cmp .ne (.bin .add (.bin .mul (.var 9) (.bin .pow (.cst (.int 10)) (.cst (.int 20)))) (.var 10)) (.call 40 (.cons (.var 1) (.cons (.var 5) .nil)))) (.cons (.ret (.cst (.bl false))) .nil) .nil) (.cons (.ret (.cmp .eq (.var 9) (.call 41 (.cons (.var 1) (.cons (.var 5) .nil))))) .nil))))))
abbrev f__law_pieces_right : Nat × Df := (39, ⟨4, 12, b__law_pieces_right⟩)
def n_regret_of : List Str := ["plan", "seats"]
def b_regret_of : B := (.cons (.expr (.call 6 (.cons (.var 0) .nil))) (.cons (.expr (.call 7 (.cons (.var 1) .nil))) (.cons (.ret (.bi .max (.cons (.call 8 (.cons (.var 0) (.cons (.var 1) .nil))) .nil))) .nil)))
abbrev f_regret_of : Nat × Df := (5, ⟨2, 2, b_regret_of⟩)
def n__law_regret : List Str := ["_law_plan_so", "_law_many", "_law_k", "_law_limits_here", "_law_found"]
def b__law_regret : B := (.cons (.par [(3, false), (4, false)] (.cons (.call 36 (.cons (.var 0) (.cons (.var 1) .nil))) (.cons (.cst (.int 0)) .nil))) (.cons (.for_ (.var 2) (.rng1 (.bi .len (.cons (.idx (.var 0) (.cst (.int 0))) .nil))) (.cons (.asg (.var 4) (.bi .max2 (.cons (.var 4) (.cons (.bin .sub (.bin .mul (.var 1) (.idx (.idx (.var 0) (.cst (.int 0))) (.var 2))) (.call 26 (.cons (.idx (.var 0) (.cst (.int 0))) (.cons (.var 3) (.cons (.var 2) .nil))))) .nil)))) .nil)) (.cons (.ret (.var 4)) .nil)))
abbrev f__law_regret : Nat × Df := (40, ⟨2, 5, b__law_regret⟩)
def n_pieces_at : List Str := ["plan", "rest", "found", "lines", "number", "here"]
def b_pieces_at : B := (.cons (.par [(3, false), (4, false)] (.cons (.call 42 (.cons (.var 0) (.cons (.var 1) .nil))) (.cons (.ife (.cmp .gt (.var 1) (.cst (.int 0))) (.cst (.int 0)) (.cst (.int 1))) .nil))) (.cons (.own 2 (.lst .nil)) (.cons (.whl FUEL (.cmp .notN (.var 4) (.cst .non)) (.cons (.asg (.var 5) (.call 43 (.cons (.var 3) (.cons (.var 4) .nil)))) (.cons (.app 2 (.tup (.cons (.var 4) (.cons (.idx (.var 5) (.cst (.int 0))) (.cons (.idx (.var 5) (.cst (.int 1))) .nil))))) (.cons (.asg (.var 4) (.call 44 (.cons (.var 3) (.cons (.var 5) (.cons (.var 4) .nil))))) .nil)))) (.cons (.frz 2) (.cons (.ret (.bi .tuple (.cons (.var 2) .nil))) .nil)))))
abbrev f_pieces_at : Nat × Df := (38, ⟨2, 6, b_pieces_at⟩)
def n__law_steepest : List Str := ["_law_plan_so", "_law_many", "_law_k", "_law_whole", "_law_found", "_law_values", "_law_here", "_law_limits_here"]
def b__law_steepest : B := (.cons (.par [(3, false), (4, true)] (.cons (.call 40 (.cons (.var 0) (.cons (.var 1) .nil))) (.cons (.lst .nil) .nil))) (.cons (.for_ (.var 2) (.rng1 (.bi .len (.cons (.idx (.var 0) (.cst (.int 0))) .nil))) (.cons (.own 5 (.lst .nil)) (.cons (.for_ (.var 6) (.seq (.tup (.cons (.var 1) (.cons (.bin .add (.var 1) (.idx (.var 0) (.cst (.int 1)))) .nil)))) (.cons (.asg (.var 7) (.call 36 (.cons (.var 0) (.cons (.var 6) .nil)))) (.cons (.app 5 (.bin .sub (.bin .mul (.var 6) (.idx (.idx (.var 0) (.cst (.int 0))) (.var 2))) (.call 26 (.cons (.idx (.var 0) (.cst (.int 0))) (.cons (.var 7) (.cons (.var 2) .nil)))))) .nil))) (.cons (.frz 5) (.cons (.ife (.cmp .eq (.idx (.var 5) (.cst (.int 0))) (.var 3)) (.cons (.frz 5) (.cons (.app 4 (.bin .sub (.idx (.var 5) (.cst (.int 1))) (.idx (.var 5) (.cst (.int 0))))) .nil)) .nil) .nil))))) (.cons (.frz 4) (.cons (.ret (.bi .max (.cons (.var 4) .nil))) .nil))))
abbrev f__law_steepest : Nat × Df := (41, ⟨2, 8, b__law_steepest⟩)
def n_regrets_at : List Str := ["plan", "seats", "gains", "fare", "gain"]
def b_regrets_at : B := (.cons (.asg (.var 2) (.call 11 (.cons (.idx (.var 0) (.cst (.int 0))) (.cons (.call 12 (.cons (.var 0) (.cons (.var 1) .nil))) .nil)))) (.cons (.ret (.lc (.bin .sub (.bin .mul (.var 1) (.var 3)) (.var 4)) (.tup [(.var 3), (.var 4)]) (.zip (.idx (.var 0) (.cst (.int 0))) (.var 2)) none)) .nil))
abbrev f_regrets_at : Nat × Df := (8, ⟨2, 5, b_regrets_at⟩)
def n_lines_at : List Str := ["plan", "rest", "begin", "later", "near", "far"]
def b_lines_at : B := (.cons (.par [(2, false), (3, false)] (.cons (.call 8 (.cons (.var 0) (.cons (.var 1) .nil))) (.cons (.call 8 (.cons (.var 0) (.cons (.bin .add (.var 1) (.idx (.var 0) (.cst (.int 1)))) .nil))) .nil))) (.cons (.ret (.lc (.tup (.cons (.bin .sub (.var 5) (.var 4)) (.cons (.var 4) .nil))) (.tup [(.var 4), (.var 5)]) (.zip (.var 2) (.var 3)) none)) .nil))
abbrev f_lines_at : Nat × Df := (42, ⟨2, 6, b_lines_at⟩)
def n_best_line : List Str := ["lines", "number", "line"]
def b_best_line : B := (.cons (.ret (.idx (.bi .maxd (.cons (.lc (.tup (.cons (.call 45 (.cons (.var 2) (.cons (.var 1) .nil))) (.cons (.idx (.var 2) (.cst (.int 0))) (.cons (.var 2) .nil)))) (.var 2) (.seq (.var 0)) none) .nil)) (.cst (.int 2)))) .nil)
abbrev f_best_line : Nat × Df := (43, ⟨2, 3, b_best_line⟩)
def n_next_turn : List Str := ["lines", "here", "number", "found", "slope", "base", "turn"]
def b_next_turn : B := (.cons (.asg (.var 3) (.cst .non)) (.cons (.for_ (.tup [(.var 4), (.var 5)]) (.seq (.var 0)) (.cons (.ife (.cmp .gt (.var 4) (.idx (.var 1) (.cst (.int 0)))) (.cons (.asg (.var 6) (.bi .max2 (.cons (.bin .add (.var 2) (.cst (.int 1))) (.cons (.bin .add (.bin .div (.bin .sub (.idx (.var 1) (.cst (.int 1))) (.var 5)) (.bin .sub (.var 4) (.idx (.var 1) (.cst (.int 0))))) (.cst (.int 1))) .nil)))) (.cons (.asg (.var 3) (.ife (.cmp .isN (.var 3) (.cst .non)) (.var 6) (.bi .min2 (.cons (.var 3) (.cons (.var 6) .nil))))) .nil)) .nil) .nil)) (.cons (.ret (.var 3)) .nil)))
abbrev f_next_turn : Nat × Df := (44, ⟨3, 7, b_next_turn⟩)
def n_value_at : List Str := ["line", "number"]
def b_value_at : B := (.cons (.ret (.bin .add (.bin .mul (.idx (.var 0) (.cst (.int 0))) (.var 1)) (.idx (.var 0) (.cst (.int 1))))) .nil)
abbrev f_value_at : Nat × Df := (45, ⟨2, 2, b_value_at⟩)
def n__law_best_of : List Str := ["_law_fares_so", "_law_k", "_law_part", "_law_of"]
def b__law_best_of : B := (.cons (.par [(2, false), (3, false)] (.cons (.bi .len (.cons (.var 0) .nil)) (.cons (.cst (.int 1)) .nil))) (.cons (.for_ (.var 1) (.rng2 (.cst (.int 1)) (.bi .len (.cons (.var 0) .nil))) (.cons (.asg (.var 2) (.bin .sub (.bin .mul (.var 2) (.idx (.var 0) (.var 1))) (.bin .mul (.idx (.var 0) (.bin .sub (.var 1) (.cst (.int 1)))) (.var 3)))) (.cons (.asg (.var 3) (.bin .mul (.var 3) (.idx (.var 0) (.var 1)))) .nil))) (.cons (.ret (.call 390 (.cons (.var 3) (.cons (.var 2) .nil)))) .nil)))
abbrev f__law_best_of : Nat × Df := (389, ⟨1, 4, b__law_best_of⟩)
def n__law_value : List Str := ["_law_fares_so", "_law_bar_so", "_law_tops", "_law_k"]
def b__law_value : B := (.cons (.asg (.var 2) (.lc (.bin .mul (.idx (.var 0) (.var 3)) (.bi .sum (.cons (.sl (.var 1) (some (.var 3)) none) .nil))) (.var 3) (.rng1 (.bi .len (.cons (.var 0) .nil))) none)) (.cons (.ret (.call 390 (.cons (.bi .max (.cons (.var 2) .nil)) (.cons (.bi .sum (.cons (.lc (.bin .mul (.idx (.var 0) (.var 3)) (.idx (.var 1) (.var 3))) (.var 3) (.rng1 (.bi .len (.cons (.var 0) .nil))) none) .nil)) .nil)))) .nil))
abbrev f__law_value : Nat × Df := (391, ⟨2, 4, b__law_value⟩)
def n_best_share : List Str := ["fares"]
def b_best_share : B := (.cons (.ret (.call 18 (.cons (.call 20 (.cons (.var 0) .nil)) (.cons (.call 19 (.cons (.var 0) .nil)) .nil)))) .nil)
abbrev f_best_share : Nat × Df := (3, ⟨1, 1, b_best_share⟩)
def n_best_plan : List Str := ["fares", "times", "fare", "divisor", "one", "part", "whole", "found", "last", "near", "far"]
def b_best_plan : B := (.cons (.asg (.tup [(.var 5), (.var 6)]) (.call 3 (.cons (.var 0) .nil))) (.cons (.asg (.var 1) (.cst (.int 1))) (.cons (.for_ (.var 2) (.seq (.sl (.var 0) (some (.cst (.int 1))) none)) (.cons (.asg (.var 1) (.bin .mul (.var 1) (.var 2))) .nil)) (.cons (.par [(7, true), (8, false)] (.cons (.lst (.cons (.bin .mul (.var 5) (.var 1)) .nil)) (.cons (.bin .mul (.var 5) (.var 1)) .nil))) (.cons (.for_ (.tup [(.var 9), (.var 10)]) (.zip (.var 0) (.sl (.var 0) (some (.cst (.int 1))) none)) (.cons (.aug 8 (.bin .mul (.bin .div (.bin .mul (.var 5) (.var 1)) (.var 10)) (.bin .sub (.var 10) (.var 9)))) (.cons (.app 7 (.var 8)) .nil))) (.cons (.asg (.var 3) (.bin .mul (.var 6) (.var 1))) (.cons (.frz 7) (.cons (.for_ (.var 4) (.seq (.var 7)) (.cons (.asg (.var 3) (.call 4 (.cons (.var 3) (.cons (.var 4) .nil)))) .nil)) (.cons (.frz 7) (.cons (.ret (.tup (.cons (.var 0) (.cons (.bin .div (.bin .mul (.var 6) (.var 1)) (.var 3)) (.cons (.bi .tuple (.cons (.lc (.bin .div (.var 4) (.var 3)) (.var 4) (.seq (.var 7)) none) .nil)) .nil))))) .nil))))))))))
abbrev f_best_plan : Nat × Df := (2, ⟨1, 11, b_best_plan⟩)
def n_check_bar : List Str := ["fares", "bar", "weight"]
def b_check_bar : B := (.cons (.expr (.call 20 (.cons (.var 0) .nil))) (.cons (.ife (.or (.not (.isi (.var 1) [.tuple])) (.cmp .ne (.bi .len (.cons (.var 1) .nil)) (.bi .len (.cons (.var 0) .nil)))) (.cons (.rais 7 (.cons (.cst (.str "bar")) .nil)) .nil) .nil) (.cons (.ife (.or (.not (.bi .all (.cons (.lc (.call 21 (.cons (.var 2) (.cons (.cst (.int 0)) (.cons (.glb 1) .nil)))) (.var 2) (.seq (.var 1)) none) .nil))) (.cmp .eq (.bi .sum (.cons (.var 1) .nil)) (.cst (.int 0)))) (.cons (.rais 7 (.cons (.cst (.str "bar")) .nil)) .nil) .nil) (.cons (.ret (.call 18 (.cons (.var 0) (.cons (.var 1) .nil)))) .nil))))
abbrev f_check_bar : Nat × Df := (100, ⟨2, 3, b_check_bar⟩)
def n_share_bar : List Str := ["fares"]
def b_share_bar : B := (.cons (.ret (.bi .tuple (.cons (.call 19 (.cons (.call 20 (.cons (.var 0) .nil)) .nil)) .nil))) .nil)
abbrev f_share_bar : Nat × Df := (99, ⟨1, 1, b_share_bar⟩)
def n__law_parts : List Str := ["_law_many", "_law_whole", "_law_rows", "_law_k", "_law_longer", "_law_row", "_law_least_here", "_law_one"]
def b__law_parts : B := (.cons (.asg (.var 2) (.lst (.cons (.tup .nil) .nil))) (.cons (.for_ (.var 3) (.rng1 (.var 0)) (.cons (.asg (.var 4) (.lst .nil)) (.cons (.for_ (.var 5) (.seq (.var 2)) (.cons (.asg (.var 6) (.ife (.cmp .ne (.var 5) (.tup .nil)) (.idx (.var 5) (.neg (.cst (.int 1)))) (.cst (.int 0)))) (.cons (.asg (.var 4) (.bin .add (.var 4) (.lc (.bin .add (.var 5) (.tup (.cons (.var 7) .nil))) (.var 7) (.rng2 (.var 6) (.bin .add (.var 1) (.cst (.int 1)))) none))) .nil))) (.cons (.asg (.var 2) (.var 4)) .nil)))) (.cons (.ret (.var 2)) .nil)))
abbrev f__law_parts : Nat × Df := (392, ⟨2, 8, b__law_parts⟩)
def n__law_is_above : List Str := ["_law_one", "_law_other"]
def b__law_is_above : B := (.cons (.ret (.cmp .gt (.bin .mul (.idx (.var 0) (.cst (.int 0))) (.idx (.var 1) (.cst (.int 1)))) (.bin .mul (.idx (.var 1) (.cst (.int 0))) (.idx (.var 0) (.cst (.int 1)))))) .nil)
abbrev f__law_is_above : Nat × Df := (393, ⟨2, 2, b__law_is_above⟩)
def n__law_least_390 : List Str := ["_law_part", "_law_of", "_law_one", "_law_two"]
def b__law_least_390 : B := (.cons (.par [(2, false), (3, false)] (.cons (.var 0) (.cons (.var 1) .nil))) (.cons (.whl FUEL (.cmp .ne (.var 3) (.cst (.int 0))) (.cons (.par [(2, false), (3, false)] (.cons (.var 3) (.cons (.bin .mod (.bi .int (.cons (.var 2) .nil)) (.var 3)) .nil))) .nil)) (.cons (.ret (.tup (.cons (.bin .div (.var 0) (.var 2)) (.cons (.bin .div (.var 1) (.var 2)) .nil)))) .nil)))
abbrev f__law_least_390 : Nat × Df := (390, ⟨2, 4, b__law_least_390⟩)
def n_bar_value : List Str := ["fares", "weights", "most", "number", "fare", "weight"]
def b_bar_value : B := (.cons (.asg (.var 2) (.bi .max (.cons (.lc (.bin .mul (.var 4) (.bi .sum (.cons (.sl (.var 1) (some (.var 3)) none) .nil))) (.tup [(.var 3), (.var 4)]) (.enum (.var 0)) none) .nil))) (.cons (.ret (.call 23 (.cons (.var 2) (.cons (.bi .sum (.cons (.lc (.bin .mul (.var 4) (.var 5)) (.tup [(.var 4), (.var 5)]) (.zip (.var 0) (.var 1)) none) .nil)) .nil)))) .nil))
abbrev f_bar_value : Nat × Df := (18, ⟨2, 6, b_bar_value⟩)
def n_weights_of : List Str := ["fares", "whole", "fare", "parts", "found", "divisor", "one", "other"]
def b_weights_of : B := (.cons (.asg (.var 1) (.cst (.int 1))) (.cons (.for_ (.var 2) (.seq (.var 0)) (.cons (.asg (.var 1) (.bin .mul (.var 1) (.var 2))) .nil)) (.cons (.asg (.var 3) (.bin .add (.lc (.bin .div (.var 1) (.var 2)) (.var 2) (.seq (.var 0)) none) (.lst (.cons (.cst (.int 0)) .nil)))) (.cons (.asg (.var 4) (.lc (.bin .sub (.var 6) (.var 7)) (.tup [(.var 6), (.var 7)]) (.zip (.var 3) (.sl (.var 3) (some (.cst (.int 1))) none)) none)) (.cons (.asg (.var 5) (.cst (.int 0))) (.cons (.for_ (.var 6) (.seq (.var 4)) (.cons (.asg (.var 5) (.ife (.cmp .gt (.var 5) (.cst (.int 0))) (.call 4 (.cons (.var 6) (.cons (.var 5) .nil))) (.var 6))) .nil)) (.cons (.ret (.lc (.bin .div (.var 6) (.var 5)) (.var 6) (.seq (.var 4)) none)) .nil)))))))
abbrev f_weights_of : Nat × Df := (19, ⟨1, 8, b_weights_of⟩)
def n_limits_of : List Str := ["plan", "seats"]
def b_limits_of : B := (.cons (.expr (.call 6 (.cons (.var 0) .nil))) (.cons (.expr (.call 7 (.cons (.var 1) .nil))) (.cons (.ret (.call 12 (.cons (.var 0) (.cons (.var 1) .nil)))) .nil)))
abbrev f_limits_of : Nat × Df := (14, ⟨2, 2, b_limits_of⟩)
end Bk

set_option Elab.async false
set_option linter.all false
namespace Pk
open PySem Bk
class HP (p : Bk.Pr) : Prop where
  c_MOST_OF : p.cs.lookup 0 = some (.int 1000000000)
  c_MOST_ROOM : p.cs.lookup 1 = some (.int 1000000000000000000000000000000)
  c_MOST_FARES : p.cs.lookup 2 = some (.int 4)
  c_MOST_FARE : p.cs.lookup 3 = some (.int 99)
  h_limits_of : p.ds.lookup 14 = some Bk.f_limits_of.2
  h_need_plan : p.ds.lookup 6 = some Bk.f_need_plan.2
  h_need_room : p.ds.lookup 7 = some Bk.f_need_room.2
  h_limits_in : p.ds.lookup 12 = some Bk.f_limits_in.2
  h_need_fares : p.ds.lookup 20 = some Bk.f_need_fares.2
  h_is_whole : p.ds.lookup 21 = some Bk.f_is_whole.2
  h_are_rising : p.ds.lookup 22 = some Bk.f_are_rising.2
  h_are_fares : p.ds.lookup 24 = some Bk.f_are_fares.2
  h_regret_of : p.ds.lookup 5 = some Bk.f_regret_of.2
  h_regrets_at : p.ds.lookup 8 = some Bk.f_regrets_at.2
  h_gains_by : p.ds.lookup 11 = some Bk.f_gains_by.2
  h_share_of : p.ds.lookup 10 = some Bk.f_share_of.2
  h_lesser_share : p.ds.lookup 13 = some Bk.f_lesser_share.2
  h_fraction : p.ds.lookup 23 = some Bk.f_fraction.2
  h_common : p.ds.lookup 4 = some Bk.f_common.2
  h_long_share : p.ds.lookup 15 = some Bk.f_long_share.2
  h_long_in : p.ds.lookup 16 = some Bk.f_long_in.2
  h__law_plan : p.ds.lookup 0 = some Bk.f__law_plan.2
  h__law_fares : p.ds.lookup 1 = some Bk.f__law_fares.2
  h__law_of : p.ds.lookup 9 = some Bk.f__law_of.2
end Pk

set_option Elab.async false
set_option linter.all false
set_option maxRecDepth 100000
/-! The evaluator, step by step. -/
namespace Pk
open PySem Bk
@[simp] theorem r_ok {α β : Type} (a : α) (g : G) (k : α → G → R β) : (R.ok a g).bind k = k a g := rfl
@[simp] theorem r_st {α β : Type} (k : α → G → R β) : (R.st : R α).bind k = .st := rfl
@[simp] theorem r_ex {α β : Type} (c : Nat) (ds : List D) (g : G) (k : α → G → R β) : (R.ex c ds g : R α).bind k = .ex c ds g := rfl
@[simp] theorem l_some {α : Type} (a : α) (g : G) : lift (some a) g = .ok a g := rfl
@[simp] theorem l_none {α : Type} (g : G) : lift (none : Option α) g = .st := rfl
@[simp] theorem b_ok (b : Bool) (g : G) : blR (.ok (.bl b) g) = .ok b g := rfl
@[simp] theorem e_ex (c : Nat) (ds : List D) (g : G) : endR (.ex c ds g) = .ex c ds g := rfl
@[simp] theorem k_ok (tb : List (Nat × Str)) (d : D) (g : G) : caughtR tb (.ok d g) = .ok (.lst [d]) g := rfl
@[simp] theorem e_nx (Γ : Gm) (g : G) : endR (.ok (.nx Γ) g) = .ok .non g := rfl
@[simp] theorem e_rt (d : D) (g : G) : endR (.ok (.rt d) g) = .ok d g := rfl
section
variable (cs : List (Nat × D)) (call : Nat → List D → G → R D) (Γ : Gm) (g : G)
@[simp] theorem x_cst (d : D) : evE cs call (.cst d) Γ g = .ok d g := by simp only [evE]
@[simp] theorem x_var (i : Nat) : evE cs call (.var i) Γ g = match Γ[i]? with | some (.val d) => .ok d g | _ => .st := by simp only [evE] <;> rfl
@[simp] theorem x_glb (i : Nat) : evE cs call (.glb i) Γ g = lift (cs.lookup i) g := by simp only [evE]
@[simp] theorem x_bin (o : Op) (a b : E) : evE cs call (.bin o a b) Γ g = (evE cs call a Γ g).bind fun x g => (evE cs call b Γ g).bind fun y g => lift (opD o x y) g := by simp only [evE]
@[simp] theorem x_neg (a : E) : evE cs call (.neg a) Γ g = (evE cs call a Γ g).bind fun x g => match x with | .int i => .ok (.int (-i)) g | _ => .st := by simp only [evE] <;> rfl
@[simp] theorem x_cmp (o : Cm) (a b : E) : evE cs call (.cmp o a b) Γ g = (evE cs call a Γ g).bind fun x g => (evE cs call b Γ g).bind fun y g => lift ((cmpD o x y).map .bl) g := by simp only [evE]
@[simp] theorem x_chn (o q : Cm) (a b c : E) : evE cs call (.chn o q a b c) Γ g = (evE cs call a Γ g).bind fun x g => (evE cs call b Γ g).bind fun y g => (lift (cmpD o x y) g).bind fun k g =>
      if k then (evE cs call c Γ g).bind fun z g => lift ((cmpD q y z).map .bl) g else .ok (.bl false) g := by simp only [evE]
@[simp] theorem x_and (a b : E) : evE cs call (.and a b) Γ g = (blR (evE cs call a Γ g)).bind fun k g => if k then (blR (evE cs call b Γ g)).bind fun j g => .ok (.bl j) g else .ok (.bl false) g := by simp only [evE]
@[simp] theorem x_or (a b : E) : evE cs call (.or a b) Γ g = (blR (evE cs call a Γ g)).bind fun k g => if k then .ok (.bl true) g else (blR (evE cs call b Γ g)).bind fun j g => .ok (.bl j) g := by simp only [evE]
@[simp] theorem x_not (a : E) : evE cs call (.not a) Γ g = (blR (evE cs call a Γ g)).bind fun k g => .ok (.bl (!k)) g := by simp only [evE]
@[simp] theorem x_ife (c a b : E) : evE cs call (.ife c a b) Γ g = (blR (evE cs call c Γ g)).bind fun k g => if k then evE cs call a Γ g else evE cs call b Γ g := by simp only [evE]
@[simp] theorem x_tup (as : A) : evE cs call (.tup as) Γ g = (evA cs call as Γ g).bind fun xs g => .ok (.tup xs) g := by simp only [evE]
@[simp] theorem x_lst (as : A) : evE cs call (.lst as) Γ g = (evA cs call as Γ g).bind fun xs g => .ok (.lst xs) g := by simp only [evE]
@[simp] theorem x_idx (a b : E) : evE cs call (.idx a b) Γ g = (evE cs call a Γ g).bind fun x g => (evE cs call b Γ g).bind fun y g => lift (idxD x y) g := by simp only [evE]
@[simp] theorem x_sl (a : E) (lo hi : Option E) : evE cs call (.sl a lo hi) Γ g = (evE cs call a Γ g).bind fun x g => (evO cs call lo Γ g).bind fun l g => (evO cs call hi Γ g).bind fun h g => lift (slD x l h) g := by simp only [evE]
@[simp] theorem x_call (f : Nat) (as : A) : evE cs call (.call f as) Γ g = (evA cs call as Γ g).bind fun xs g => call f xs g := by simp only [evE]
@[simp] theorem x_bi (b : Bi) (as : A) : evE cs call (.bi b as) Γ g = (evA cs call as Γ g).bind fun xs g => lift (biD b xs) g := by simp only [evE]
@[simp] theorem x_isi (a : E) (ts : List Ty) : evE cs call (.isi a ts) Γ g = (evE cs call a Γ g).bind fun x g => lift ((isiD ts x).map .bl) g := by simp only [evE]
@[simp] theorem x_draw (a b : E) : evE cs call (.draw a b) Γ g = (evE cs call a Γ g).bind fun x g => (evE cs call b Γ g).bind fun y g => match x, y with
      | .m, .int lim => if 0 < lim ∧ lim < 2 ^ 4000 ∧ g.spot < 2 ^ 60 then .ok (.int (g.draw lim).1) (g.draw lim).2 else .st
      | _, _ => .st := by simp only [evE] <;> rfl
@[simp] theorem x_cat (a b : E) : evE cs call (.cat a b) Γ g = (evE cs call a Γ g).bind fun x g => (evE cs call b Γ g).bind fun y g => match x, y with
      | .lst xs, .lst ys => if xs.length + ys.length ≤ 1000000 then .ok (.lst (xs ++ ys)) g else .st
      | _, _ => .st := by simp only [evE] <;> rfl
@[simp] theorem x_rev (a : E) : evE cs call (.rev a) Γ g = (evE cs call a Γ g).bind fun x g => match x with
      | .lst xs => .ok (.lst xs.reverse) g
      | _ => .st := by simp only [evE] <;> rfl
@[simp] theorem x_idxO (i : Nat) (b : E) : evE cs call (.idxO i b) Γ g = match Γ[i]? with
      | some (.own d) => (evE cs call b Γ g).bind fun y g => lift (idxD d y) g
      | _ => .st := by simp only [evE] <;> rfl
@[simp] theorem x_dnil : evE cs call .dnil Γ g = .ok (.dct [] []) g := by simp only [evE]
@[simp] theorem x_done (a b : E) : evE cs call (.done a b) Γ g = (evE cs call a Γ g).bind fun k g => (evE cs call b Γ g).bind fun v g => if okK k then .ok (.dct [k] [v]) g else .st := by simp only [evE]
@[simp] theorem x_inO (neg : Bool) (a : E) (i : Nat) : evE cs call (.inO neg a i) Γ g = (evE cs call a Γ g).bind fun k g => match Γ[i]? with
      | some (.own (.dct ks vs)) => if okK k then .ok (.bl (if neg then !(getK (keyD k) ks vs).isSome else (getK (keyD k) ks vs).isSome)) g else .st
      | _ => .st := by simp only [evE] <;> rfl
@[simp] theorem x_lenO (i : Nat) : evE cs call (.lenO i) Γ g = match Γ[i]? with
      | some (.own (.dct ks vs)) => if ks.length ≤ 1000000 then .ok (.int ks.length) g else .st
      | _ => .st := by simp only [evE] <;> rfl
@[simp] theorem x_lrng1 (a : E) : evE cs call (.lrng1 a) Γ g = (evE cs call a Γ g).bind fun x g => match x with | .int i => if -1000000 ≤ i ∧ i ≤ 1000000 then .ok (.lst (rngD 0 i.toNat)) g else .st | _ => .st := by simp only [evE] <;> rfl
@[simp] theorem x_lrng2 (a b : E) : evE cs call (.lrng2 a b) Γ g = (evE cs call a Γ g).bind fun x g => (evE cs call b Γ g).bind fun y g => match x, y with
      | .int i, .int j => if (-1000000 ≤ i ∧ i ≤ 1000000) ∧ -1000000 ≤ j ∧ j ≤ 1000000 then .ok (.lst (rngD i (j - i).toNat)) g else .st
      | _, _ => .st := by simp only [evE] <;> rfl
@[simp] theorem x_emO (neg : Bool) (i : Nat) : evE cs call (.emO neg i) Γ g = match Γ[i]? with
      | some (.own (.lst xs)) => .ok (.bl (if neg then !xs.isEmpty else xs.isEmpty)) g
      | _ => .st := by simp only [evE] <;> rfl
@[simp] theorem x_tupS (as : A) : evE cs call (.tupS as) Γ g = (evA cs call as Γ g).bind fun xs g => if xs.length ≤ 1000000 then .ok (.tup xs) g else .st := by simp only [evE]
@[simp] theorem x_lstS (as : A) : evE cs call (.lstS as) Γ g = (evA cs call as Γ g).bind fun xs g => if xs.length ≤ 1000000 then .ok (.lst xs) g else .st := by simp only [evE]
@[simp] theorem a_star (e : E) (as : A) : evA cs call (.star e as) Γ g = (evE cs call e Γ g).bind fun x g => match itemsD x with
      | some ys => (evA cs call as Γ g).bind fun xs g => .ok (ys ++ xs) g
      | none => .st := by simp only [evA] <;> rfl
@[simp] theorem s_sto' (i : Nat) (a b : E) : evS cs call (.sto i a b) Γ g = (evE cs call b Γ g).bind fun y g => match Γ[i]? with
      | some (.own (.lst xs)) => (evE cs call a Γ g).bind fun k g => (match k with
        | .int k => (match ixD xs.length k with
          | some j => .ok (.nx (Γ.set i (.own (.lst (xs.set j y))))) g
          | none => .st)
        | _ => .st)
      | some (.own (.dct ks vs)) => (evE cs call a Γ g).bind fun k g => if okK k && decide (ks.length < 1000000) then .ok (.nx (Γ.set i (.own (putD ks vs k y)))) g else .st
      | _ => .st := by simp only [evS] <;> rfl
@[simp] theorem s_pop' (t : T) (i : Nat) : evS cs call (.pop t i) Γ g = match Γ[i]? with
      | some (.own (.lst xs)) => (match xs[xs.length - 1]? with
        | some x => (lift (setT t x (Γ.set i (.own (.lst xs.dropLast)))) g).bind fun Γ' g => .ok (.nx Γ') g
        | none => .st)
      | _ => .st := by simp only [evS] <;> rfl
@[simp] theorem s_ext' (i : Nat) (e : E) : evS cs call (.ext i e) Γ g = match Γ[i]? with
      | some (.own (.lst xs)) => (evE cs call e Γ g).bind fun y g => (match y with
        | .lst ys => if xs.length + ys.length ≤ 1000000 then .ok (.nx (Γ.set i (.own (.lst (xs ++ ys))))) g else .st
        | _ => .st)
      | _ => .st := by simp only [evS] <;> rfl
theorem s_whl' (n : Nat) (c : E) (b : B) : evS cs call (.whl n c b) Γ g = whlR (fun Γ g => blR (evE cs call c Γ g)) (fun Γ g => evB cs call b Γ g) n Γ g := by simp only [evS]
@[simp] theorem i_rng2 (a b : E) : evI cs call (.rng2 a b) Γ g = (evE cs call a Γ g).bind fun x g => (evE cs call b Γ g).bind fun y g => match x, y with
      | .int i, .int j => if (-1000000 ≤ i ∧ i ≤ 1000000) ∧ -1000000 ≤ j ∧ j ≤ 1000000 then .ok (rngD i (j - i).toNat) g else .st
      | _, _ => .st := by simp only [evI] <;> rfl
@[simp] theorem o_none : evO cs call none Γ g = .ok none g := by simp only [evO]
@[simp] theorem o_some (e : E) : evO cs call (some e) Γ g = (evE cs call e Γ g).bind fun x g => match x with | .int i => .ok (some i) g | _ => .st := by simp only [evO] <;> rfl
@[simp] theorem a_nil : evA cs call .nil Γ g = .ok [] g := by simp only [evA]
@[simp] theorem a_cons (e : E) (as : A) : evA cs call (.cons e as) Γ g = (evE cs call e Γ g).bind fun x g => (evA cs call as Γ g).bind fun xs g => .ok (x :: xs) g := by simp only [evA]
@[simp] theorem i_seq (e : E) : evI cs call (.seq e) Γ g = (evE cs call e Γ g).bind fun x g => lift (seqD x) g := by simp only [evI]
@[simp] theorem i_zip (a b : E) : evI cs call (.zip a b) Γ g = (evE cs call a Γ g).bind fun x g => (evE cs call b Γ g).bind fun y g => match itemsD x, itemsD y with
      | some xs, some ys => .ok (zipD xs ys) g
      | _, _ => .st := by simp only [evI] <;> rfl
@[simp] theorem i_enum (a : E) : evI cs call (.enum a) Γ g = (evE cs call a Γ g).bind fun x g => match itemsD x with
      | some xs => .ok (enumD 0 xs) g
      | _ => .st := by simp only [evI] <;> rfl
@[simp] theorem i_rng1 (a : E) : evI cs call (.rng1 a) Γ g = (evE cs call a Γ g).bind fun x g => match x with | .int i => if -1000000 ≤ i ∧ i ≤ 1000000 then .ok (rngD 0 i.toNat) g else .st | _ => .st := by simp only [evI] <;> rfl
@[simp] theorem s_expr' (e : E) : evS cs call (.expr e) Γ g = (evE cs call e Γ g).bind fun _ g => .ok (.nx Γ) g := by simp only [evS]
@[simp] theorem s_asg' (t : T) (e : E) : evS cs call (.asg t e) Γ g = (evE cs call e Γ g).bind fun x g => (lift (setT t x Γ) g).bind fun Γ' g => .ok (.nx Γ') g := by simp only [evS]
@[simp] theorem s_own' (i : Nat) (e : E) : evS cs call (.own i e) Γ g = (evE cs call e Γ g).bind fun x g => match x with
      | .lst xs => if i < Γ.length then .ok (.nx (Γ.set i (.own (.lst xs)))) g else .st
      | .dct ks vs => if i < Γ.length then .ok (.nx (Γ.set i (.own (.dct ks vs)))) g else .st
      | _ => .st := by simp only [evS] <;> rfl
@[simp] theorem s_par' (ts : List (Nat × Bool)) (as : A) : evS cs call (.par ts as) Γ g = (evA cs call as Γ g).bind fun xs g => (lift (parG ts xs Γ) g).bind fun Γ' g => .ok (.nx Γ') g := by simp only [evS]
@[simp] theorem s_aug' (i : Nat) (e : E) : evS cs call (.aug i e) Γ g = match Γ[i]? with
      | some (.val x) => (evE cs call e Γ g).bind fun y g => (match x, y with
        | .int a, .int b => .ok (.nx (Γ.set i (.val (.int (a + b))))) g
        | _, _ => .st)
      | _ => .st := by simp only [evS] <;> rfl
@[simp] theorem s_ret' (e : E) : evS cs call (.ret e) Γ g = (evE cs call e Γ g).bind fun x g => .ok (.rt x) g := by simp only [evS]
@[simp] theorem s_ife' (c : E) (a b : B) : evS cs call (.ife c a b) Γ g = (blR (evE cs call c Γ g)).bind fun k g => if k then evB cs call a Γ g else evB cs call b Γ g := by simp only [evS]
@[simp] theorem s_app' (i : Nat) (e : E) : evS cs call (.app i e) Γ g = match Γ[i]? with
      | some (.own (.lst xs)) => (evE cs call e Γ g).bind fun y g => if xs.length < 1000000 then .ok (.nx (Γ.set i (.own (.lst (xs ++ [y]))))) g else .st
      | _ => .st := by simp only [evS] <;> rfl
@[simp] theorem s_frz' (i : Nat) : evS cs call (.frz i) Γ g = match Γ[i]? with
      | some (.own d) => .ok (.nx (Γ.set i (.val d))) g
      | _ => .ok (.nx Γ) g := by simp only [evS] <;> rfl
@[simp] theorem x_said (v : Nat) (tb : List (Nat × Str)) (e : E) : evE cs call (.said v tb e) Γ g = caughtR tb (evE cs call e Γ g) := by simp only [evE]
@[simp] theorem s_rais' (c : Nat) (as : A) : evS cs call (.rais c as) Γ g = (evA cs call as Γ g).bind fun ds g => .ex c ds g := by simp only [evS]
@[simp] theorem s_stop' : evS cs call .stop Γ g = .st := by simp only [evS]
@[simp] theorem s_pass' : evS cs call .pass Γ g = .ok (.nx Γ) g := by simp only [evS]
theorem s_for' (t : T) (it : I) (b : B) : evS cs call (.for_ t it b) Γ g = (evI cs call it Γ g).bind fun xs g => forR (fun x Γ g => (lift (setT t x Γ) g).bind fun Γ' g => evB cs call b Γ' g) xs Γ g := by simp only [evS]
@[simp] theorem b_nil : evB cs call .nil Γ g = .ok (.nx Γ) g := by simp only [evB]
@[simp] theorem b_cons (s : S) (b : B) : evB cs call (.cons s b) Γ g = (evS cs call s Γ g).bind fun fl g => match fl with
    | .nx Γ' => evB cs call b Γ' g
    | .rt d => .ok (.rt d) g := by simp only [evB] <;> rfl
end
@[simp] theorem t_var (i : Nat) (d : D) (Γ : Gm) : setT (.var i) d Γ = if i < Γ.length then some (Γ.set i (.val d)) else none := by simp only [setT]
@[simp] theorem t_tup (ts : List T) (ds : List D) (Γ : Gm) : setT (.tup ts) (.tup ds) Γ = setTs ts ds Γ := by simp only [setT]
@[simp] theorem ts_nil (Γ : Gm) : setTs [] [] Γ = some Γ := by simp only [setTs]
@[simp] theorem ts_cons (t : T) (ts : List T) (d : D) (ds : List D) (Γ : Gm) : setTs (t :: ts) (d :: ds) Γ = (setT t d Γ).bind (setTs ts ds) := by simp only [setTs]
@[simp] theorem v_var (i : Nat) : (T.var i).vars = [i] := by simp only [T.vars]
@[simp] theorem v_tup (ts : List T) : (T.tup ts).vars = varsT ts := by simp only [T.vars]
@[simp] theorem vs_nil : varsT [] = [] := by simp only [varsT]
@[simp] theorem vs_cons (t : T) (ts : List T) : varsT (t :: ts) = t.vars ++ varsT ts := by simp only [varsT]
@[simp] theorem w_nil (Γ : Gm) : wipeG Γ [] = Γ := rfl
@[simp] theorem w_cons (Γ : Gm) (v : Nat) (vs : List Nat) : wipeG Γ (v :: vs) = (wipeG Γ vs).set v .no := rfl
@[simp] theorem c_lt (i j : Int) : cmpD .lt (.int i) (.int j) = some (decide (i < j)) := rfl
@[simp] theorem c_le (i j : Int) : cmpD .le (.int i) (.int j) = some (decide (i ≤ j)) := rfl
@[simp] theorem c_gt (i j : Int) : cmpD .gt (.int i) (.int j) = some (decide (j < i)) := rfl
@[simp] theorem c_ge (i j : Int) : cmpD .ge (.int i) (.int j) = some (decide (j ≤ i)) := rfl
@[simp] theorem c_eq (i j : Int) : cmpD .eq (.int i) (.int j) = some (decide (i = j)) := rfl
@[simp] theorem c_ne (i j : Int) : cmpD .ne (.int i) (.int j) = some (!decide (i = j)) := rfl
@[simp] theorem c_eqs (i j : Str) : cmpD .eq (.str i) (.str j) = some (decide (i = j)) := rfl
@[simp] theorem o_add (i j : Int) : opD .add (.int i) (.int j) = some (.int (i + j)) := rfl
@[simp] theorem o_sub (i j : Int) : opD .sub (.int i) (.int j) = some (.int (i - j)) := rfl
theorem o_mul {i j : Int} (h : Bk.MulOk i j = true) : opD .mul (.int i) (.int j) = some (.int (i * j)) := by simp only [opD, h] <;> rfl
theorem o_div {i j : Int} (h : Bk.DivOk j = true) : opD .div (.int i) (.int j) = some (.int (i / j)) := by simp only [opD, h] <;> rfl
theorem o_mod {i j : Int} (h : 0 < j) : opD .mod (.int i) (.int j) = some (.int (i % j)) := by simp only [opD, h] <;> rfl
@[simp] theorem sq_tup (xs : List D) : seqD (.tup xs) = some xs := rfl
@[simp] theorem sq_lst (xs : List D) : seqD (.lst xs) = some xs := rfl
theorem sq_dct {ks vs : List D} (h : ks.length ≤ 1000000) : seqD (.dct ks vs) = some ks := by simp [seqD, h]
@[simp] theorem it_tup (xs : List D) : itemsD (.tup xs) = some xs := rfl
@[simp] theorem it_lst (xs : List D) : itemsD (.lst xs) = some xs := rfl
@[simp] theorem sl_tup (xs : List D) (lo hi : Option Int) : slD (.tup xs) lo hi = some (.tup (cutD xs lo hi)) := rfl
@[simp] theorem sl_lst (xs : List D) (lo hi : Option Int) : slD (.lst xs) lo hi = some (.lst (cutD xs lo hi)) := rfl
@[simp] theorem ix_tup (xs : List D) (i : Int) : idxD (.tup xs) (.int i) = atD xs i := rfl
@[simp] theorem ix_lst (xs : List D) (i : Int) : idxD (.lst xs) (.int i) = atD xs i := rfl
@[simp] theorem at_0 (x : D) (xs : List D) : atD (x :: xs) 0 = some x := rfl
@[simp] theorem at_1 (x y : D) (xs : List D) : atD (x :: y :: xs) 1 = some y := rfl
@[simp] theorem at_2 (x y z : D) (xs : List D) : atD (x :: y :: z :: xs) 2 = some z := rfl
@[simp] theorem bi_lent (xs : List D) : biD .len [.tup xs] = some (.int xs.length) := rfl
@[simp] theorem bi_lenl (xs : List D) : biD .len [.lst xs] = some (.int xs.length) := rfl
@[simp] theorem bi_lens (xs : List Int) : biD .len [.scr xs] = some (.int xs.length) := rfl
@[simp] theorem bi_tupl (xs : List D) : biD .tuple [.lst xs] = some (.tup xs) := rfl
@[simp] theorem bi_all (xs : List D) : biD .all [.lst xs] = (blsD xs).map fun bs => .bl (bs.all id) := rfl
@[simp] theorem bi_sum (xs : List D) : biD .sum [.lst xs] = (intsD xs).map fun ns => .int ns.sum := rfl
@[simp] theorem bi_int (i : Int) : biD .int [.int i] = some (.int i) := rfl
@[simp] theorem bi_sorted (xs : List D) : biD .sorted [.lst xs] = (intsD xs).map fun ns => .lst ((sortI ns).map .int) := rfl
@[simp] theorem is_int (i : Int) (ts : List Ty) : isiD ts (.int i) = some (ts.any (isI · (.int i))) := rfl
@[simp] theorem is_tup (i : List D) (ts : List Ty) : isiD ts (.tup i) = some (ts.any (isI · (.tup i))) := rfl
@[simp] theorem is_ii (i : Int) : isI .int (.int i) = true := rfl
@[simp] theorem is_bi (i : Int) : isI .bool (.int i) = false := rfl
@[simp] theorem is_tt (i : List D) : isI .tuple (.tup i) = true := rfl
theorem bi_max (xs : List D) : biD .max [.lst xs] = (intsD xs).bind fun | [] => none | n :: ns => some (.int (maxI n ns)) := rfl
theorem den_f {p : Pr} {f : Nat} {df : Df} {k : Nat} {ds : List D} {g : G} (h : p.ds.lookup f = some df) (hl : ds.length = df.np) (hn : df.np ≤ df.nn) : den p (k + 1) f ds g = endR (evB p.cs (den p k) df.body (startG df.nn ds) g) := by
  unfold den
  rw [h]
  simp only
  rw [if_pos ⟨hl, hn⟩]
def likeB : B := (.cons (.ret (.cmp .eq (.bi .repr (.cons (.var 0) .nil)) (.bi .repr (.cons (.var 1) .nil)))) .nil)
end Pk

set_option Elab.async false
set_option linter.all false
set_option maxRecDepth 100000
set_option maxHeartbeats 4000000
/-! The compact program's defs, what each answers. -/
namespace Pk
open PySem Bk
variable {p : Pr} [HP p]
/-! ### sizes -/
def Sm (x : Int) : Prop := x.natAbs < 10 ^ 100
theorem Sm.log {x : Int} (h : Sm x) : x.natAbs.log2 < 400 := by
  by_cases h0 : x.natAbs = 0
  · rw [h0]; decide
  · rw [Nat.log2_lt h0]
    exact Nat.lt_trans h (by decide)
theorem mulOk {i j : Int} (h1 : Sm i) (h2 : Sm j) : Bk.MulOk i j = true := by
  have := h1.log
  have := h2.log
  unfold Bk.MulOk
  exact decide_eq_true (by omega)
theorem divOk {j : Int} (h0 : 0 < j) (h : Sm j) : Bk.DivOk j = true := by
  have := h.log
  unfold Bk.DivOk
  rw [decide_eq_true h0, decide_eq_true (show j.natAbs.log2 < 9000 by omega)]
  rfl
theorem sm_of {x : Int} (h0 : -(10 ^ 99) ≤ x) (h1 : x ≤ 10 ^ 99) : Sm x := by
  unfold Sm
  omega
/-! ### walks -/
theorem lcR_ints {f : D → G → R (Option D)} {h : Int → D} : ∀ {ns : List Int} {g : G}, (∀ n ∈ ns, ∀ g, f (.int n) g = .ok (some (h n)) g) → lcR f (ns.map .int) g = .ok (ns.map h) g
  | [], g, _ => rfl
  | n :: ns, g, H => by
    simp only [List.map, lcR, H n (by simp), R.nox, R.bind, lcR_ints fun m hm => H m (List.mem_cons_of_mem _ hm)]
theorem lcR_zip {f : D → G → R (Option D)} {h : Int → Int → D} : ∀ {xs ys : List Int} {g : G}, (∀ q ∈ xs.zip ys, ∀ g, f (.tup [.int q.1, .int q.2]) g = .ok (some (h q.1 q.2)) g) → lcR f (zipD (xs.map .int) (ys.map .int)) g = .ok ((xs.zip ys).map fun q => h q.1 q.2) g
  | [], ys, g, _ => by cases ys <;> rfl
  | x :: xs, [], g, _ => rfl
  | x :: xs, y :: ys, g, H => by
    simp only [List.map, zipD, List.zip_cons_cons, lcR, H (x, y) (by simp), R.nox, R.bind, lcR_zip fun m hm => H m (List.mem_cons_of_mem _ hm)]
theorem bls_map {α : Type} (f : α → Bool) : ∀ l : List α, blsD (l.map fun a => D.bl (f a)) = some (l.map f)
  | [] => rfl
  | a :: l => by simp [blsD, bls_map f l]
theorem ints_map : ∀ l : List Int, intsD (l.map D.int) = some l
  | [] => rfl
  | a :: l => by simp [intsD, ints_map l]
theorem ints_mapf {α : Type} (f : α → Int) : ∀ l : List α, intsD (l.map fun a => D.int (f a)) = some (l.map f)
  | [] => rfl
  | a :: l => by simp [intsD, ints_mapf f l]
theorem tail_ints (l : List Int) : cutD (l.map D.int) (some 1) none = l.tail.map D.int := by
  cases l with
  | nil => rfl
  | cons a l =>
    simp [cutD, sIxD, List.take_of_length_le]
/-! ### the small ones -/
theorem is_whole_i (k : Nat) (v a b : Int) (g : G) : den p (k + 1) 21 [.int v, .int a, .int b] g = .ok (.bl (decide (a ≤ v) && decide (v ≤ b))) g := by
  refine Eq.trans (den_f HP.h_is_whole rfl (by decide)) ?_
  show endR (evB p.cs (den p k) b_is_whole [.val (.int v), .val (.int a), .val (.int b)] g) = _
  simp [b_is_whole, evB, evS, evE, evA, R.bind, lift, isiD, isI, blR, cmpD, endR]
  by_cases h : a ≤ v <;> simp [h]
theorem need_room_i (k : Nat) {s : Int} (g : G) (h0 : 1 ≤ s) (h1 : s ≤ 10 ^ 30) : den p (k + 2) 7 [.int s] g = .ok .non g := by
  refine Eq.trans (den_f HP.h_need_room rfl (by decide)) ?_
  show endR (evB p.cs (den p (k + 1)) b_need_room [.val (.int s)] g) = _
  have e := is_whole_i (p := p) k s 1 1000000000000000000000000000000 g
  have h2 : s ≤ 1000000000000000000000000000000 := h1
  simp [h0, h2] at e
  simp [b_need_room, evB, evS, evE, evA, R.bind, lift, blR, endR, HP.c_MOST_ROOM (p := p), e]
theorem like_r {f : Nat} (hf : p.ds.lookup f = some ⟨2, 2, likeB⟩) (k : Nat) (d : D) (g : G) (h1 : d.pl = true) (h2 : d.py.showable = true) (h3 : d.py.depth ≤ 64) (h4 : d.py.shown.length ≤ 1000000) : den p (k + 1) f [d, d] g = .ok (.bl true) g := by
  refine Eq.trans (den_f hf rfl (by decide)) ?_
  show endR (evB p.cs (den p k) likeB [.val d, .val d] g) = _
  simp [likeB, evB, evS, evE, evA, R.bind, lift, biD, h1, h2, h3, h4, cmpD, endR]
/-! ### the greatest common divisor -/
theorem gcd_step (a b : Nat) (h : 0 < b) : Nat.gcd a b = Nat.gcd b (a % b) := by rw [Nat.gcd_comm a b, Nat.gcd_rec b a, Nat.gcd_comm]
theorem common_w (cs : List (Nat × D)) (call : Nat → List D → G → R D) (g : G) : ∀ (n b a : Nat), b < n → whlR (fun Γ g => blR (evE cs call (.cmp .ne (.var 1) (.cst (.int 0))) Γ g)) (fun Γ g => evB cs call (.cons (.par [(0, false), (1, false)] (.cons (.var 1) (.cons (.bin .mod (.bi .int (.cons (.var 0) .nil)) (.var 1)) .nil))) .nil) Γ g) n [.val (.int (a : Nat)), .val (.int (b : Nat))] g
    = .ok (.nx [.val (.int (Nat.gcd a b : Nat)), .val (.int 0)]) g
  | 0, b, a, h => by omega
  | n + 1, b, a, h => by
    unfold whlR
    by_cases hb : b = 0
    · subst hb
      simp [evE, R.bind, lift, cmpD, blR]
    · have hb' : ¬ ((b : Int) = 0) := by omega
      have hp : (0 : Int) < (b : Int) := by omega
      have e : ((a : Int) % (b : Int)) = ((a % b : Nat) : Int) := by simp
      have ih := common_w cs call g n (a % b) b (by have := Nat.mod_lt a (Nat.pos_of_ne_zero hb); omega)
      rw [gcd_step a b (Nat.pos_of_ne_zero hb)]
      have e1 : blR (evE cs call (.cmp .ne (.var 1) (.cst (.int 0))) [.val (.int (a : Nat)), .val (.int (b : Nat))] g) = .ok true g := by
        simp [evE, R.bind, lift, cmpD, blR, hb]
      have e2 : evB cs call (.cons (.par [(0, false), (1, false)] (.cons (.var 1) (.cons (.bin .mod (.bi .int (.cons (.var 0) .nil)) (.var 1)) .nil))) .nil) [.val (.int (a : Nat)), .val (.int (b : Nat))] g = .ok (.nx [.val (.int (b : Nat)), .val (.int ((a % b : Nat) : Int))]) g := by
        simp [evE, evB, evS, evA, R.bind, lift, opD, biD, parG, Nat.pos_of_ne_zero hb]
      simp only [e1, R.bind, if_true, e2]
      exact ih
theorem common_i (k : Nat) (a b : Nat) (g : G) (h : b < 10 ^ 200) : den p (k + 1) 4 [.int (a : Nat), .int (b : Nat)] g = .ok (.int (Nat.gcd a b : Nat)) g := by
  refine Eq.trans (den_f HP.h_common rfl (by decide)) ?_
  show endR (evB p.cs (den p k) b_common [.val (.int (a : Nat)), .val (.int (b : Nat))] g) = _
  unfold b_common
  simp only [evB, evS]
  have := common_w p.cs (den p k) g FUEL b a h
  simp only [evB, evS] at this
  rw [this]
  simp [R.bind, evE, endR]
def fracD (a b : Nat) : D := if b = 0 then .tup [.int 1, .int 1] else .tup [.int (a / Nat.gcd a b : Nat), .int (b / Nat.gcd a b : Nat)]
theorem fraction_i (k : Nat) (a b : Nat) (g : G) (h : b < 10 ^ 100) : den p (k + 2) 23 [.int (a : Nat), .int (b : Nat)] g = .ok (fracD a b) g := by
  refine Eq.trans (den_f HP.h_fraction rfl (by decide)) ?_
  show endR (evB p.cs (den p (k + 1)) b_fraction [.val (.int (a : Nat)), .val (.int (b : Nat)), .no] g) = _
  unfold fracD
  by_cases hb : b = 0
  · subst hb
    simp [b_fraction, evB, evS, evE, evA, R.bind, lift, cmpD, blR, endR]
  · have hb' : ¬ ((b : Int) = 0) := by omega
    have hg : 0 < Nat.gcd a b := Nat.gcd_pos_of_pos_right _ (Nat.pos_of_ne_zero hb)
    have hl : Nat.gcd a b ≤ b := Nat.gcd_le_right _ (Nat.pos_of_ne_zero hb)
    have dk : Bk.DivOk ((Nat.gcd a b : Nat) : Int) = true := divOk (by omega) (by unfold Sm; simp only [Int.natAbs_natCast]; omega)
    have ec := common_i (p := p) k a b g (Nat.lt_trans h (by decide))
    simp [b_fraction, evB, evS, evE, evA, R.bind, lift, cmpD, blR, endR, hb, hb', setT, ec, opD, dk]
end Pk

set_option Elab.async false
set_option linter.all false
set_option maxRecDepth 100000
set_option maxHeartbeats 4000000
/-! Plans: what the compact program answers. -/
namespace Pk
open PySem Bk
variable {p : Pr} [HP p]
section
variable {cs : List (Nat × D)} {call : Nat → List D → G → R D} {elt : E} {t : T} {it : I} {Γ : Gm} {g : G}
theorem bind_val {α β : Type} {r : R α} {k : α → G → R β} {b : β} {g' : G} (h : r.bind k = .ok b g') : ∃ a g1, r = .ok a g1 ∧ k a g1 = .ok b g' := by
  cases r with
  | ok a g1 => exact ⟨a, g1, rfl, h⟩
  | ex _ _ _ => cases h
  | st => cases h
theorem lc_zip {xs ys : List Int} {h : Int → Int → D} (h1 : evI cs call it Γ g = .ok (zipD (xs.map .int) (ys.map .int)) g)
    (h2 : ∀ q ∈ xs.zip ys, ∀ g, (lift (setT t (.tup [.int q.1, .int q.2]) (wipeG Γ t.vars)) g).bind (fun Γ' g => evE cs call elt Γ' g) = .ok (h q.1 q.2) g) : evE cs call (.lc elt t it none) Γ g = .ok (.lst ((xs.zip ys).map fun q => h q.1 q.2)) g := by
  simp only [evE, h1, r_ok]
  rw [lcR_zip (h := h)]
  · rfl
  intro q hq g
  obtain ⟨Γ', g1, e1, e2⟩ := bind_val (h2 q hq g)
  rw [e1, r_ok, e2, r_ok]
theorem lc_ints {xs : List Int} {h : Int → D} (h1 : evI cs call it Γ g = .ok (xs.map .int) g)
    (h2 : ∀ q ∈ xs, ∀ g, (lift (setT t (.int q) (wipeG Γ t.vars)) g).bind (fun Γ' g => evE cs call elt Γ' g) = .ok (h q) g) : evE cs call (.lc elt t it none) Γ g = .ok (.lst (xs.map h)) g := by
  simp only [evE, h1, r_ok]
  rw [lcR_ints (h := h)]
  · rfl
  intro q hq g
  obtain ⟨Γ', g1, e1, e2⟩ := bind_val (h2 q hq g)
  rw [e1, r_ok, e2, r_ok]
end
def ti (l : List Int) : D := .tup (l.map .int)
def li (l : List Int) : D := .lst (l.map .int)
def plD (fs : List Int) (w : Int) (ps : List Int) : D := .tup [ti fs, .int w, ti ps]
@[simp] theorem g_0 : p.cs.lookup 0 = some (.int 1000000000) := HP.c_MOST_OF
@[simp] theorem g_1 : p.cs.lookup 1 = some (.int 1000000000000000000000000000000) := HP.c_MOST_ROOM
@[simp] theorem g_2 : p.cs.lookup 2 = some (.int 4) := HP.c_MOST_FARES
@[simp] theorem g_3 : p.cs.lookup 3 = some (.int 99) := HP.c_MOST_FARE
@[simp] theorem ti_it (l : List Int) : itemsD (ti l) = some (l.map .int) := rfl
@[simp] theorem li_it (l : List Int) : itemsD (li l) = some (l.map .int) := rfl
@[simp] theorem ti_sq (l : List Int) : seqD (ti l) = some (l.map .int) := rfl
@[simp] theorem li_sq (l : List Int) : seqD (li l) = some (l.map .int) := rfl
@[simp] theorem ti_len (l : List Int) : biD .len [ti l] = some (.int l.length) := by simp [ti]
@[simp] theorem li_len (l : List Int) : biD .len [li l] = some (.int l.length) := by simp [li]
@[simp] theorem ti_sl (l : List Int) : slD (ti l) (some 1) none = some (ti l.tail) := by simp [ti, tail_ints]
@[simp] theorem li_sl (l : List Int) : slD (li l) (some 1) none = some (li l.tail) := by simp [li, tail_ints]
@[simp] theorem ti_is (l : List Int) (ts : List Ty) : isiD ts (ti l) = some (ts.any (isI · (ti l))) := rfl
@[simp] theorem ti_ist (l : List Int) : isI .tuple (ti l) = true := rfl
@[simp] theorem pl_is (fs : List Int) (w : Int) (ps : List Int) (ts : List Ty) : isiD ts (plD fs w ps) = some (ts.any (isI · (plD fs w ps))) := rfl
@[simp] theorem pl_ist (fs : List Int) (w : Int) (ps : List Int) : isI .tuple (plD fs w ps) = true := rfl
@[simp] theorem pl_len (fs : List Int) (w : Int) (ps : List Int) : biD .len [plD fs w ps] = some (.int 3) := rfl
@[simp] theorem pl_0 (fs : List Int) (w : Int) (ps : List Int) : idxD (plD fs w ps) (.int 0) = some (ti fs) := rfl
@[simp] theorem pl_1 (fs : List Int) (w : Int) (ps : List Int) : idxD (plD fs w ps) (.int 1) = some (.int w) := rfl
@[simp] theorem pl_2 (fs : List Int) (w : Int) (ps : List Int) : idxD (plD fs w ps) (.int 2) = some (ti ps) := rfl
theorem all_bl {α : Type} (f : α → Bool) (l : List α) : biD .all [.lst (l.map fun a => D.bl (f a))] = some (.bl (l.all f)) := by
  rw [bi_all, bls_map]
  simp [List.all_map, Function.comp_def]
def ups (l : List Int) : Bool := (l.zip l.tail).all fun q => decide (q.1 ≤ q.2)
def upS (l : List Int) : Bool := (l.zip l.tail).all fun q => decide (q.1 < q.2)
theorem rising_i (k : Nat) (l : List Int) (g : G) : den p (k + 1) 22 [ti l] g = .ok (.bl (ups l)) g := by
  refine Eq.trans (den_f HP.h_are_rising rfl (by decide)) ?_
  show endR (evB p.cs (den p k) b_are_rising [.val (ti l), .no, .no] g) = _
  have e := lc_zip (cs := p.cs) (call := den p k) (elt := .cmp .le (.var 1) (.var 2)) (t := .tup [.var 1, .var 2]) (it := .zip (.var 0) (.sl (.var 0) (some (.cst (.int 1))) none)) (Γ := [.val (ti l), .no, .no]) (g := g) (xs := l) (ys := l.tail) (h := fun a b => .bl (decide (a ≤ b)))
    (by simp [ti, tail_ints]) (fun q hq g => by simp)
  simp [b_are_rising, e, all_bl (fun q : Int × Int => decide (q.1 ≤ q.2)), ups]
def fsOk (fs : List Int) : Bool := decide (1 ≤ fs.length) && decide (fs.length ≤ 4) && fs.all (fun f => decide (1 ≤ f) && decide (f ≤ 99)) && upS fs
theorem fares_i (k : Nat) (l : List Int) (g : G) (h : fsOk l = true) : den p (k + 2) 24 [ti l] g = .ok (.bl true) g := by
  refine Eq.trans (den_f HP.h_are_fares rfl (by decide)) ?_
  show endR (evB p.cs (den p (k + 1)) b_are_fares [.val (ti l), .no, .no, .no] g) = _
  unfold fsOk at h
  simp only [Bool.and_eq_true, decide_eq_true_eq] at h
  obtain ⟨⟨⟨h1, h2⟩, h3⟩, h4⟩ := h
  have e1 := lc_ints (cs := p.cs) (call := den p (k + 1)) (elt := .call 21 (.cons (.var 1) (.cons (.cst (.int 1)) (.cons (.glb 3) .nil)))) (t := .var 1) (it := .seq (.var 0)) (Γ := [.val (ti l), .no, .no, .no]) (g := g) (xs := l) (h := fun a => .bl (decide (1 ≤ a) && decide (a ≤ 99)))
    (by simp [ti]) (fun q hq g => by simp [is_whole_i])
  have e2 := lc_zip (cs := p.cs) (call := den p (k + 1)) (elt := .cmp .lt (.var 2) (.var 3)) (t := .tup [.var 2, .var 3]) (it := .zip (.var 0) (.sl (.var 0) (some (.cst (.int 1))) none)) (Γ := [.val (ti l), .no, .no, .no]) (g := g) (xs := l) (ys := l.tail) (h := fun a b => .bl (decide (a < b)))
    (by simp [ti, tail_ints]) (fun q hq g => by simp)
  have a1 : ((1 : Int) ≤ (l.length : Int)) := by omega
  have a2 : ((l.length : Int) ≤ 4) := by omega
  unfold upS at h4
  simp only [b_are_fares, b_cons, b_nil, s_ife', s_ret', x_or, x_not, x_isi, x_var, List.getElem?_cons_zero, r_ok, ti_is, Option.map_some, l_some, b_ok, x_chn, x_cst, x_bi, x_glb, a_cons, a_nil, ti_len, g_2, c_le, decide_eq_true a1, decide_eq_true a2, List.any_cons, ti_ist, List.any_nil, Bool.or_false, Bool.not_true, if_true, if_false, e1, e2, all_bl (fun a : Int => decide (1 ≤ a) && decide (a ≤ 99)), all_bl (fun q : Int × Int => decide (q.1 < q.2)), h3, h4, e_rt, Bool.false_eq_true]
theorem need_fares_i (k : Nat) (l : List Int) (g : G) (h : fsOk l = true) : den p (k + 3) 20 [ti l] g = .ok (ti l) g := by
  refine Eq.trans (den_f HP.h_need_fares rfl (by decide)) ?_
  show endR (evB p.cs (den p (k + 2)) b_need_fares [.val (ti l)] g) = _
  simp [b_need_fares, fares_i (p := p) k l g h]
def plOk (fs : List Int) (w : Int) (ps : List Int) : Bool := fsOk fs && decide (1 ≤ w) && decide (w ≤ 1000000000) && decide (ps.length = fs.length) && ps.all (fun q => decide (0 ≤ q) && decide (q ≤ w)) && ups ps
theorem need_plan_i (k : Nat) (fs : List Int) (w : Int) (ps : List Int) (g : G) (h : plOk fs w ps = true) : den p (k + 4) 6 [plD fs w ps] g = .ok (plD fs w ps) g := by
  refine Eq.trans (den_f HP.h_need_plan rfl (by decide)) ?_
  show endR (evB p.cs (den p (k + 3)) b_need_plan [.val (plD fs w ps), .no] g) = _
  unfold plOk at h
  simp only [Bool.and_eq_true, decide_eq_true_eq] at h
  obtain ⟨⟨⟨⟨⟨h1, h2⟩, h3⟩, h4⟩, h5⟩, h6⟩ := h
  have e1 := lc_ints (cs := p.cs) (call := den p (k + 3)) (elt := .call 21 (.cons (.var 1) (.cons (.cst (.int 0)) (.cons (.idx (.var 0) (.cst (.int 1))) .nil)))) (t := .var 1) (it := .seq (.idx (.var 0) (.cst (.int 2)))) (Γ := [.val (plD fs w ps), .no]) (g := g) (xs := ps) (h := fun a => .bl (decide (0 ≤ a) && decide (a ≤ w)))
    (by simp) (fun q hq g => by simp [is_whole_i])
  have ea : biD .all [.lst (ps.map fun a => D.bl (decide (0 ≤ a) && decide (a ≤ w)))] = some (.bl true) := by rw [all_bl (fun a : Int => decide (0 ≤ a) && decide (a ≤ w)), h5]
  simp [b_need_plan, need_fares_i (p := p) k fs g h1, is_whole_i, e1, ea, rising_i, h2, h3, h4, h6, -bi_all]
/-! ### limits, gains -/
def limI (ps : List Int) (w s : Int) : List Int := ps.map fun q => q * s / w
theorem limits_in_i (k : Nat) (fs : List Int) (w : Int) (ps : List Int) (s : Int) (g : G) (h0 : 0 < w) (h1 : Sm w) (h2 : Sm s) (h3 : ∀ q ∈ ps, Sm q) : den p (k + 1) 12 [plD fs w ps, .int s] g = .ok (ti (limI ps w s)) g := by
  refine Eq.trans (den_f HP.h_limits_in rfl (by decide)) ?_
  show endR (evB p.cs (den p k) b_limits_in [.val (plD fs w ps), .val (.int s), .no] g) = _
  have e1 := lc_ints (cs := p.cs) (call := den p k) (elt := .bin .div (.bin .mul (.var 2) (.var 1)) (.idx (.var 0) (.cst (.int 1)))) (t := .var 2) (it := .seq (.idx (.var 0) (.cst (.int 2)))) (Γ := [.val (plD fs w ps), .val (.int s), .no]) (g := g) (xs := ps) (h := fun a => .int (a * s / w))
    (by simp) (fun q hq g => by simp [o_mul (mulOk (h3 q hq) h2), o_div (divOk h0 h1)])
  simp [b_limits_in, e1, ti, limI]
def gI : List Int → List Int → Int → Int → List Int
  | f :: fs, l :: ls, a, t => (t + f * (l - a)) :: gI fs ls l (t + f * (l - a))
  | _, _, _, _ => []
theorem gains_w (cs : List (Nat × D)) (call : Nat → List D → G → R D) (g : G) (x y : D) : ∀ (fs ls : List Int) (a t : Int) (s5 s6 : Slot) (acc : List Int), acc.length + fs.length ≤ 100 → (∀ f ∈ fs, Sm f) → (∀ q ∈ ls, ∀ r ∈ a :: ls, Sm (q - r)) →
    ∃ s5' s6' a' t', forR (fun x Γ g => (lift (setT (.tup [.var 5, .var 6]) x Γ) g).bind fun Γ' g => evB cs call (.cons (.aug 4 (.bin .mul (.var 5) (.bin .sub (.var 6) (.var 3)))) (.cons (.asg (.var 3) (.var 6)) (.cons (.app 2 (.var 4)) .nil))) Γ' g) (zipD (fs.map .int) (ls.map .int)) [.val x, .val y, .own (li acc), .val (.int a), .val (.int t), s5, s6] g
      = .ok (.nx [.val x, .val y, .own (li (acc ++ gI fs ls a t)), a', t', s5', s6']) g
  | [], ls, a, t, s5, s6, acc, _, _, _ => ⟨s5, s6, _, _, by simp [zipD, forR, gI]; exact ⟨rfl, rfl⟩⟩
  | f :: fs, [], a, t, s5, s6, acc, _, _, _ => ⟨s5, s6, _, _, by simp [zipD, forR, gI]; exact ⟨rfl, rfl⟩⟩
  | f :: fs, l :: ls, a, t, s5, s6, acc, h1, h2, h3 => by
    have mo : opD .mul (.int f) (.int (l - a)) = some (.int (f * (l - a))) := o_mul (mulOk (h2 f (by simp)) (h3 l (by simp) a (by simp)))
    simp only [List.length_cons] at h1
    obtain ⟨s5', s6', a', t', ih⟩ := gains_w cs call g x y fs ls l (t + f * (l - a)) (.val (.int f)) (.val (.int l)) (acc ++ [t + f * (l - a)]) (by simp; omega) (fun q hq => h2 q (List.mem_cons_of_mem _ hq)) (fun q hq r hr => h3 q (List.mem_cons_of_mem _ hq) r (List.mem_cons_of_mem _ hr))
    refine ⟨s5', s6', a', t', ?_⟩
    have hl : acc.length < 1000000 := by omega
    simp only [List.map, zipD, forR]
    simp [li, mo, hl]
    simp [li] at ih
    simpa [gI] using ih
theorem gains_i (k : Nat) (fs ls : List Int) (g : G) (h1 : fs.length ≤ 100) (h2 : ∀ f ∈ fs, Sm f) (h3 : ∀ q ∈ ls, ∀ r ∈ 0 :: ls, Sm (q - r)) : den p (k + 1) 11 [ti fs, ti ls] g = .ok (li (gI fs ls 0 0)) g := by
  refine Eq.trans (den_f HP.h_gains_by rfl (by decide)) ?_
  show endR (evB p.cs (den p k) b_gains_by [.val (ti fs), .val (ti ls), .no, .no, .no, .no, .no] g) = _
  obtain ⟨s5, s6, a, t, e⟩ := gains_w p.cs (den p k) g (ti fs) (ti ls) fs ls 0 0 .no .no [] (by simpa using h1) h2 h3
  have e0 : evS p.cs (den p k) (.for_ (.tup [.var 5, .var 6]) (.zip (.var 0) (.var 1)) (.cons (.aug 4 (.bin .mul (.var 5) (.bin .sub (.var 6) (.var 3)))) (.cons (.asg (.var 3) (.var 6)) (.cons (.app 2 (.var 4)) .nil)))) [.val (ti fs), .val (ti ls), .own (li []), .val (.int 0), .val (.int 0), .no, .no] g = .ok (.nx [.val (ti fs), .val (ti ls), .own (li (gI fs ls 0 0)), a, t, s5, s6]) g := by
    rw [s_for']
    simp only [i_zip, x_var, List.getElem?_cons_zero, List.getElem?_cons_succ, r_ok, ti_it]
    exact e
  have e1 : li [] = .lst [] := rfl
  rw [e1] at e0
  simp only [b_gains_by, b_cons, s_par', a_cons, a_nil, x_lst, x_cst, r_ok]
  have e2 : parG [(2, true), (3, false), (4, false)] [.lst [], .int 0, .int 0] [.val (ti fs), .val (ti ls), .no, .no, .no, .no, .no] = some [.val (ti fs), .val (ti ls), .own (.lst []), .val (.int 0), .val (.int 0), .no, .no] := rfl
  rw [e2]
  simp only [l_some, r_ok, e0]
  simp
theorem regrets_i (k : Nat) (fs : List Int) (w : Int) (ps : List Int) (s : Int) (g : G) (h0 : 0 < w) (h1 : Sm w) (h2 : Sm s) (h3 : ∀ q ∈ ps, Sm q) (h4 : fs.length ≤ 100) (h5 : ∀ f ∈ fs, Sm f) (h6 : ∀ q ∈ limI ps w s, ∀ r ∈ 0 :: limI ps w s, Sm (q - r)) :
    den p (k + 2) 8 [plD fs w ps, .int s] g = .ok (li ((fs.zip (gI fs (limI ps w s) 0 0)).map fun q => s * q.1 - q.2)) g := by
  refine Eq.trans (den_f HP.h_regrets_at rfl (by decide)) ?_
  show endR (evB p.cs (den p (k + 1)) b_regrets_at [.val (plD fs w ps), .val (.int s), .no, .no, .no] g) = _
  have e1 := lc_zip (cs := p.cs) (call := den p (k + 1)) (elt := .bin .sub (.bin .mul (.var 1) (.var 3)) (.var 4)) (t := .tup [.var 3, .var 4]) (it := .zip (.idx (.var 0) (.cst (.int 0))) (.var 2)) (Γ := [.val (plD fs w ps), .val (.int s), .val (li (gI fs (limI ps w s) 0 0)), .no, .no]) (g := g) (xs := fs) (ys := gI fs (limI ps w s) 0 0) (h := fun a b => .int (s * a - b))
    (by simp) (fun q hq g => by simp [o_mul (mulOk h2 (h5 q.1 (List.of_mem_zip hq).1))])
  simp [b_regrets_at, limits_in_i (p := p) k fs w ps s g h0 h1 h2 h3, gains_i (p := p) k fs (limI ps w s) g h4 h5 h6, e1]
  simp [li, Function.comp_def]
/-! ### the least share -/
def prD (l : List (Int × Int)) : D := .lst (l.map fun q => .tup [.int q.1, .int q.2])
def lessI : Int × Int → List (Int × Int) → Int × Int
  | b, [] => b
  | b, o :: r => lessI (if o.1 * b.2 < b.1 * o.2 then o else b) r
def body15 : B := .cons (.ife (.cmp .lt (.bin .mul (.idx (.var 2) (.cst (.int 0))) (.idx (.var 1) (.cst (.int 1)))) (.bin .mul (.idx (.var 1) (.cst (.int 0))) (.idx (.var 2) (.cst (.int 1))))) (.cons (.asg (.var 1) (.var 2)) .nil) .nil) .nil
theorem less_w (cs : List (Nat × D)) (call : Nat → List D → G → R D) (g : G) (x : D) : ∀ (l : List (Int × Int)) (b : Int × Int) (s2 : Slot), (∀ q ∈ b :: l, Sm q.1 ∧ Sm q.2) →
    ∃ s2', forR (fun x Γ g => (lift (setT (.var 2) x Γ) g).bind fun Γ' g => evB cs call body15 Γ' g) (l.map fun q => .tup [.int q.1, .int q.2]) [.val x, .val (.tup [.int b.1, .int b.2]), s2] g
      = .ok (.nx [.val x, .val (.tup [.int (lessI b l).1, .int (lessI b l).2]), s2']) g
  | [], b, s2, _ => ⟨s2, rfl⟩
  | o :: l, b, s2, h => by
    have hb := h b (by simp)
    have ho := h o (by simp)
    obtain ⟨s2', ih⟩ := less_w cs call g x l (if o.1 * b.2 < b.1 * o.2 then o else b) (.val (.tup [.int o.1, .int o.2])) (fun q hq => by
      rcases List.mem_cons.mp hq with z | z
      · subst z; split
        · exact ho
        · exact hb
      · exact h q (by simp [z]))
    refine ⟨s2', ?_⟩
    simp only [List.map, forR, lessI]
    rw [← ih]
    by_cases c : o.1 * b.2 < b.1 * o.2
    · simp [body15, o_mul (mulOk ho.1 hb.2), o_mul (mulOk hb.1 ho.2), c]
    · simp [body15, o_mul (mulOk ho.1 hb.2), o_mul (mulOk hb.1 ho.2), c]
theorem less_i (k : Nat) (b : Int × Int) (l : List (Int × Int)) (g : G) (h : ∀ q ∈ b :: l, Sm q.1 ∧ Sm q.2) (h0 : 0 ≤ (lessI b l).1) (h1 : 0 ≤ (lessI b l).2) (h2 : (lessI b l).2 < 10 ^ 100) :
    den p (k + 3) 13 [prD (b :: l)] g = .ok (fracD (lessI b l).1.toNat (lessI b l).2.toNat) g := by
  refine Eq.trans (den_f HP.h_lesser_share rfl (by decide)) ?_
  show endR (evB p.cs (den p (k + 2)) b_lesser_share [.val (prD (b :: l)), .no, .no] g) = _
  obtain ⟨s2, e⟩ := less_w p.cs (den p (k + 2)) g (prD (b :: l)) l b .no h
  have ef := fraction_i (p := p) k (lessI b l).1.toNat (lessI b l).2.toNat g (by omega)
  rw [Int.toNat_of_nonneg h0, Int.toNat_of_nonneg h1] at ef
  have e0 : evS p.cs (den p (k + 2)) (.for_ (.var 2) (.seq (.sl (.var 0) (some (.cst (.int 1))) none)) body15) [.val (prD (b :: l)), .val (.tup [.int b.1, .int b.2]), .no] g = .ok (.nx [.val (prD (b :: l)), .val (.tup [.int (lessI b l).1, .int (lessI b l).2]), s2]) g := by
    rw [s_for', ← e]
    have : slD (prD (b :: l)) (some 1) none = some (.lst (l.map fun q => .tup [.int q.1, .int q.2])) := by
      simp [prD, cutD, sIxD, List.take_of_length_le]
    simp [this]
  have e1 : idxD (prD (b :: l)) (.int 0) = some (.tup [.int b.1, .int b.2]) := rfl
  unfold b_lesser_share
  change endR (evB p.cs (den p (k + 2)) (.cons (.asg (.var 1) (.idx (.var 0) (.cst (.int 0)))) (.cons (.for_ (.var 2) (.seq (.sl (.var 0) (some (.cst (.int 1))) none)) body15) _)) _ g) = _
  simp [e1, e0, ef]
/-! ### bounds -/
structure PO (fs : List Int) (w : Int) (ps : List Int) : Prop where
  f1 : 1 ≤ fs.length
  f4 : fs.length ≤ 4
  f : ∀ f ∈ fs, 1 ≤ f ∧ f ≤ 99
  w0 : 1 ≤ w
  w1 : w ≤ 1000000000
  len : ps.length = fs.length
  q : ∀ q ∈ ps, 0 ≤ q ∧ q ≤ w
  up : ups ps = true
  upf : upS fs = true
theorem PO.of {fs : List Int} {w : Int} {ps : List Int} (h : plOk fs w ps = true) : PO fs w ps := by
  unfold plOk fsOk at h
  simp only [Bool.and_eq_true, decide_eq_true_eq, List.all_eq_true] at h
  obtain ⟨⟨⟨⟨⟨⟨⟨⟨a1, a2⟩, a3⟩, a4⟩, h2⟩, h3⟩, h4⟩, h5⟩, h6⟩ := h
  exact ⟨a1, a2, a3, h2, h3, h4, h5, h6, a4⟩
theorem PO.to {fs : List Int} {w : Int} {ps : List Int} (h : PO fs w ps) : plOk fs w ps = true := by
  unfold plOk fsOk
  simp only [Bool.and_eq_true, decide_eq_true_eq, List.all_eq_true]
  exact ⟨⟨⟨⟨⟨⟨⟨⟨h.f1, h.f4⟩, h.f⟩, h.upf⟩, h.w0⟩, h.w1⟩, h.len⟩, h.q⟩, h.up⟩
/-- rising from a on -/
def Up : Int → List Int → Prop
  | _, [] => True
  | a, b :: r => a ≤ b ∧ Up b r
theorem up_of : ∀ {l : List Int} {a : Int}, ups l = true → (∀ b ∈ l.head?, a ≤ b) → Up a l
  | [], a, _, _ => trivial
  | [b], a, _, h => ⟨h b (by simp), trivial⟩
  | b :: c :: r, a, h, h0 => by
    simp only [ups, List.tail_cons, List.zip_cons_cons, List.all_cons, Bool.and_eq_true, decide_eq_true_eq] at h
    refine ⟨h0 b (by simp), up_of (l := c :: r) ?_ (fun d hd => ?_)⟩
    · simpa [ups] using h.2
    · simp at hd; subst hd; exact h.1
theorem up_map {f : Int → Int} (hf : ∀ x y, x ≤ y → f x ≤ f y) : ∀ {l : List Int} {a : Int}, Up a l → Up (f a) (l.map f)
  | [], a, _ => trivial
  | b :: r, a, h => ⟨hf a b h.1, up_map hf h.2⟩
theorem gI_bd {M : Int} : ∀ {fs ls : List Int} {a t : Int}, (∀ f ∈ fs, 1 ≤ f ∧ f ≤ 99) → Up a ls → 0 ≤ a → (∀ l ∈ ls, l ≤ M) → ∀ x ∈ gI fs ls a t, t ≤ x ∧ x ≤ t + 99 * M * fs.length
  | [], ls, a, t, _, _, _, _, x, hx => by simp [gI] at hx
  | f :: fs, [], a, t, _, _, _, _, x, hx => by simp [gI] at hx
  | f :: fs, l :: ls, a, t, h1, h2, h3, h4, x, hx => by
    have hf := h1 f (by simp)
    have hl := h4 l (by simp)
    have hla := h2.1
    have p1 : 0 ≤ f * (l - a) := Int.mul_nonneg (by omega) (by omega)
    have p2 : f * (l - a) ≤ 99 * M := Int.le_trans (Int.mul_le_mul_of_nonneg_right hf.2 (by omega)) (Int.mul_le_mul_of_nonneg_left (by omega) (by omega))
    have hM : 0 ≤ 99 * M := by omega
    have en : 99 * M * ((f :: fs).length : Int) = 99 * M + 99 * M * (fs.length : Int) := by
      simp only [List.length_cons]; push_cast; rw [Int.mul_add]; omega
    have hn : 0 ≤ 99 * M * (fs.length : Int) := Int.mul_nonneg hM (by omega)
    rw [en]
    simp only [gI, List.mem_cons] at hx
    rcases hx with hx | hx
    · omega
    · have := gI_bd (M := M) (t := t + f * (l - a)) (fun q hq => h1 q (by simp [hq])) h2.2 (by omega) (fun q hq => h4 q (by simp [hq])) x hx
      omega
theorem limI_bd {fs : List Int} {w : Int} {ps : List Int} {s : Int} (h : PO fs w ps) (hs : 0 ≤ s) : ∀ l ∈ limI ps w s, 0 ≤ l ∧ l ≤ s := by
  intro l hl
  obtain ⟨q, hq, rfl⟩ := List.mem_map.mp hl
  have h1 := h.q q hq
  have h0 := h.w0
  refine ⟨Int.ediv_nonneg (Int.mul_nonneg h1.1 hs) (by omega), ?_⟩
  have : q * s ≤ s * w := by rw [Int.mul_comm s w]; exact Int.mul_le_mul_of_nonneg_right h1.2 hs
  exact Int.ediv_le_of_le_mul (by omega) this
theorem limI_up {fs : List Int} {w : Int} {ps : List Int} {s : Int} (h : PO fs w ps) (hs : 0 ≤ s) : Up 0 (limI ps w s) := by
  have u := up_of (a := 0) h.up (fun b hb => (h.q b (List.mem_of_mem_head? hb)).1)
  have h0 := h.w0
  have := up_map (f := fun q => q * s / w) (fun x y hxy => Int.ediv_le_ediv (by omega) (Int.mul_le_mul_of_nonneg_right hxy hs)) u
  simpa [limI] using this
theorem sm_nn {x : Int} (h0 : 0 ≤ x) (h1 : x ≤ 10 ^ 60) : Sm x := sm_of (by omega) (by omega)
theorem lim_sm {fs : List Int} {w : Int} {ps : List Int} {s : Int} (h : PO fs w ps) (hs : 0 ≤ s) (hs1 : s ≤ 10 ^ 50) : ∀ q ∈ limI ps w s, ∀ r ∈ 0 :: limI ps w s, Sm (q - r) := by
  intro q hq r hr
  have h1 := limI_bd h hs q hq
  have h2 : 0 ≤ r ∧ r ≤ s := by
    rcases List.mem_cons.mp hr with z | z
    · subst z; exact ⟨Int.le_refl _, hs⟩
    · exact limI_bd h hs r z
  exact sm_of (by omega) (by omega)
end Pk

set_option Elab.async false
set_option linter.all false
set_option maxRecDepth 100000
set_option maxHeartbeats 4000000
/-! What the calls on plans answer. -/
namespace Pk
open PySem Bk
variable {p : Pr} [HP p]
def prs (d : Int) (fs ls : List Int) : List (Int × Int) := ((gI fs ls 0 0).zip fs).map fun q => (q.1, d * q.2)
def shV (l : List (Int × Int)) : D := match l with
  | [] => .non
  | b :: l => fracD (lessI b l).1.toNat (lessI b l).2.toNat
theorem less_mem : ∀ (l : List (Int × Int)) (b : Int × Int), lessI b l ∈ b :: l
  | [], b => by simp [lessI]
  | o :: l, b => by
    have := less_mem l (if o.1 * b.2 < b.1 * o.2 then o else b)
    unfold lessI
    rcases List.mem_cons.mp this with z | z
    · rw [z]; split <;> simp
    · simp [z]
theorem gI_len : ∀ (fs ls : List Int) (a t : Int), (gI fs ls a t).length = min fs.length ls.length
  | [], ls, a, t => by simp [gI]
  | f :: fs, [], a, t => by simp [gI]
  | f :: fs, l :: ls, a, t => by simp [gI, gI_len fs ls]
/-- the numbers that come: gains up to 10^40, fares, a divisor up to 10^32 -/
theorem prs_bd {fs ls : List Int} {d M : Int} (hf : ∀ f ∈ fs, 1 ≤ f ∧ f ≤ 99) (h4 : fs.length ≤ 4) (hu : Up 0 ls) (hm : ∀ l ∈ ls, l ≤ M) (hM : 0 ≤ M) (hM1 : M ≤ 10 ^ 36) (hd : 1 ≤ d) (hd1 : d ≤ 10 ^ 36) : ∀ q ∈ prs d fs ls, 0 ≤ q.1 ∧ q.1 ≤ 10 ^ 40 ∧ 1 ≤ q.2 ∧ q.2 ≤ 10 ^ 40 := by
  intro q hq
  obtain ⟨z, hz, rfl⟩ := List.mem_map.mp hq
  have hz1 := gI_bd (M := M) (t := 0) hf hu (Int.le_refl _) hm z.1 (List.of_mem_zip hz).1
  have hz2 := hf z.2 (List.of_mem_zip hz).2
  have p1 : d * 1 ≤ d * z.2 := Int.mul_le_mul_of_nonneg_left hz2.1 (by omega)
  have p2 : d * z.2 ≤ d * 99 := Int.mul_le_mul_of_nonneg_left hz2.2 (by omega)
  have p3 : 99 * M * (fs.length : Int) ≤ 99 * M * 4 := Int.mul_le_mul_of_nonneg_left (by omega) (by omega)
  refine ⟨hz1.1, ?_, ?_, ?_⟩ <;> simp only <;> omega
theorem prs_ne {fs ls : List Int} {d : Int} (h : 1 ≤ fs.length) (hl : ls.length = fs.length) : ∃ b l, prs d fs ls = b :: l := by
  cases e : prs d fs ls with
  | nil =>
    have e' : (prs d fs ls).length = 0 := by rw [e]; rfl
    simp only [prs, List.length_map, List.length_zip, gI_len] at e'
    omega
  | cons b l => exact ⟨b, l, rfl⟩
theorem less_sh (k : Nat) {l : List (Int × Int)} (g : G) (hb : ∀ q ∈ l, 0 ≤ q.1 ∧ q.1 ≤ 10 ^ 40 ∧ 1 ≤ q.2 ∧ q.2 ≤ 10 ^ 40) (hne : ∃ b r, l = b :: r) : den p (k + 3) 13 [prD l] g = .ok (shV l) g := by
  obtain ⟨b, r, rfl⟩ := hne
  have m := hb _ (less_mem r b)
  exact less_i (p := p) k b r g (fun q hq => by
    have := hb q hq
    exact ⟨sm_nn this.1 (by omega), sm_nn (by omega) (by omega)⟩) m.1 (by omega) (by omega)
section
variable {fs : List Int} {w : Int} {ps : List Int} (h : PO fs w ps)
include h
theorem PO.fsm : ∀ f ∈ fs, Sm f := fun f hf => by
  have := h.f f hf
  exact sm_nn (by omega) (by omega)
theorem PO.psm : ∀ q ∈ ps, Sm q := fun q hq => by
  have := h.q q hq
  have := h.w1
  exact sm_nn (by omega) (by omega)
theorem PO.wsm : Sm w := by
  have := h.w0
  have := h.w1
  exact sm_nn (by omega) (by omega)
theorem PO.lim_w : limI ps w w = ps := by
  unfold limI
  have h0 := h.w0
  rw [List.map_congr_left (g := id) (fun q _ => by show q * w / w = q; exact Int.mul_ediv_cancel q (by omega))]
  simp
theorem limits_of_i (k : Nat) {s : Int} (g : G) (h0 : 1 ≤ s) (h1 : s ≤ 10 ^ 30) : den p (k + 5) 14 [plD fs w ps, .int s] g = .ok (ti (limI ps w s)) g := by
  refine Eq.trans (den_f HP.h_limits_of rfl (by decide)) ?_
  show endR (evB p.cs (den p (k + 4)) b_limits_of [.val (plD fs w ps), .val (.int s)] g) = _
  have hw := h.w0
  simp [b_limits_of, need_plan_i (p := p) k fs w ps g h.to, need_room_i (p := p) (k + 2) g h0 h1, limits_in_i (p := p) (k + 3) fs w ps s g (by omega) h.wsm (sm_nn (by omega) (by omega)) h.psm]
theorem share_i (k : Nat) {s : Int} (g : G) (h0 : 1 ≤ s) (h1 : s ≤ 10 ^ 30) : den p (k + 5) 10 [plD fs w ps, .int s] g = .ok (shV (prs s fs (limI ps w s))) g := by
  refine Eq.trans (den_f HP.h_share_of rfl (by decide)) ?_
  show endR (evB p.cs (den p (k + 4)) b_share_of [.val (plD fs w ps), .val (.int s), .no, .no, .no] g) = _
  have hw := h.w0
  have h4 := h.f4
  have e1 := lc_zip (cs := p.cs) (call := den p (k + 4)) (elt := .tup (.cons (.var 3) (.cons (.bin .mul (.var 1) (.var 4)) .nil))) (t := .tup [.var 3, .var 4]) (it := .zip (.var 2) (.idx (.var 0) (.cst (.int 0)))) (Γ := [.val (plD fs w ps), .val (.int s), .val (li (gI fs (limI ps w s) 0 0)), .no, .no]) (g := g) (xs := gI fs (limI ps w s) 0 0) (ys := fs) (h := fun a b => .tup [.int a, .int (s * b)])
    (by simp) (fun q hq g => by simp [o_mul (mulOk (sm_nn (x := s) (by omega) (by omega)) (h.fsm q.2 (List.of_mem_zip hq).2))])
  have e2 : (D.lst (((gI fs (limI ps w s) 0 0).zip fs).map fun q => .tup [.int q.1, .int (s * q.2)])) = prD (prs s fs (limI ps w s)) := by
    simp [prD, prs, Function.comp_def]
  rw [e2] at e1
  have e3 := less_sh (p := p) (k + 1) (l := prs s fs (limI ps w s)) g (prs_bd h.f h.f4 (limI_up h (by omega)) (fun l hl => (limI_bd h (by omega) l hl).2) (by omega) (by omega) h0 (by omega)) (prs_ne h.f1 (by simp [limI, h.len]))
  simp [b_share_of, need_plan_i (p := p) k fs w ps g h.to, need_room_i (p := p) (k + 2) g h0 h1, limits_in_i (p := p) (k + 3) fs w ps s g (by omega) h.wsm (sm_nn (by omega) (by omega)) h.psm, gains_i (p := p) (k + 3) fs (limI ps w s) g (by omega) h.fsm (lim_sm h (by omega) (by omega)), e1, e3]
theorem regret_i (k : Nat) {s : Int} (g : G) (h0 : 1 ≤ s) (h1 : s ≤ 10 ^ 30) : ∃ n ns, (fs.zip (gI fs (limI ps w s) 0 0)).map (fun q => s * q.1 - q.2) = n :: ns ∧ den p (k + 5) 5 [plD fs w ps, .int s] g = .ok (.int (maxI n ns)) g := by
  have hw := h.w0
  have h4 := h.f4
  have e3 := regrets_i (p := p) (k + 2) fs w ps s g (by omega) h.wsm (sm_nn (by omega) (by omega)) h.psm (by omega) h.fsm (lim_sm h (by omega) (by omega))
  cases e : (fs.zip (gI fs (limI ps w s) 0 0)).map (fun q => s * q.1 - q.2) with
  | nil =>
    have e' : ((fs.zip (gI fs (limI ps w s) 0 0)).map (fun q => s * q.1 - q.2)).length = 0 := by rw [e]; rfl
    have hl := h.len
    have hf1 := h.f1
    simp only [List.length_map, List.length_zip, gI_len, limI] at e'
    omega
  | cons n ns =>
    refine ⟨n, ns, rfl, ?_⟩
    rw [e] at e3
    refine Eq.trans (den_f HP.h_regret_of rfl (by decide)) ?_
    show endR (evB p.cs (den p (k + 4)) b_regret_of [.val (plD fs w ps), .val (.int s)] g) = _
    have eb : biD .max [li (n :: ns)] = some (.int (maxI n ns)) := by
      show biD .max [.lst ((n :: ns).map D.int)] = _
      rw [bi_max, ints_map]; rfl
    simp [b_regret_of, need_plan_i (p := p) k fs w ps g h.to, need_room_i (p := p) (k + 2) g h0 h1, e3, eb]
theorem long_i (k : Nat) (g : G) : den p (k + 5) 15 [plD fs w ps] g = .ok (shV (prs w fs ps)) g := by
  refine Eq.trans (den_f HP.h_long_share rfl (by decide)) ?_
  show endR (evB p.cs (den p (k + 4)) b_long_share [.val (plD fs w ps)] g) = _
  have hw := h.w0
  have hw1 := h.w1
  have h4 := h.f4
  have e0 : den p (k + 4) 16 [plD fs w ps] g = .ok (shV (prs w fs ps)) g := by
    refine Eq.trans (den_f HP.h_long_in rfl (by decide)) ?_
    show endR (evB p.cs (den p (k + 3)) b_long_in [.val (plD fs w ps), .no, .no, .no] g) = _
    have e1 := lc_zip (cs := p.cs) (call := den p (k + 3)) (elt := .tup (.cons (.var 2) (.cons (.bin .mul (.idx (.var 0) (.cst (.int 1))) (.var 3)) .nil))) (t := .tup [.var 2, .var 3]) (it := .zip (.var 1) (.idx (.var 0) (.cst (.int 0)))) (Γ := [.val (plD fs w ps), .val (li (gI fs ps 0 0)), .no, .no]) (g := g) (xs := gI fs ps 0 0) (ys := fs) (h := fun a b => .tup [.int a, .int (w * b)])
      (by simp) (fun q hq g => by simp [o_mul (mulOk h.wsm (h.fsm q.2 (List.of_mem_zip hq).2))])
    have e2 : (D.lst (((gI fs ps 0 0).zip fs).map fun q => .tup [.int q.1, .int (w * q.2)])) = prD (prs w fs ps) := by
      simp [prD, prs, Function.comp_def]
    rw [e2] at e1
    have hu : Up 0 ps := by have := limI_up h (s := w) (by omega); rwa [h.lim_w] at this
    have e3 := less_sh (p := p) k (l := prs w fs ps) g (prs_bd h.f h.f4 hu (fun l hl => (h.q l hl).2) (by omega) (by omega) hw (by omega)) (prs_ne h.f1 h.len)
    have hsm : ∀ q ∈ ps, ∀ r ∈ 0 :: ps, Sm (q - r) := by have := lim_sm h (s := w) (by omega) (by omega); rwa [h.lim_w] at this
    simp [b_long_in, gains_i (p := p) (k + 2) fs ps g (by omega) h.fsm hsm, e1, e3]
  simp [b_long_share, need_plan_i (p := p) k fs w ps g h.to, e0]
end
end Pk

set_option Elab.async false
set_option linter.all false
set_option maxRecDepth 100000
set_option maxHeartbeats 4000000
/-! Scaling, and how far the least share is off the long share. -/
namespace Pk
open PySem Bk
theorem gI_scale (m : Int) : ∀ (fs ls : List Int) (a t : Int), gI fs (ls.map (m * ·)) (m * a) (m * t) = (gI fs ls a t).map (m * ·)
  | [], ls, a, t => by simp [gI]
  | f :: fs, [], a, t => by simp [gI]
  | f :: fs, l :: ls, a, t => by
    have e : m * t + f * (m * l - m * a) = m * (t + f * (l - a)) := by
      rw [← Int.mul_sub, Int.mul_add, Int.mul_left_comm]
    simp only [List.map, gI, e, gI_scale m fs ls]
def sc (m : Int) (q : Int × Int) : Int × Int := (m * q.1, m * q.2)
theorem zip_scale (m d : Int) : ∀ (xs fs : List Int), ((xs.map (m * ·)).zip fs).map (fun q => (q.1, m * d * q.2)) = ((xs.zip fs).map fun q => (q.1, d * q.2)).map (sc m)
  | [], fs => by simp
  | x :: xs, [] => by simp
  | x :: xs, f :: fs => by
    simp only [List.map, List.zip_cons_cons]
    rw [zip_scale m d xs fs]
    simp only [sc, Int.mul_assoc]
theorem prs_scale (m d : Int) (fs ls : List Int) : prs (m * d) fs (ls.map (m * ·)) = (prs d fs ls).map (sc m) := by
  unfold prs
  have := gI_scale m fs ls 0 0
  simp only [Int.mul_zero] at this
  rw [this, zip_scale]
theorem less_scale {m : Int} (hm : 0 < m) : ∀ (l : List (Int × Int)) (b : Int × Int), lessI (sc m b) (l.map (sc m)) = sc m (lessI b l)
  | [], b => rfl
  | o :: l, b => by
    have e : ((sc m o).1 * (sc m b).2 < (sc m b).1 * (sc m o).2) ↔ (o.1 * b.2 < b.1 * o.2) := by
      have e1 : (sc m o).1 * (sc m b).2 = (m * m) * (o.1 * b.2) := by simp only [sc]; grind
      have e2 : (sc m b).1 * (sc m o).2 = (m * m) * (b.1 * o.2) := by simp only [sc]; grind
      rw [e1, e2]
      exact Int.mul_lt_mul_left (Int.mul_pos hm hm)
    simp only [List.map, lessI]
    by_cases c : o.1 * b.2 < b.1 * o.2
    · rw [if_pos (e.mpr c), if_pos c, less_scale hm]
    · rw [if_neg (fun z => c (e.mp z)), if_neg c, less_scale hm]
theorem frac_scale {m : Nat} (hm : 0 < m) (a b : Nat) : fracD (m * a) (m * b) = fracD a b := by
  unfold fracD
  by_cases hb : b = 0
  · subst hb; simp
  · have h1 : ¬ m * b = 0 := by
      intro z
      rcases Nat.mul_eq_zero.mp z with z | z <;> omega
    rw [if_neg h1, if_neg hb, Nat.gcd_mul_left, Nat.mul_div_mul_left _ _ hm, Nat.mul_div_mul_left _ _ hm]
theorem shV_scale {m : Int} (hm : 0 < m) {l : List (Int × Int)} (h : ∀ q ∈ l, 0 ≤ q.1 ∧ 0 ≤ q.2) : shV (l.map (sc m)) = shV l := by
  cases l with
  | nil => rfl
  | cons b l =>
    have hb := h _ (less_mem l b)
    simp only [List.map, shV, less_scale hm]
    have e : ∀ x : Int, 0 ≤ x → (m * x).toNat = m.toNat * x.toNat := fun x hx => Int.toNat_mul (by omega) hx
    simp only [sc, e _ hb.1, e _ hb.2]
    exact frac_scale (by omega) _ _
theorem max_scale {m : Int} (hm : 0 < m) : ∀ (l : List Int) (a : Int), maxI (m * a) (l.map (m * ·)) = m * maxI a l
  | [], a => rfl
  | b :: l, a => by
    have e : (m * a < m * b) ↔ a < b := Int.mul_lt_mul_left hm
    show maxI (if m * a < m * b then m * b else m * a) (l.map (m * ·)) = m * maxI (if a < b then b else a) l
    by_cases c : a < b
    · rw [if_pos (e.mpr c), if_pos c]; exact max_scale hm l b
    · rw [if_neg (fun z => c (e.mp z)), if_neg c]; exact max_scale hm l a
section
variable {fs : List Int} {w : Int} {ps : List Int}
theorem lim_many (h : 1 ≤ w) (m : Int) : limI ps w (m * w) = ps.map (m * ·) := by
  unfold limI
  apply List.map_congr_left
  intro q _
  rw [← Int.mul_assoc, Int.mul_ediv_cancel _ (by omega), Int.mul_comm]
theorem lim_twice (h : 1 ≤ w) (s : Int) : limI (ps.map (2 * ·)) (2 * w) s = limI ps w s := by
  unfold limI
  rw [List.map_map]
  apply List.map_congr_left
  intro q _
  show 2 * q * s / (2 * w) = q * s / w
  rw [Int.mul_assoc, Int.mul_ediv_mul_of_pos _ _ (by omega)]
end
/-! ### the least of shares -/
theorem fr_trans {a b c d e f : Int} (hb : 0 < b) (hd : 0 < d) (hf : 0 < f) (h1 : a * d ≤ c * b) (h2 : c * f ≤ e * d) : a * f ≤ e * b := by
  have p1 : a * d * f ≤ c * b * f := Int.mul_le_mul_of_nonneg_right h1 (by omega)
  have p2 : c * f * b ≤ e * d * b := Int.mul_le_mul_of_nonneg_right h2 (by omega)
  have e1 : c * b * f = c * f * b := Int.mul_right_comm _ _ _
  have e2 : a * d * f = a * f * d := Int.mul_right_comm _ _ _
  have e3 : e * d * b = e * b * d := Int.mul_right_comm _ _ _
  have : a * f * d ≤ e * b * d := by omega
  exact Int.le_of_mul_le_mul_right this hd
theorem less_le : ∀ (l : List (Int × Int)) (b : Int × Int), (∀ q ∈ b :: l, 0 < q.2) → ∀ q ∈ b :: l, (lessI b l).1 * q.2 ≤ q.1 * (lessI b l).2
  | [], b, h, q, hq => by
    simp at hq
    subst hq
    exact Int.le_of_eq rfl
  | o :: l, b, h, q, hq => by
    have hb := h b (by simp)
    have ho := h o (by simp)
    have hn : ∀ q ∈ (if o.1 * b.2 < b.1 * o.2 then o else b) :: l, 0 < q.2 := fun z hz => by
      rcases List.mem_cons.mp hz with y | y
      · subst y; split <;> assumption
      · exact h z (by simp [y])
    have ih := less_le l _ hn
    have i0 := ih _ List.mem_cons_self
    have hm := hn _ (less_mem l _)
    show (lessI (if o.1 * b.2 < b.1 * o.2 then o else b) l).1 * q.2 ≤ q.1 * (lessI (if o.1 * b.2 < b.1 * o.2 then o else b) l).2
    rcases List.mem_cons.mp hq with z | hq
    · subst z
      by_cases c : o.1 * q.2 < q.1 * o.2
      · rw [if_pos c] at i0 hm ⊢
        exact fr_trans hm ho hb i0 (by omega)
      · rw [if_neg c] at i0 ⊢; exact i0
    · rcases List.mem_cons.mp hq with z | hq
      · subst z
        by_cases c : q.1 * b.2 < b.1 * q.2
        · rw [if_pos c] at i0 ⊢; exact i0
        · rw [if_neg c] at i0 hm ⊢
          exact fr_trans hm hb ho i0 (by omega)
      · exact ih q (by simp [hq])
/-! ### the gap -/
theorem gap_pt {w s : Int} (hw : 0 < w) : ∀ (fs ps : List Int) (f0 a A t T : Int), Up f0 fs → 0 ≤ f0 → -w ≤ a * w - A * s → a * w - A * s ≤ 0 → 0 ≤ t * w - T * s - f0 * (a * w - A * s) → t * w - T * s - f0 * (a * w - A * s) ≤ f0 * w →
    ∀ z ∈ (gI fs (limI ps w s) a t).zip ((gI fs ps A T).zip fs), -(z.2.2 * w) ≤ z.1 * w - z.2.1 * s ∧ z.1 * w - z.2.1 * s ≤ z.2.2 * w
  | [], ps, f0, a, A, t, T, _, _, _, _, _, _, z, hz => by simp [gI] at hz
  | f :: fs, [], f0, a, A, t, T, _, _, _, _, _, _, z, hz => by simp [gI, limI] at hz
  | f :: fs, q :: ps, f0, a, A, t, T, hu, h0, e1, e2, u1, u2, z, hz => by
    have l1 : q * s / w * w - q * s ≤ 0 := by have := Int.ediv_mul_le (q * s) (b := w) (by omega); omega
    have l2 : -w ≤ q * s / w * w - q * s := by have := Int.lt_ediv_add_one_mul_self (q * s) hw; rw [Int.add_mul, Int.one_mul] at this; omega
    have hf := hu.1
    generalize hl : q * s / w = l at l1 l2
    generalize he0 : a * w - A * s = e0 at e1 e2 u1 u2
    generalize he : l * w - q * s = e at l1 l2
    -- the new sums
    have k1 : (t + f * (l - a)) * w - (T + f * (q - A)) * s = (t * w - T * s) + f * (e - e0) := by
      subst he he0
      simp only [Int.add_mul, Int.mul_sub, Int.sub_mul, Int.mul_assoc]
      omega
    generalize hV : t * w - T * s = V at u1 u2 k1
    have p1 : 0 ≤ (f - f0) * (-e0) := Int.mul_nonneg (by omega) (by omega)
    have p2 : (f - f0) * (-e0) ≤ (f - f0) * w := Int.mul_le_mul_of_nonneg_left (by omega) (by omega)
    have p3 : (f - f0) * (-e0) = f0 * e0 - f * e0 := by rw [Int.sub_mul, Int.mul_neg, Int.mul_neg]; omega
    have p4 : (f - f0) * w = f * w - f0 * w := Int.sub_mul _ _ _
    have p5 : f * (e - e0) = f * e - f * e0 := Int.mul_sub _ _ _
    have p6 : f * (-w) ≤ f * e := Int.mul_le_mul_of_nonneg_left l2 (by omega)
    have p7 : f * e ≤ 0 := Int.mul_nonpos_of_nonneg_of_nonpos (by omega) l1
    have p8 : f * (-w) = -(f * w) := Int.mul_neg _ _
    simp only [gI, limI, List.map, List.zip_cons_cons, List.mem_cons] at hz
    rw [hl] at hz
    rcases hz with hz | hz
    · subst hz
      simp only
      rw [k1]
      constructor <;> omega
    · refine gap_pt hw fs ps f l q (t + f * (l - a)) (T + f * (q - A)) hu.2 (by omega) (by rw [he]; exact l2) (by rw [he]; exact l1) ?_ ?_ z (by simpa [limI] using hz)
      · rw [k1, he]; omega
      · rw [k1, he]; omega
end Pk

set_option Elab.async false
set_option linter.all false
set_option maxRecDepth 100000
set_option maxHeartbeats 4000000
/-! The least share beside the long share. -/
namespace Pk
open PySem Bk
theorem zip3 (s w : Int) : ∀ (xs ys fs : List Int), xs.length = fs.length → ys.length = fs.length →
    (∀ q ∈ (xs.zip fs).map (fun q => (q.1, s * q.2)), ∃ z ∈ xs.zip (ys.zip fs), q = (z.1, s * z.2.2) ∧ (z.2.1, w * z.2.2) ∈ (ys.zip fs).map (fun q => (q.1, w * q.2))) ∧
    (∀ q ∈ (ys.zip fs).map (fun q => (q.1, w * q.2)), ∃ z ∈ xs.zip (ys.zip fs), q = (z.2.1, w * z.2.2) ∧ (z.1, s * z.2.2) ∈ (xs.zip fs).map (fun q => (q.1, s * q.2)))
  | [], ys, [], _, _ => by simp
  | [], ys, f :: fs, h, _ => by simp at h
  | x :: xs, ys, [], h, _ => by simp at h
  | x :: xs, [], f :: fs, _, h => by simp at h
  | x :: xs, y :: ys, f :: fs, h1, h2 => by
    obtain ⟨i1, i2⟩ := zip3 s w xs ys fs (by simpa using h1) (by simpa using h2)
    constructor
    · intro q hq
      simp only [List.zip_cons_cons, List.map, List.mem_cons] at hq
      rcases hq with hq | hq
      · exact ⟨(x, y, f), by simp, hq, by simp⟩
      · obtain ⟨z, hz, e, m⟩ := i1 q hq
        exact ⟨z, by simp only [List.zip_cons_cons, List.mem_cons]; exact .inr hz, e, by simp only [List.zip_cons_cons, List.map, List.mem_cons]; exact .inr m⟩
    · intro q hq
      simp only [List.zip_cons_cons, List.map, List.mem_cons] at hq
      rcases hq with hq | hq
      · exact ⟨(x, y, f), by simp, hq, by simp⟩
      · obtain ⟨z, hz, e, m⟩ := i2 q hq
        exact ⟨z, by simp only [List.zip_cons_cons, List.mem_cons]; exact .inr hz, e, by simp only [List.zip_cons_cons, List.map, List.mem_cons]; exact .inr m⟩
theorem gap_up {A B fj gj Gj s w : Int} (hB : 0 ≤ B) (hw : 0 ≤ w) (h1 : A * (s * fj) ≤ gj * B) (h2 : gj * w - Gj * s ≤ fj * w) : (A * (w * fj) - Gj * B) * s ≤ B * (w * fj) := by
  have p1 : A * (s * fj) * w ≤ gj * B * w := Int.mul_le_mul_of_nonneg_right h1 hw
  have p2 : (gj * w - Gj * s) * B ≤ fj * w * B := Int.mul_le_mul_of_nonneg_right h2 hB
  have e1 : (A * (w * fj) - Gj * B) * s = A * (s * fj) * w - Gj * s * B := by grind
  have e2 : (gj * w - Gj * s) * B = gj * B * w - Gj * s * B := by grind
  have e3 : B * (w * fj) = fj * w * B := by grind
  omega
theorem gap_lo {C E fi gi Gi s w : Int} (hE : 0 ≤ E) (hw : 0 < w) (hs : 0 ≤ s) (h1 : C * (w * fi) ≤ Gi * E) (h2 : -(fi * w) ≤ gi * w - Gi * s) : -(s * fi * E) ≤ (gi * E - C * (s * fi)) * s := by
  have hss : 0 ≤ s * s := Int.mul_nonneg hs hs
  have hEs : 0 ≤ E * s := Int.mul_nonneg hE hs
  have p1 : C * (w * fi) * (s * s) ≤ Gi * E * (s * s) := Int.mul_le_mul_of_nonneg_right h1 hss
  have p2 : -(fi * w) * (E * s) ≤ (gi * w - Gi * s) * (E * s) := Int.mul_le_mul_of_nonneg_right h2 hEs
  have e1 : (gi * E - C * (s * fi)) * s * w = gi * w * (E * s) - C * (w * fi) * (s * s) := by grind
  have e2 : (gi * w - Gi * s) * (E * s) = gi * w * (E * s) - Gi * E * (s * s) := by grind
  have e3 : -(s * fi * E) * w = -(fi * w) * (E * s) := by grind
  have : -(s * fi * E) * w ≤ (gi * E - C * (s * fi)) * s * w := by omega
  exact Int.le_of_mul_le_mul_right this hw
theorem upS_up : ∀ {l : List Int} {a : Int}, upS l = true → (∀ b ∈ l.head?, a ≤ b) → Up a l
  | [], a, _, _ => trivial
  | [b], a, _, h => ⟨h b (by simp), trivial⟩
  | b :: c :: r, a, h, h0 => by
    simp only [upS, List.tail_cons, List.zip_cons_cons, List.all_cons, Bool.and_eq_true, decide_eq_true_eq] at h
    refine ⟨h0 b (by simp), upS_up (l := c :: r) ?_ (fun d hd => ?_)⟩
    · simpa [upS] using h.2
    · simp at hd; subst hd; omega
/-- a fraction in least terms, beside what it came from -/
theorem frac_of {a b : Int} (ha : 0 ≤ a) (hb : 1 ≤ b) : ∃ c d h : Int, fracD a.toNat b.toNat = .tup [.int c, .int d] ∧ 0 < h ∧ a = h * c ∧ b = h * d ∧ 0 ≤ c ∧ 1 ≤ d ∧ c ≤ a ∧ d ≤ b := by
  have hb0 : b.toNat ≠ 0 := by omega
  have hg : 0 < Nat.gcd a.toNat b.toNat := Nat.gcd_pos_of_pos_right _ (Nat.pos_of_ne_zero hb0)
  have e1 : a.toNat = Nat.gcd a.toNat b.toNat * (a.toNat / Nat.gcd a.toNat b.toNat) := (Nat.mul_div_cancel' (Nat.gcd_dvd_left _ _)).symm
  have e2 : b.toNat = Nat.gcd a.toNat b.toNat * (b.toNat / Nat.gcd a.toNat b.toNat) := (Nat.mul_div_cancel' (Nat.gcd_dvd_right _ _)).symm
  have l1 : a.toNat / Nat.gcd a.toNat b.toNat ≤ a.toNat := Nat.div_le_self _ _
  have l2 : b.toNat / Nat.gcd a.toNat b.toNat ≤ b.toNat := Nat.div_le_self _ _
  have l3 : 0 < b.toNat / Nat.gcd a.toNat b.toNat := Nat.div_pos (Nat.gcd_le_right _ (Nat.pos_of_ne_zero hb0)) hg
  have ef : fracD a.toNat b.toNat = .tup [.int (a.toNat / Nat.gcd a.toNat b.toNat : Nat), .int (b.toNat / Nat.gcd a.toNat b.toNat : Nat)] := by unfold fracD; rw [if_neg hb0]
  generalize a.toNat / Nat.gcd a.toNat b.toNat = c at *
  generalize b.toNat / Nat.gcd a.toNat b.toNat = d at *
  generalize Nat.gcd a.toNat b.toNat = k at *
  have e1' := congrArg (fun x : Nat => (x : Int)) e1
  have e2' := congrArg (fun x : Nat => (x : Int)) e2
  simp only [Int.natCast_mul] at e1' e2'
  exact ⟨(c : Nat), (d : Nat), (k : Nat), ef, by omega, by omega, by omega, by omega, by omega, by omega, by omega⟩
theorem gap_i {fs : List Int} {w : Int} {ps : List Int} (h : PO fs w ps) {s : Int} (h0 : 1 ≤ s) (h1 : s ≤ 10 ^ 30) :
    ∃ o0 o1 t0 t1 : Int, shV (prs s fs (limI ps w s)) = .tup [.int o0, .int o1] ∧ shV (prs w fs ps) = .tup [.int t0, .int t1] ∧ (0 ≤ o0 ∧ o0 ≤ 10 ^ 40 ∧ 1 ≤ o1 ∧ o1 ≤ 10 ^ 40) ∧ (0 ≤ t0 ∧ t0 ≤ 10 ^ 40 ∧ 1 ≤ t1 ∧ t1 ≤ 10 ^ 40) ∧
      -(o1 * t1) ≤ (o0 * t1 - t0 * o1) * s ∧ (o0 * t1 - t0 * o1) * s ≤ o1 * t1 := by
  have hw := h.w0
  have hw1 := h.w1
  have hlen : (limI ps w s).length = fs.length := by simp [limI, h.len]
  have hu : Up 0 ps := by have := limI_up h (s := w) (by omega); rwa [h.lim_w] at this
  have b1 := prs_bd (d := s) h.f h.f4 (limI_up h (by omega)) (fun l hl => (limI_bd h (s := s) (by omega) l hl).2) (by omega) (by omega) h0 (by omega)
  have b2 := prs_bd (d := w) h.f h.f4 hu (fun l hl => (h.q l hl).2) (by omega) (by omega) hw (by omega)
  obtain ⟨z1, z2⟩ := zip3 s w (gI fs (limI ps w s) 0 0) (gI fs ps 0 0) fs (by rw [gI_len, hlen, Nat.min_self]) (by rw [gI_len, h.len, Nat.min_self])
  have gp := gap_pt (s := s) (w := w) (by omega) fs ps 0 0 0 0 0 (upS_up h.upf fun b hb => by have := (h.f b (List.mem_of_mem_head? hb)).1; omega) (Int.le_refl _) (by simp; omega) (by simp) (by simp) (by simp)
  obtain ⟨c1, r1, e1⟩ := prs_ne (d := s) h.f1 hlen
  obtain ⟨c2, r2, e2⟩ := prs_ne (d := w) (ls := ps) h.f1 h.len
  have m1 := less_mem r1 c1
  have m2 := less_mem r2 c2
  rw [← e1] at m1
  rw [← e2] at m2
  have le1 := less_le r1 c1 (fun q hq => by rw [← e1] at hq; have := b1 q hq; omega)
  have le2 := less_le r2 c2 (fun q hq => by rw [← e2] at hq; have := b2 q hq; omega)
  rw [← e1] at le1
  rw [← e2] at le2
  have d1 := b1 _ m1
  have d2 := b2 _ m2
  obtain ⟨zi, hzi, ei, mi⟩ := z1 _ m1
  obtain ⟨zj, hzj, ej, mj⟩ := z2 _ m2
  have gi := gp zi hzi
  have gj := gp zj hzj
  have li := le2 _ mi
  have lj := le1 _ mj
  generalize hA : lessI c1 r1 = L1 at *
  generalize hC : lessI c2 r2 = L2 at *
  have U : (L1.1 * L2.2 - L2.1 * L1.2) * s ≤ L1.2 * L2.2 := by
    rw [ej]
    exact gap_up (by omega) (by omega) lj gj.2
  have V : -(L1.2 * L2.2) ≤ (L1.1 * L2.2 - L2.1 * L1.2) * s := by
    rw [ei] at d1 ⊢
    exact gap_lo (by omega) (by omega) (by omega) li gi.1
  obtain ⟨o0, o1, k1, f1, hk1, a1, a2, a3, a4, a5, a6⟩ := frac_of d1.1 d1.2.2.1
  obtain ⟨t0, t1, k2, f2, hk2, g1, g2, g3, g4, g5, g6⟩ := frac_of d2.1 d2.2.2.1
  refine ⟨o0, o1, t0, t1, by rw [e1]; simp only [shV, hA]; exact f1, by rw [e2]; simp only [shV, hC]; exact f2, ⟨a3, by omega, a4, by omega⟩, ⟨g3, by omega, g4, by omega⟩, ?_, ?_⟩
  · have q1 : -(L1.2 * L2.2) = -(o1 * t1) * (k1 * k2) := by rw [a2, g2]; grind
    have q2 : (L1.1 * L2.2 - L2.1 * L1.2) * s = (o0 * t1 - t0 * o1) * s * (k1 * k2) := by rw [a1, a2, g1, g2]; grind
    rw [q1, q2] at V
    exact Int.le_of_mul_le_mul_right V (Int.mul_pos hk1 hk2)
  · have q1 : L1.2 * L2.2 = o1 * t1 * (k1 * k2) := by rw [a2, g2]; grind
    have q2 : (L1.1 * L2.2 - L2.1 * L1.2) * s = (o0 * t1 - t0 * o1) * s * (k1 * k2) := by rw [a1, a2, g1, g2]; grind
    rw [q1, q2] at U
    exact Int.le_of_mul_le_mul_right U (Int.mul_pos hk1 hk2)
theorem frac_cross {x y M S : Int} (hx : 0 ≤ x) (hy : 1 ≤ y) (hM : 0 ≤ M) (hS : 1 ≤ S) (h : x * S = M * y) : fracD x.toNat y.toNat = fracD M.toNat S.toNat := by
  have e1 := frac_scale (m := S.toNat) (by omega) x.toNat y.toNat
  have e2 := frac_scale (m := y.toNat) (by omega) M.toNat S.toNat
  have n1 : S.toNat * x.toNat = y.toNat * M.toNat := by
    have : ((S.toNat * x.toNat : Nat) : Int) = ((y.toNat * M.toNat : Nat) : Int) := by
      push_cast
      rw [Int.toNat_of_nonneg (by omega : 0 ≤ S), Int.toNat_of_nonneg hx, Int.toNat_of_nonneg (by omega : 0 ≤ y), Int.toNat_of_nonneg hM, Int.mul_comm, h, Int.mul_comm]
    exact Int.ofNat_inj.mp this
  rw [← e1, ← e2, n1, Nat.mul_comm S.toNat y.toNat]
/-- strictly rising from a on -/
def Us : Int → List Int → Prop
  | _, [] => True
  | a, b :: r => a < b ∧ Us b r
theorem Us.of : ∀ {l : List Int} {a : Int}, upS (a :: l) = true → Us a l
  | [], a, _ => trivial
  | b :: l, a, h => by
    simp only [upS, List.tail_cons, List.zip_cons_cons, List.all_cons, Bool.and_eq_true, decide_eq_true_eq] at h
    exact ⟨h.1, Us.of (by simpa [upS] using h.2)⟩
end Pk

set_option Elab.async false
set_option linter.all false
set_option maxRecDepth 100000
set_option maxHeartbeats 4000000
/-! Drawn things; what can be shown. -/
namespace Pk
open PySem Bk
variable {p : Pr} [HP p]
/-! ### what can be shown -/
structure Sz (n h : Nat) (d : D) : Prop where
  pl : d.pl = true
  sh : d.py.showable = true
  dp : d.py.depth ≤ h
  ln : d.py.shown.length ≤ n
theorem Sz.mono {n h n' h' : Nat} {d : D} (s : Sz n h d) (hn : n ≤ n') (hh : h ≤ h') : Sz n' h' d := ⟨s.pl, s.sh, Nat.le_trans s.dp hh, Nat.le_trans s.ln hn⟩
theorem Sz.int {i : Int} (h : Sm i) : Sz 1921 0 (.int i) := by
  have hl := h.log
  refine ⟨by simp [D.pl], by simp only [D.py, PyData.showable]; exact decide_eq_true (by omega), by simp [D.py, PyData.depth], ?_⟩
  simp only [D.py, PyData.shown]
  exact PyProof.Rows.int_text_len_1921 (by omega)
theorem Sz.all {n h : Nat} : ∀ {ds : List D}, (∀ d ∈ ds, Sz n h d) → pls ds = true ∧ PyData.showableAll (pys ds) = true ∧ PyData.depthAll (pys ds) ≤ h ∧ ((PyData.shownAll (pys ds)).map (·.length)).sum ≤ n * ds.length ∧ (PyData.shownAll (pys ds)).length = ds.length
  | [], _ => by simp [pls, pys, PyData.showableAll, PyData.depthAll, PyData.shownAll]
  | d :: ds, H => by
    have h1 := H d (by simp)
    obtain ⟨i1, i2, i3, i4, i5⟩ := Sz.all (ds := ds) fun x hx => H x (by simp [hx])
    refine ⟨by simp [pls, h1.pl, i1], by simp [pys, PyData.showableAll, h1.sh, i2], ?_, ?_, ?_⟩
    · simp only [pys, PyData.depthAll]; exact Nat.max_le.mpr ⟨h1.dp, i3⟩
    · simp only [pys, PyData.shownAll, List.map_cons, List.sum_cons, List.length_cons, Nat.mul_add, Nat.mul_one]
      have := h1.ln
      omega
    · simp [pys, PyData.shownAll, i5]
theorem Sz.tup {n h : Nat} {ds : List D} (H : ∀ d ∈ ds, Sz n h d) : Sz ((n + 2) * ds.length + 3) (h + 1) (.tup ds) := by
  obtain ⟨i1, i2, i3, i4, i5⟩ := Sz.all H
  refine ⟨by simp [D.pl, i1], by simp [D.py, PyData.showable, i2], by simp [D.py, PyData.depth]; exact i3, ?_⟩
  simp only [D.py, PyData.shown]
  have := tupleText_len_le (PyData.shownAll (pys ds))
  rw [i5] at this
  rw [Nat.add_mul]
  omega
theorem Sz.lst {n h : Nat} {ds : List D} (H : ∀ d ∈ ds, Sz n h d) : Sz ((n + 2) * ds.length + 3) (h + 1) (.lst ds) := by
  obtain ⟨i1, i2, i3, i4, i5⟩ := Sz.all H
  refine ⟨by simp [D.pl, i1], by simp [D.py, PyData.showable, i2], by simp [D.py, PyData.depth]; exact i3, ?_⟩
  simp only [D.py, PyData.shown]
  have := listText_len_le (PyData.shownAll (pys ds))
  rw [i5] at this
  rw [Nat.add_mul]
  omega
theorem Sz.ti {l : List Int} (H : ∀ x ∈ l, Sm x) : Sz (1923 * l.length + 3) 1 (ti l) := by
  have := Sz.tup (n := 1921) (h := 0) (ds := l.map .int) fun d hd => by
    obtain ⟨x, hx, rfl⟩ := List.mem_map.mp hd
    exact Sz.int (H x hx)
  simpa [Pk.ti] using this
theorem like_s {f : Nat} (hf : p.ds.lookup f = some ⟨2, 2, likeB⟩) (k : Nat) {d : D} {n : Nat} (g : G) (s : Sz n 64 d) (hn : n ≤ 1000000) : den p (k + 1) f [d, d] g = .ok (.bl true) g := like_r hf k d g s.pl s.sh s.dp (Nat.le_trans s.ln hn)
/-! ### draws -/
theorem draw_bd (g : G) {lim : Int} (h : 0 < lim) : 0 ≤ (g.draw lim).1 ∧ (g.draw lim).1 < lim ∧ (g.draw lim).2.spot = g.spot + 1 := by
  have hm : 0 ≤ g.mix lim ∧ g.mix lim < lim := by unfold G.mix; exact ⟨Int.emod_nonneg _ (by omega), Int.emod_lt_of_pos _ h⟩
  unfold G.draw
  split
  · exact ⟨hm.1, hm.2, rfl⟩
  · split
    · exact ⟨Int.emod_nonneg _ (by omega), Int.emod_lt_of_pos _ h, rfl⟩
    · exact ⟨hm.1, hm.2, rfl⟩
theorem x_dr {cs : List (Nat × D)} {call : Nat → List D → G → R D} {Γ : Gm} {g g1 g2 : G} {a b : E} {lim : Int} (ha : evE cs call a Γ g = .ok .m g1) (hb : evE cs call b Γ g1 = .ok (.int lim) g2) (h0 : 0 < lim) (h1 : lim ≤ 10 ^ 100) (hs : g2.spot < 2 ^ 60) :
    ∃ v g', evE cs call (.draw a b) Γ g = .ok (.int v) g' ∧ 0 ≤ v ∧ v < lim ∧ g'.spot = g2.spot + 1 := by
  have hb2 := draw_bd g2 h0
  refine ⟨(g2.draw lim).1, (g2.draw lim).2, ?_, hb2⟩
  rw [x_draw, ha, r_ok, hb, r_ok]
  have : lim < 2 ^ 4000 := Int.lt_of_le_of_lt h1 (by decide +kernel)
  simp only [h0, this, hs, and_self, if_true]
theorem of_i (k : Nat) {xs : List D} (g : G) (h0 : 1 ≤ xs.length) (h1 : xs.length ≤ 1000) (hs : g.spot < 2 ^ 60) : ∃ x g', den p (k + 1) 9 [.m, .lst xs] g = .ok x g' ∧ x ∈ xs ∧ g'.spot = g.spot + 1 := by
  obtain ⟨v, g', e, hv0, hv1, hg⟩ := x_dr (cs := p.cs) (call := den p k) (Γ := [.val .m, .val (.lst xs)]) (g := g) (g1 := g) (g2 := g) (a := .var 0) (b := .bi .len (.cons (.var 1) .nil)) (lim := xs.length) (by simp) (by simp) (by omega) (by omega) hs
  have hlt : v.toNat < xs.length := by omega
  refine ⟨xs[v.toNat], g', ?_, List.getElem_mem hlt, hg⟩
  refine Eq.trans (den_f HP.h__law_of rfl (by decide)) ?_
  show endR (evB p.cs (den p k) b__law_of [.val .m, .val (.lst xs)] g) = _
  have ea : atD xs v = some xs[v.toNat] := by
    unfold atD; rw [if_pos hv0]; exact List.getElem?_eq_getElem hlt
  simp [b__law_of, e, ea, -x_draw]
/-! ### fares -/
def bodyL : B := .cons (.asg (.var 4) (.bin .add (.bin .add (.var 4) (.cst (.int 1))) (.draw (.var 0) (.idx (.lst (.cons (.cst (.int 3)) (.cons (.cst (.int 24)) .nil))) (.draw (.var 0) (.cst (.int 2))))))) (.cons (.asg (.var 3) (.bin .add (.var 3) (.tup (.cons (.var 4) .nil)))) .nil)
theorem fares_w (cs : List (Nat × D)) (call : Nat → List D → G → R D) (s1 : Slot) : ∀ (xs : List D) (g : G) (last : Int) (acc : List Int) (s2 : Slot), xs.length + acc.length ≤ 100 → g.spot + 2 * xs.length < 2 ^ 60 →
    ∃ new s2' last' g', forR (fun x Γ g => (lift (setT (.var 2) x Γ) g).bind fun Γ' g => evB cs call bodyL Γ' g) xs [.val .m, s1, s2, .val (ti acc), .val (.int last)] g = .ok (.nx [.val .m, s1, s2', .val (ti (acc ++ new)), .val (.int last')]) g'
      ∧ new.length = xs.length ∧ Us last new ∧ (∀ x ∈ new, x ≤ last + 24 * xs.length) ∧ g'.spot = g.spot + 2 * xs.length
  | [], g, last, acc, s2, _, _ => ⟨[], s2, last, g, by simp [forR], rfl, trivial, by simp, by simp⟩
  | x :: xs, g, last, acc, s2, hl, hs => by
    simp only [List.length_cons] at hl hs
    push_cast at hs
    obtain ⟨v, g1, e1, v0, v1, hg1⟩ := x_dr (cs := cs) (call := call) (Γ := [.val .m, s1, .val x, .val (ti acc), .val (.int last)]) (g := g) (g1 := g) (g2 := g) (a := .var 0) (b := .cst (.int 2)) (lim := 2) (by simp) (by simp) (by decide) (by decide) (by omega)
    have hidx : ∃ lim : Int, atD [.int 3, .int 24] v = some (.int lim) ∧ 3 ≤ lim ∧ lim ≤ 24 := by
      have : v = 0 ∨ v = 1 := by omega
      rcases this with rfl | rfl
      · exact ⟨3, rfl, by decide, by decide⟩
      · exact ⟨24, rfl, by decide, by decide⟩
    obtain ⟨lim, el, l0, l1⟩ := hidx
    obtain ⟨u, g2, e2, u0, u1, hg2⟩ := x_dr (cs := cs) (call := call) (Γ := [.val .m, s1, .val x, .val (ti acc), .val (.int last)]) (g := g) (g1 := g) (g2 := g1) (a := .var 0) (b := .idx (.lst (.cons (.cst (.int 3)) (.cons (.cst (.int 24)) .nil))) (.draw (.var 0) (.cst (.int 2)))) (lim := lim) (by simp) (by simp [e1, el, -x_draw]) (by omega) (by omega) (by omega)
    obtain ⟨new, s2', last', g', ih, i1, i2, i3, i4⟩ := fares_w cs call s1 xs g2 (last + 1 + u) (acc ++ [last + 1 + u]) (.val x) (by simp; omega) (by omega)
    refine ⟨(last + 1 + u) :: new, s2', last', g', ?_, by simp [i1], ⟨by omega, i2⟩, fun y hy => ?_, by simp only [List.length_cons]; push_cast; omega⟩
    · have st : ((lift (setT (.var 2) x [.val .m, s1, s2, .val (ti acc), .val (.int last)]) g).bind fun Γ' g => evB cs call bodyL Γ' g) = .ok (.nx [.val .m, s1, .val x, .val (ti (acc ++ [last + 1 + u])), .val (.int (last + 1 + u))]) g2 := by
        have ea : opD .add (ti acc) (.tup [.int (last + 1 + u)]) = some (ti (acc ++ [last + 1 + u])) := by
          simp only [opD, ti]
          rw [if_pos (by simp; omega)]
          simp
        simp [bodyL, e2, ea, -x_draw]
      unfold forR
      rw [st, r_ok]
      simpa using ih
    · simp only [List.length_cons]
      push_cast
      rcases List.mem_cons.mp hy with z | z
      · omega
      · have := i3 y z; omega
theorem us_all : ∀ {l : List Int} {a : Int}, Us a l → ∀ x ∈ l, a < x
  | [], _, _, x, hx => by cases hx
  | b :: l, a, h, x, hx => by
    rcases List.mem_cons.mp hx with z | z
    · rw [z]; exact h.1
    · have := us_all h.2 x z
      have := h.1
      omega
theorem us_upS : ∀ {l : List Int} {a : Int}, Us a l → upS l = true
  | [], _, _ => rfl
  | [b], _, _ => rfl
  | b :: c :: l, a, h => by
    have ih := us_upS (l := c :: l) h.2
    simp only [upS, List.tail_cons, List.zip_cons_cons, List.all_cons, Bool.and_eq_true, decide_eq_true_eq] at ih ⊢
    exact ⟨h.2.1, ih⟩
theorem rngD_len : ∀ (n : Nat) (a : Int), (rngD a n).length = n
  | 0, _ => rfl
  | n + 1, a => by simp [rngD, rngD_len n]
theorem fares_d (k : Nat) {most : Int} (g : G) (h0 : 1 ≤ most) (h1 : most ≤ 4) (hs : g.spot + 20 < 2 ^ 60) : ∃ fs g', den p (k + 1) 1 [.m, .int most] g = .ok (ti fs) g' ∧ fsOk fs = true ∧ g'.spot ≤ g.spot + 9 ∧ (fs.length : Int) ≤ most ∧ ∀ x ∈ fs, x ≤ 96 := by
  obtain ⟨v, g1, e1, v0, v1, hg1⟩ := x_dr (cs := p.cs) (call := den p k) (Γ := [.val .m, .val (.int most), .no, .val (.tup []), .val (.int 0)]) (g := g) (g1 := g) (g2 := g) (a := .var 0) (b := .var 1) (lim := most) (by simp) (by simp) (by omega) (by omega) (by omega)
  obtain ⟨new, s2', last', g', e2, i1, i2, i3, i4⟩ := fares_w p.cs (den p k) (.val (.int most)) (rngD 0 (1 + v).toNat) g1 0 [] .no (by rw [rngD_len]; simp; omega) (by rw [rngD_len]; omega)
  rw [rngD_len] at i1 i3 i4
  refine ⟨new, g', ?_, ?_, by omega, by omega, fun x hx => by have := i3 x hx; omega⟩
  · refine Eq.trans (den_f HP.h__law_fares rfl (by decide)) ?_
    show endR (evB p.cs (den p k) b__law_fares [.val .m, .val (.int most), .no, .no, .no] g) = _
    have e3 : evS p.cs (den p k) (.for_ (.var 2) (.rng1 (.bin .add (.cst (.int 1)) (.draw (.var 0) (.var 1)))) bodyL) [.val .m, .val (.int most), .no, .val (.tup []), .val (.int 0)] g = .ok (.nx [.val .m, .val (.int most), s2', .val (ti new), .val (.int last')]) g' := by
      rw [s_for', i_rng1]
      have hr : (-1000000 ≤ 1 + v ∧ 1 + v ≤ 1000000) := by omega
      simp only [x_bin, x_cst, r_ok, e1, o_add, l_some, hr, and_self, if_true]
      exact e2
    unfold b__law_fares
    change endR (evB p.cs (den p k) (.cons _ (.cons (.for_ (.var 2) (.rng1 (.bin .add (.cst (.int 1)) (.draw (.var 0) (.var 1)))) bodyL) _)) _ g) = _
    simp [e3, -x_draw]
  · unfold fsOk
    simp only [Bool.and_eq_true, decide_eq_true_eq, List.all_eq_true]
    refine ⟨⟨⟨by omega, by omega⟩, fun x hx => ?_⟩, us_upS i2⟩
    have := us_all i2 x hx
    have := i3 x hx
    omega
/-! ### plans -/
theorem lc_draws {f : D → G → R (Option D)} {lim : Int} (hf : ∀ x g, g.spot < 2 ^ 60 → ∃ v g', f x g = .ok (some (.int v)) g' ∧ 0 ≤ v ∧ v < lim ∧ g'.spot = g.spot + 1) : ∀ (xs : List D) (g : G), g.spot + xs.length < 2 ^ 60 → ∃ (ns : List Int) (g' : G), lcR f xs g = .ok (ns.map D.int) g' ∧ ns.length = xs.length ∧ (∀ n ∈ ns, 0 ≤ n ∧ n < lim) ∧ g'.spot = g.spot + xs.length
  | [], g, _ => ⟨[], g, rfl, rfl, by simp, by simp⟩
  | x :: xs, g, h => by
    simp only [List.length_cons] at h
    push_cast at h
    obtain ⟨v, g1, e1, v0, v1, hg1⟩ := hf x g (by omega)
    obtain ⟨ns, g', e2, i1, i2, i3⟩ := lc_draws hf xs g1 (by omega)
    refine ⟨v :: ns, g', ?_, by simp [i1], fun n hn => ?_, by simp only [List.length_cons]; push_cast; omega⟩
    · simp only [lcR, e1, R.nox, r_ok, e2, List.map_cons]
    · rcases List.mem_cons.mp hn with z | z
      · omega
      · exact i2 n z
end Pk

set_option Elab.async false
set_option linter.all false
set_option maxRecDepth 100000
set_option maxHeartbeats 4000000
/-! A turn of the law. -/
namespace Pk
open PySem Bk
variable {p : Pr} [HP p]
def drw (x y : D) (g : G) : R D := match x, y with
  | .m, .int lim => if 0 < lim ∧ lim < 2 ^ 4000 ∧ g.spot < 2 ^ 60 then .ok (.int (g.draw lim).1) (g.draw lim).2 else .st
  | _, _ => .st
theorem x_drw {cs : List (Nat × D)} {call : Nat → List D → G → R D} {Γ : Gm} {g : G} (a b : E) : evE cs call (.draw a b) Γ g = (evE cs call a Γ g).bind fun x g => (evE cs call b Γ g).bind fun y g => drw x y g := by rw [x_draw]; rfl
theorem x_lc0 {cs : List (Nat × D)} {call : Nat → List D → G → R D} {Γ : Gm} {g : G} (elt : E) (t : T) (it : I) : evE cs call (.lc elt t it none) Γ g = (evI cs call it Γ g).bind fun xs g => (lcR (fun x g => (lift (setT t x (wipeG Γ t.vars)) g).bind fun Γ' g => (evE cs call elt Γ' g).bind fun y g => .ok (some y) g) xs g).bind fun ys g => .ok (.lst ys) g := by
  rw [evE.eq_def]
theorem drw_ok {lim : Int} {g : G} (h0 : 0 < lim) (h1 : lim ≤ 10 ^ 100) (hs : g.spot < 2 ^ 60) : ∃ v g', drw .m (.int lim) g = .ok (.int v) g' ∧ 0 ≤ v ∧ v < lim ∧ g'.spot = g.spot + 1 := by
  have hb2 := draw_bd g h0
  refine ⟨(g.draw lim).1, (g.draw lim).2, ?_, hb2⟩
  have : lim < 2 ^ 4000 := Int.lt_of_le_of_lt h1 (by decide +kernel)
  simp only [drw, h0, this, hs, and_self, if_true]
theorem pair_ups : ∀ {l : List Int}, l.Pairwise (· ≤ ·) → ups l = true
  | [], _ => rfl
  | [b], _ => rfl
  | b :: c :: r, h => by
    have ih := pair_ups (l := c :: r) (List.pairwise_cons.mp h).2
    have h1 := (List.pairwise_cons.mp h).1 c (by simp)
    simp only [ups, List.tail_cons, List.zip_cons_cons, List.all_cons, Bool.and_eq_true, decide_eq_true_eq] at ih ⊢
    exact ⟨h1, ih⟩
theorem insI_perm' (i : Int) : ∀ l : List Int, (insI i l).Perm (i :: l)
  | [] => List.Perm.refl _
  | j :: r => by
    unfold insI
    split
    · exact List.Perm.refl _
    · exact ((insI_perm' i r).cons j).trans (List.Perm.swap i j r)
theorem insI_sorted' (i : Int) : ∀ l : List Int, l.Pairwise (· ≤ ·) → (insI i l).Pairwise (· ≤ ·)
  | [], _ => by simp [insI]
  | j :: r, h => by
    unfold insI
    split
    · rename_i c
      refine List.pairwise_cons.mpr ⟨fun y hy => ?_, h⟩
      rcases List.mem_cons.mp hy with z | z
      · omega
      · have := (List.pairwise_cons.mp h).1 y z; omega
    · rename_i c
      refine List.pairwise_cons.mpr ⟨fun y hy => ?_, insI_sorted' i r (List.pairwise_cons.mp h).2⟩
      rcases List.mem_cons.mp ((insI_perm' i r).mem_iff.mp hy) with z | z
      · omega
      · exact (List.pairwise_cons.mp h).1 y z
theorem sortI_perm' : ∀ l : List Int, (sortI l).Perm l
  | [] => List.Perm.refl _
  | i :: l => (insI_perm' i _).trans ((sortI_perm' l).cons i)
theorem sortI_sorted' : ∀ l : List Int, (sortI l).Pairwise (· ≤ ·)
  | [] => List.Pairwise.nil
  | i :: l => insI_sorted' i _ (sortI_sorted' l)
theorem plan_d (k : Nat) {fh most : Int} (g : G) (f0 : 1 ≤ fh) (f1 : fh ≤ 4) (h0 : 1 ≤ most) (h1 : most ≤ 60) (hs : g.spot + 100 < 2 ^ 60) : ∃ fs w ps g', den p (k + 2) 0 [.m, .int fh, .int most] g = .ok (plD fs w ps) g' ∧ PO fs w ps ∧ w ≤ most ∧ g'.spot ≤ g.spot + 14 ∧ ∀ x ∈ fs, x ≤ 96 := by
  obtain ⟨fs, g1, e1, hf, hg1, hfl, h96⟩ := fares_d (p := p) k (most := fh) g f0 f1 (by omega)
  obtain ⟨v, g2, e2, v0, v1, hg2⟩ := drw_ok (lim := most) (g := g1) (by omega) (by omega) (by omega)
  have hfl' : fs.length ≤ 4 := by omega
  obtain ⟨ns, g3, e3, n1, n2, hg3⟩ := lc_draws (f := fun x g => (lift (setT (.var 5) x (wipeG [.val .m, .val (.int fh), .val (.int most), .val (ti fs), .val (.int (1 + v)), .no] (T.var 5).vars)) g).bind fun Γ' g => (evE p.cs (den p (k + 1)) (.draw (.var 0) (.bin .add (.var 4) (.cst (.int 1)))) Γ' g).bind fun y g => .ok (some y) g) (lim := 1 + v + 1) (fun x g hs => by
    obtain ⟨u, g', e, u0, u1, hg⟩ := drw_ok (lim := 1 + v + 1) (g := g) (by omega) (by omega) hs
    exact ⟨u, g', by simp [x_drw, e, -x_draw], u0, u1, hg⟩) (fs.map .int) g2 (by simp; omega)
  refine ⟨fs, 1 + v, sortI ns, g3, ?_, ?_, by omega, by simp at hg3; omega, h96⟩
  · refine Eq.trans (den_f HP.h__law_plan rfl (by decide)) ?_
    show endR (evB p.cs (den p (k + 1)) b__law_plan [.val .m, .val (.int fh), .val (.int most), .no, .no, .no] g) = _
    have e4 : evE p.cs (den p (k + 1)) (.lc (.draw (.var 0) (.bin .add (.var 4) (.cst (.int 1)))) (.var 5) (.seq (.var 3)) none) [.val .m, .val (.int fh), .val (.int most), .val (ti fs), .val (.int (1 + v)), .no] g2 = .ok (.lst (ns.map .int)) g3 := by
      have ei : evI p.cs (den p (k + 1)) (.seq (.var 3)) [.val .m, .val (.int fh), .val (.int most), .val (ti fs), .val (.int (1 + v)), .no] g2 = .ok (fs.map .int) g2 := by simp
      rw [x_lc0, ei, r_ok, e3]
      rfl
    simp [b__law_plan, e1, x_drw, e2, e4, ints_map, -x_draw]
    simp [plD, ti]
  · have hp := sortI_perm' ns
    have hh := hf
    unfold fsOk at hh
    simp only [Bool.and_eq_true, decide_eq_true_eq, List.all_eq_true] at hh
    obtain ⟨⟨⟨a1, a2⟩, a3⟩, a4⟩ := hh
    refine ⟨a1, a2, a3, by omega, by omega, by rw [hp.length_eq, n1]; simp, fun q hq => ?_, pair_ups (sortI_sorted' ns), a4⟩
    have := n2 q (hp.mem_iff.mp hq)
    omega
/-! ### sizes of what is told -/
theorem sz_frac {a b : Int} (ha : 0 ≤ a ∧ a ≤ 10 ^ 40) (hb : 1 ≤ b ∧ b ≤ 10 ^ 40) : Sz 4000 1 (.tup [.int a, .int b]) := by
  have := Sz.tup (n := 1921) (h := 0) (ds := [.int a, .int b]) fun d hd => by
    simp only [List.mem_cons, List.not_mem_nil, or_false] at hd
    rcases hd with z | z
    · rw [z]; exact Sz.int (sm_nn (by omega) (by omega))
    · rw [z]; exact Sz.int (sm_nn (by omega) (by omega))
  exact this.mono (by simp) (Nat.le_refl _)
theorem sz_sh {l : List (Int × Int)} (hne : ∃ b r, l = b :: r) (hb : ∀ q ∈ l, 0 ≤ q.1 ∧ q.1 ≤ 10 ^ 40 ∧ 1 ≤ q.2 ∧ q.2 ≤ 10 ^ 40) : Sz 4000 1 (shV l) := by
  obtain ⟨b, r, rfl⟩ := hne
  have m := hb _ (less_mem r b)
  obtain ⟨c, d, h, e, _, _, _, c0, d1, ca, db⟩ := frac_of m.1 m.2.2.1
  simp only [shV]
  rw [e]
  exact sz_frac ⟨c0, by omega⟩ ⟨d1, by omega⟩
theorem sz_ti {l : List Int} (hl : l.length ≤ 4) (h : ∀ x ∈ l, 0 ≤ x ∧ x ≤ 10 ^ 40) : Sz 8000 1 (ti l) :=
  (Sz.ti fun x hx => sm_nn (h x hx).1 (by have := (h x hx).2; omega)).mono (by have : 1923 * l.length ≤ 1923 * 4 := Nat.mul_le_mul_left _ hl; omega) (Nat.le_refl _)
theorem maxI_le : ∀ {l : List Int} {a B : Int}, a ≤ B → (∀ x ∈ l, x ≤ B) → maxI a l ≤ B
  | [], a, B, h, _ => h
  | b :: l, a, B, h, H => by
    show maxI (if a < b then b else a) l ≤ B
    exact maxI_le (by split; exact H b (by simp); exact h) fun x hx => H x (by simp [hx])
theorem le_maxI : ∀ {l : List Int} {a B : Int}, B ≤ a → B ≤ maxI a l
  | [], a, B, h => h
  | b :: l, a, B, h => by
    show B ≤ maxI (if a < b then b else a) l
    exact le_maxI (by split <;> omega)
theorem sz_list {n : Nat} {ds : List D} (h : ∀ d ∈ ds, Sz n 1 d) (hl : ds.length ≤ 4) (hn : n ≤ 8000) : Sz 40000 64 (.lst ds) :=
  (Sz.lst h).mono (by have : (n + 2) * ds.length ≤ 8002 * 4 := Nat.mul_le_mul (by omega) hl; omega) (by decide)
end Pk

set_option Elab.async false
set_option linter.all false
set_option maxRecDepth 100000
set_option maxHeartbeats 1000000
/-! Plain data and the drawing state in the abstract heap. -/
namespace Bk
open PySem L2
open Evl (Ex ex_l ex_t)

structure Wd where
  am : Addr
  ac : Addr
  ag : Addr
  w : World
  /-- the written part -/
  k : PySem.W.Frag
  /-- the tables of code objects: where, and the name of what is made -/
  tb : List (Addr × Str)
  /-- the classes of exceptions: where, and their fields -/
  xc : List (Nat × Addr × List Str)
/-- an object that is known to the sign -/
def ObX (d : Addr) (o : Obj) : HO := .ext fun h => h.get? d = some o
theorem obX_ok {P : Program} {w : World} {H : Hp} {h : Heap} {d : Addr} {o : Obj} (e : h.get? d = some o) : ObjOk P w H h d (ObX d o) := ⟨e, ⟨o, e⟩, fun _ _ z k => k _ z⟩
theorem obX_at {P : Program} {w : World} {H : Hp} {h : Heap} {d : Addr} {o : Obj} (hok : HOk P w H h) (e : H d = some (ObX d o)) : h.get? d = some o := by
  have x : ObjOk P w H h d (.ext fun h => h.get? d = some o) := hok d _ e
  exact x.1
/-- the object is a dict with these keys, the places of these, these values -/
def DcIs (w : World) (o : Obj) (xs : List (NestedKey × Addr × V)) : Prop := ∃ ys : List (NestedKey × Addr × Value), Paired (fun (p : NestedKey × Addr × V) (q : NestedKey × Addr × Value) => p.1 = q.1 ∧ p.2.1 = q.2.1 ∧ RelV p.2.2 q.2.2) xs ys ∧
  o.ExactDict ∧ (ys.map (·.1)).Nodup ∧ ∃ es ep, o.data = .dict es ep ∧ es.toList = ys.map fun x => (⟨x.1.hash w, .ref x.2.1, x.2.2⟩ : DictEntry)

/-! ### code objects are known by what they are -/
theorem some_heap (o : Obj) (ho : o.isFreed = false) (p : Addr) : ∃ h : Heap, h.get? p = some o := by
  have sz : ∀ n : Nat, ∃ h : Heap, h.objs.size = n := by
    intro n
    induction n with
    | zero => exact ⟨{ objs := #[] }, rfl⟩
    | succ n ih =>
      obtain ⟨h, e⟩ := ih
      exact ⟨h.push o, by rw [Heap.size_push, e]⟩
  obtain ⟨h, e⟩ := sz p
  refine ⟨h.push o, ?_⟩
  rw [← e]
  exact Heap.get?_push_size h ho
/-- no code object stands there -/
def NC (H : Hp) (p : Addr) : Prop := ∀ q : Str, H p ≠ some (LamX.CodeO p q)
theorem nc_none {H : Hp} {p : Addr} (h : H p = none) : NC H p := fun q z => by rw [h] at z; cases z
theorem nc_lst {H : Hp} {p : Addr} {xs : List V} (h : H p = some (.lst xs)) : NC H p := fun q z => by
  rw [h] at z
  have z' := Option.some.inj z
  unfold LamX.CodeO at z'
  cases z'
theorem nc_dK {H : Hp} {p : Addr} {xs : List (Key × V)} (h : H p = some (.dK xs)) : NC H p := fun q z => by
  rw [h] at z
  have z' := Option.some.inj z
  unfold LamX.CodeO at z'
  cases z'
theorem nc_obX {H : Hp} {p : Addr} {o : Obj} {es : Array DictEntry} {ep : Nat} (h : H p = some (ObX p o)) (d : o.data = .dict es ep) : NC H p := fun q z => by
  rw [h] at z
  have z' := Option.some.inj z
  unfold LamX.CodeO ObX at z'
  have e1 := HO.ext.inj z'
  obtain ⟨hp, eh⟩ := some_heap o (by obtain ⟨c, dd, dt, sl⟩ := o; simp only at d; subst d; rfl) p
  have e2 : (∃ (oc : Obj) (vs : Array Value) (t : Tok), hp.get? p = some oc ∧ oc.data = .fields vs ∧ vs[1]? = some (.str q t)) := by
    have e9 : (hp.get? p = some o) = _ := congrFun e1 hp
    exact e9.mp eh
  obtain ⟨oc, vs, t, e3, e4, _⟩ := e2
  rw [eh] at e3
  cases e3
  rw [d] at e4
  cases e4
section
variable (K : PySem.W.Frag) (W : Wd)
mutual
def Rp (H : Hp) : D → V → Prop
  | .non, v => v = .non
  | .bl b, v => v = .bl b
  | .int i, v => v = .int i
  | .str x, v => v = .str x
  | .tup ds, v => ∃ a xs, v = .ref a ∧ SqT K H a xs ∧ RpL H ds xs
  | .lst ds, v => ∃ a xs, v = .ref a ∧ H a = some (.lst xs) ∧ RpL H ds xs
  | .m, v => v = .ref W.am
  | .scr ns, v => ∃ a, v = .ref a ∧ SqL K H a (ns.map V.int)
  | .dct ks vs, v => ∃ (a : Addr) (o : Obj) (xs : List (NestedKey × Addr × V)), v = .ref a ∧ H a = some (ObX a o) ∧ (a == sysModules) = false ∧ DcIs W.w o xs ∧ xs.map (·.1) = keysD ks ∧ ks.all okK = true ∧ RpL H ks (xs.map fun x => V.ref x.2.1) ∧ RpL H vs (xs.map fun x => x.2.2)
def RpL (H : Hp) : List D → List V → Prop
  | [], xs => xs = []
  | d :: ds, xs => ∃ y ys, xs = y :: ys ∧ Rp H d y ∧ RpL H ds ys
end
end
section
variable {K : PySem.W.Frag} {W : Wd} {Hk Hk' Hk1 Hk2 H H' H1 H2 : Hp}
mutual
theorem Rp.mono (e : Ex H H') : ∀ {d : D} {v : V}, Rp K W H d v → Rp K W H' d v
  | .non, _, h => h
  | .bl _, _, h => h
  | .int _, _, h => h
  | .str _, _, h => h
  | .tup ds, v, h => by
    obtain ⟨a, xs, e1, h1, h2⟩ := h
    exact ⟨a, xs, e1, ex_t e h1, RpL.mono e h2⟩
  | .lst ds, v, h => by
    obtain ⟨a, xs, e1, h1, h2⟩ := h
    exact ⟨a, xs, e1, e _ _ h1, RpL.mono e h2⟩
  | .m, _, h => h
  | .scr ns, _, h => by
    obtain ⟨a, e1, h1⟩ := h
    exact ⟨a, e1, ex_l e h1⟩
  | .dct ks vs, _, h => by
    obtain ⟨a, o, xs, e1, h1, h2, h3, h4, h5, h6, h7⟩ := h
    exact ⟨a, o, xs, e1, e _ _ h1, h2, h3, h4, h5, RpL.mono e h6, RpL.mono e h7⟩
theorem RpL.mono (e : Ex H H') : ∀ {ds : List D} {vs : List V}, RpL K W H ds vs → RpL K W H' ds vs
  | [], _, h => h
  | d :: ds, vs, h => by
    obtain ⟨y, ys, e1, h1, h2⟩ := h
    exact ⟨y, ys, e1, Rp.mono e h1, RpL.mono e h2⟩
end
theorem RpL.len : ∀ {ds : List D} {vs : List V}, RpL K W H ds vs → vs.length = ds.length
  | [], _, h => by rw [show _ = [] from h]; rfl
  | d :: ds, vs, h => by
    obtain ⟨y, ys, rfl, _, h2⟩ := h
    rw [List.length_cons, List.length_cons, RpL.len h2]
theorem RpL.get : ∀ {ds : List D} {vs : List V} {i : Nat} {d : D}, RpL K W H ds vs → ds[i]? = some d → ∃ v, vs[i]? = some v ∧ Rp K W H d v
  | [], _, _, _, _, e => by simp at e
  | d :: ds, vs, 0, x, h, e => by
    obtain ⟨y, ys, rfl, h1, _⟩ := h
    simp at e
    subst e
    exact ⟨y, rfl, h1⟩
  | d :: ds, vs, i + 1, x, h, e => by
    obtain ⟨y, ys, rfl, _, h2⟩ := h
    obtain ⟨v, e1, e2⟩ := RpL.get (i := i) h2 (by simpa using e)
    exact ⟨v, by simpa using e1, e2⟩
theorem RpL.at : ∀ {ds : List D} {vs : List V} {i : Nat} {v : V}, RpL K W H ds vs → vs[i]? = some v → ∃ d, ds[i]? = some d ∧ Rp K W H d v
  | [], _, _, _, h, e => by rw [show _ = [] from h] at e; simp at e
  | d :: ds, vs, 0, x, h, e => by
    obtain ⟨y, ys, rfl, h1, _⟩ := h
    simp at e
    subst e
    exact ⟨d, rfl, h1⟩
  | d :: ds, vs, i + 1, x, h, e => by
    obtain ⟨y, ys, rfl, _, h2⟩ := h
    obtain ⟨v, e1, e2⟩ := RpL.at (i := i) h2 (by simpa using e)
    exact ⟨v, by simpa using e1, e2⟩
theorem RpL.nil : RpL K W H [] [] := rfl
theorem RpL.cons {d : D} {ds : List D} {v : V} {vs : List V} (h : Rp K W H d v) (hs : RpL K W H ds vs) : RpL K W H (d :: ds) (v :: vs) := ⟨v, vs, rfl, h, hs⟩
theorem RpL.append : ∀ {ds es : List D} {vs us : List V}, RpL K W H ds vs → RpL K W H es us → RpL K W H (ds ++ es) (vs ++ us)
  | [], _, _, _, h, h' => by rw [show _ = [] from h]; exact h'
  | d :: ds, es, vs, us, h, h' => by
    obtain ⟨y, ys, rfl, h1, h2⟩ := h
    exact ⟨y, ys ++ us, rfl, h1, RpL.append h2 h'⟩
theorem RpL.drop : ∀ (n : Nat) {ds : List D} {vs : List V}, RpL K W H ds vs → RpL K W H (ds.drop n) (vs.drop n)
  | 0, _, _, h => h
  | n + 1, [], _, h => by rw [show _ = [] from h]; exact rfl
  | n + 1, d :: ds, vs, h => by
    obtain ⟨y, ys, rfl, h1, h2⟩ := h
    exact RpL.drop n h2
theorem RpL.take : ∀ (n : Nat) {ds : List D} {vs : List V}, RpL K W H ds vs → RpL K W H (ds.take n) (vs.take n)
  | 0, _, _, h => rfl
  | n + 1, [], _, h => by rw [show _ = [] from h]; exact rfl
  | n + 1, d :: ds, vs, h => by
    obtain ⟨y, ys, rfl, h1, h2⟩ := h
    exact ⟨y, ys.take n, rfl, h1, RpL.take n h2⟩
theorem RpL.rep {ds : List D} {vs : List V} (h : RpL K W H ds vs) : ∀ n : Nat, RpL K W H (List.replicate n ds).flatten (List.replicate n vs).flatten
  | 0 => rfl
  | n + 1 => by
    rw [List.replicate_succ, List.replicate_succ, List.flatten_cons, List.flatten_cons]
    exact h.append (RpL.rep h n)
theorem RpL.ints : ∀ {ds : List D} {vs : List V} {ns : List Int}, RpL K W H ds vs → intsD ds = some ns → vs = ns.map V.int
  | [], vs, ns, h, e => by
    rw [show vs = [] from h]
    simp only [intsD, Option.some.injEq] at e
    subst e; rfl
  | d :: ds, vs, ns, h, e => by
    obtain ⟨y, ys, rfl, h1, h2⟩ := h
    cases d with
    | int i =>
      simp only [intsD, Option.map_eq_some_iff] at e
      obtain ⟨l, e1, rfl⟩ := e
      rw [show y = V.int i from h1, RpL.ints h2 e1]; rfl
    | _ => simp only [intsD] at e; cases e
theorem RpL.bls : ∀ {ds : List D} {vs : List V} {ns : List Bool}, RpL K W H ds vs → blsD ds = some ns → vs = ns.map V.bl
  | [], vs, ns, h, e => by
    rw [show vs = [] from h]
    simp only [blsD, Option.some.injEq] at e
    subst e; rfl
  | d :: ds, vs, ns, h, e => by
    obtain ⟨y, ys, rfl, h1, h2⟩ := h
    cases d with
    | bl i =>
      simp only [blsD, Option.map_eq_some_iff] at e
      obtain ⟨l, e1, rfl⟩ := e
      rw [show y = V.bl i from h1, RpL.bls h2 e1]; rfl
    | _ => simp only [blsD] at e; cases e
theorem RpL.ofInts : ∀ (ns : List Int), RpL K W H (ns.map D.int) (ns.map V.int)
  | [] => rfl
  | n :: ns => ⟨_, _, rfl, rfl, RpL.ofInts ns⟩
mutual
theorem Rp.dp : ∀ {d : D} {v : V}, Rp K W H d v → d.pl = true → Dp K H v d.py
  | .non, v, h, _ => by rw [show v = _ from h]; exact .non
  | .bl b, v, h, _ => by rw [show v = _ from h]; exact .bl b
  | .int i, v, h, _ => by rw [show v = _ from h]; exact .int i
  | .str x, v, h, _ => by rw [show v = _ from h]; exact .str x
  | .tup ds, v, h, p => by
    obtain ⟨a, xs, rfl, h1, h2⟩ := h
    exact .tup h1 (RpL.dps h2 p)
  | .lst ds, v, h, p => by
    obtain ⟨a, xs, rfl, h1, h2⟩ := h
    exact .lst (SqL.of h1) (RpL.dps h2 p)
  | .m, _, _, p => by cases p
  | .scr _, _, _, p => by cases p
  | .dct _ _, _, _, p => by cases p
theorem RpL.dps : ∀ {ds : List D} {vs : List V}, RpL K W H ds vs → pls ds = true → DpAll K H vs (pys ds)
  | [], vs, h, _ => by rw [show vs = [] from h]; exact .nil
  | d :: ds, vs, h, p => by
    obtain ⟨y, ys, rfl, h1, h2⟩ := h
    simp only [pls, Bool.and_eq_true] at p
    exact .cons (Rp.dp h1 p.1) (RpL.dps h2 p.2)
end

/-- d stands at p as the object o -/
def Ob (K : PySem.W.Frag) (W : Wd) (H : Hp) : D → Addr → HO → Prop
  | .lst ds, _, u => ∃ xs, u = .lst xs ∧ RpL K W H ds xs
  | .dct ks vs, p, u => ∃ (o : Obj) (xs : List (NestedKey × Addr × V)), u = ObX p o ∧ (p == sysModules) = false ∧ DcIs W.w o xs ∧ xs.map (·.1) = keysD ks ∧ ks.all okK = true ∧ RpL K W H ks (xs.map fun x => V.ref x.2.1) ∧ RpL K W H vs (xs.map fun x => x.2.2)
  | _, _, _ => False
theorem Ob.mono (e : Ex H H') {d : D} {p : Addr} {u : HO} (h : Ob K W H d p u) : Ob K W H' d p u := by
  cases d <;> (try exact h.elim)
  · obtain ⟨xs, e1, h1⟩ := h
    exact ⟨xs, e1, h1.mono e⟩
  · obtain ⟨o, xs, e1, h2, h3, h4, h5, h6, h7⟩ := h
    exact ⟨o, xs, e1, h2, h3, h4, h5, h6.mono e, h7.mono e⟩
theorem Ob.is {d : D} {p : Addr} {u : HO} (h : Ob K W H d p u) : isOb d = true := by
  cases d <;> first | rfl | exact h.elim
theorem Ob.rp {d : D} {p : Addr} {u : HO} (h : Ob K W H d p u) (e : H p = some u) : Rp K W H d (.ref p) := by
  cases d <;> (try exact h.elim)
  · obtain ⟨xs, e1, h1⟩ := h
    subst e1
    exact ⟨p, xs, rfl, e, h1⟩
  · obtain ⟨o, xs, e1, h2⟩ := h
    subst e1
    exact ⟨p, o, xs, rfl, e, h2⟩
theorem Ob.nc {d : D} {p : Addr} {u : HO} (h : Ob K W H1 d p u) (e : H p = some u) : NC H p := by
  cases d <;> (try exact h.elim)
  · obtain ⟨xs, e1, _⟩ := h
    subst e1
    exact nc_lst e
  · obtain ⟨o, xs, e1, _, ⟨ys, _, _, _, es, ep, dd, _⟩, _⟩ := h
    subst e1
    exact nc_obX e dd
theorem Ob.ntb {d : D} {p : Addr} {u : HO} (h : Ob K W H1 d p u) : ∀ ps, u ≠ .tbl ps := by
  cases d <;> (try exact h.elim)
  · obtain ⟨xs, e1, _⟩ := h
    subst e1
    intro ps z; cases z
  · obtain ⟨o, xs, e1, _⟩ := h
    subst e1
    intro ps z
    unfold ObX at z
    cases z
/-- the drawing state stands -/
structure GOk (g : G) : Prop where
  len : g.cells.length = 64
  cel : ∀ c ∈ g.cells, 0 ≤ c ∧ c < 2 ^ 31
  spot : 0 ≤ g.spot
  gl : g.great.length ≤ 63
def mDict (W : Wd) (g : G) : HO := .dK [(.inr "cells", .ref W.ac), (.inr "great", .ref W.ag), (.inr "spot", .int g.spot)]
structure DrawAt (W : Wd) (g : G) (H : Hp) : Prop where
  m : H W.am = some (mDict W g)
  c : H W.ac = some (.lst (g.cells.map V.int))
  gr : H W.ag = some (.lst (g.great.map V.int))
  ne : W.ac ≠ W.ag
  ok : GOk g
  tab : LamX.Tabs W.tb H
  tin : ∀ b ps, H b = some (.tbl ps) → ∃ q ∈ W.tb, b = q.1
theorem DrawAt.mc {g : G} (h : DrawAt W g H) : W.am ≠ W.ac := ne_of h.m h.c (by intro q; cases q)
theorem DrawAt.mg {g : G} (h : DrawAt W g H) : W.am ≠ W.ag := ne_of h.m h.gr (by intro q; cases q)
def Wd.out (W : Wd) (b : Addr) : Prop := b ≠ W.am ∧ b ≠ W.ac ∧ b ≠ W.ag ∧ ∀ q ∈ W.tb, b ≠ q.1

structure Step (W : Wd) (Hk H Hk' H' : Hp) : Prop where
  k : Ex Hk Hk'
  kh : Ex Hk' H'
  h : ∀ b o, H b = some o → W.out b → H' b = some o
  t : ∀ b o, H b = some o → ∃ o', H' b = some o'
  n : ∀ b o, Hk' b = some o → Hk b = none → H b = none
theorem Step.refl (e : Ex Hk H) : Step W Hk H Hk H := ⟨Ex.refl _, e, fun _ _ h _ => h, fun _ o h => ⟨o, h⟩, fun b o h h' => by rw [h] at h'; cases h'⟩
theorem Step.trans (a : Step W Hk H Hk1 H1) (b : Step W Hk1 H1 Hk2 H2) : Step W Hk H Hk2 H2 where
  k := a.k.trans b.k
  kh := b.kh
  h := fun x o h hx => b.h x o (a.h x o h hx) hx
  t := fun x o h => by
    obtain ⟨o', h'⟩ := a.t x o h
    exact b.t x o' h'
  n := fun x o h h' => by
    cases q : Hk1 x with
    | some o' => exact a.n x o' q h'
    | none =>
      have q1 := b.n x o h q
      cases q2 : H x with
      | none => rfl
      | some o' =>
        obtain ⟨o2, h2⟩ := a.t x o' q2
        rw [q1] at h2; cases h2
/-- a new object, known -/
theorem Step.new {p : Addr} {o : HO} (e : Ex Hk H) (hp : H p = none) : Step W Hk H (upd Hk p o) (upd H p o) where
  k := Ex.new (by
    cases q : Hk p with
    | none => rfl
    | some u => rw [e p u q] at hp; cases hp)
  kh := fun b u hb => by
    by_cases hbp : b = p
    · subst hbp; rw [upd_same] at hb ⊢; exact hb
    · rw [upd_ne hbp] at hb ⊢; exact e b u hb
  h := fun b u hb _ => by rw [upd_ne (ne_of_none hb hp)]; exact hb
  t := fun b u hb => ⟨u, by rw [upd_ne (ne_of_none hb hp)]; exact hb⟩
  n := fun b u hb hn => by
    by_cases hbp : b = p
    · subst hbp; exact hp
    · rw [upd_ne hbp, hn] at hb; cases hb
/-- a new object, not (yet) known -/
theorem Step.hid {p : Addr} {o : HO} (e : Ex Hk H) (hp : H p = none) : Step W Hk H Hk (upd H p o) where
  k := Ex.refl _
  kh := fun b u hb => by
    have h := e b u hb
    rw [upd_ne (ne_of_none h hp)]; exact h
  h := fun b u hb _ => by rw [upd_ne (ne_of_none hb hp)]; exact hb
  t := fun b u hb => ⟨u, by rw [upd_ne (ne_of_none hb hp)]; exact hb⟩
  n := fun b u hb hn => by rw [hb] at hn; cases hn
/-- it becomes known -/
theorem Step.tell {p : Addr} {o : HO} (s : Step W Hk H Hk' H') (hp : H p = none) (h' : H' p = some o) : Step W Hk H (upd Hk' p o) H' where
  k := fun b u hb => by
    by_cases hbp : b = p
    · subst hbp
      have q := s.kh _ _ (s.k _ _ hb)
      rw [h'] at q; cases q
      exact upd_same
    · rw [upd_ne hbp]; exact s.k b u hb
  kh := fun b u hb => by
    by_cases hbp : b = p
    · subst hbp; rw [upd_same] at hb; cases hb; exact h'
    · rw [upd_ne hbp] at hb; exact s.kh b u hb
  h := s.h
  t := s.t
  n := fun b u hb hn => by
    by_cases hbp : b = p
    · subst hbp; exact hp
    · rw [upd_ne hbp] at hb; exact s.n b u hb hn
/-- an unknown object that was not there ahead is changed -/
theorem Step.mut {p : Addr} {o : HO} (s : Step W Hk H Hk' H') (hp : H p = none) (hk : Hk' p = none) : Step W Hk H Hk' (upd H' p o) where
  k := s.k
  kh := fun b u hb => by rw [upd_ne (ne_of_none hb hk)]; exact s.kh b u hb
  h := fun b u hb hx => by rw [upd_ne (ne_of_none hb hp)]; exact s.h b u hb hx
  t := fun b u hb => by rw [upd_ne (ne_of_none hb hp)]; exact s.t b u hb
  n := s.n
/-- the known part at what stays -/
theorem Step.unk {p : Addr} {o : HO} (s : Step W Hk H Hk' H') (hk : Hk p = none) (hp : H p = some o) : Hk' p = none := by
  cases q : Hk' p with
  | none => rfl
  | some u => have := s.n p u q hk; rw [hp] at this; cases this

theorem ex_upd_out {p : Addr} {g : G} (h : DrawAt W g H) (hp : H p = none) : W.out p :=
  ⟨fun e => (by rw [e, h.m] at hp; cases hp), fun e => (by rw [e, h.c] at hp; cases hp), fun e => (by rw [e, h.gr] at hp; cases hp), fun q hq e => by
    obtain ⟨ps, e1, _⟩ := h.tab q hq
    rw [e, e1] at hp
    cases hp⟩
theorem tabs_upd {T : List (Addr × Str)} {p : Addr} {o : HO} (t : LamX.Tabs T H) (hp : ∀ q ∈ T, p ≠ q.1) (hc : NC H p) : LamX.Tabs T (upd H p o) := fun q hq => by
  obtain ⟨ps, e1, e2, e3⟩ := t q hq
  refine ⟨ps, by rw [upd_ne (Ne.symm (hp q hq))]; exact e1, e2, fun pos cv z => ?_⟩
  obtain ⟨c, q1, q2⟩ := e3 pos cv z
  refine ⟨c, q1, ?_⟩
  by_cases hcp : c = p
  · subst hcp
    exact absurd q2 (hc _)
  · rw [upd_ne hcp]
    exact q2
theorem DrawAt.tne {g : G} (h : DrawAt W g H) : (∀ q ∈ W.tb, W.am ≠ q.1) ∧ (∀ q ∈ W.tb, W.ac ≠ q.1) ∧ ∀ q ∈ W.tb, W.ag ≠ q.1 := by
  refine ⟨fun q hq e => ?_, fun q hq e => ?_, fun q hq e => ?_⟩
  · obtain ⟨ps, e1, _⟩ := h.tab q hq
    have := h.m
    rw [e, e1] at this
    cases this
  · obtain ⟨ps, e1, _⟩ := h.tab q hq
    have := h.c
    rw [e, e1] at this
    cases this
  · obtain ⟨ps, e1, _⟩ := h.tab q hq
    have := h.gr
    rw [e, e1] at this
    cases this
theorem tin_upd {T : List (Addr × Str)} {p : Addr} {o : HO} (t : ∀ b ps, H b = some (.tbl ps) → ∃ q ∈ T, b = q.1) (ho : ∀ ps, o ≠ .tbl ps) : ∀ b ps, L2.upd H p o b = some (.tbl ps) → ∃ q ∈ T, b = q.1 := fun b ps e => by
  by_cases hb : b = p
  · subst hb
    rw [upd_same] at e
    exact absurd (Option.some.inj e) (ho ps)
  · rw [upd_ne hb] at e
    exact t b ps e
theorem DrawAt.upd {p : Addr} {o : HO} {g : G} (h : DrawAt W g H) (hp : W.out p) (hc : NC H p) (ho : ∀ ps, o ≠ .tbl ps := by intro _ z; first | cases z | (unfold Bk.ObX at z; cases z)) : DrawAt W g (upd H p o) :=
  ⟨by rw [upd_ne (Ne.symm hp.1)]; exact h.m, by rw [upd_ne (Ne.symm hp.2.1)]; exact h.c, by rw [upd_ne (Ne.symm hp.2.2.1)]; exact h.gr, h.ne, h.ok, tabs_upd h.tab hp.2.2.2 hc, fun b ps e => by
    by_cases hb : b = p
    · subst hb
      rw [upd_same] at e
      exact absurd (Option.some.inj e) (ho ps)
    · rw [upd_ne hb] at e
      exact h.tin b ps e⟩
theorem DrawAt.new {p : Addr} {o : HO} {g : G} (h : DrawAt W g H) (hp : H p = none) (ho : ∀ ps, o ≠ .tbl ps := by intro _ z; first | cases z | (unfold Bk.ObX at z; cases z)) : DrawAt W g (L2.upd H p o) := h.upd (ex_upd_out h hp) (nc_none hp) ho
/-- a lambda is made: its table, its code object -/
theorem Step.lam {g : G} (e : Ex Hk H) (h : DrawAt W g H) (hk : ∀ q ∈ W.tb, Hk q.1 = none) (x : LamX.ExtN H H') (t : LamX.Tabs W.tb H') : Step W Hk H Hk H' where
  k := Ex.refl _
  kh := fun b u hb => by
    have e1 := e b u hb
    refine x b u e1 fun ps z => ?_
    subst z
    obtain ⟨q, hq, rfl⟩ := h.tin b ps e1
    rw [hk q hq] at hb
    cases hb
  h := fun b u hb ho => x b u hb fun ps z => by
    subst z
    obtain ⟨q, hq, e1⟩ := h.tin b ps hb
    exact ho.2.2.2 q hq e1
  t := fun b u hb => by
    by_cases z : ∃ ps, u = .tbl ps
    · obtain ⟨ps, rfl⟩ := z
      obtain ⟨q, hq, rfl⟩ := h.tin b ps hb
      obtain ⟨ps', e1, _⟩ := t q hq
      exact ⟨_, e1⟩
    · exact ⟨u, x b u hb fun ps w => z ⟨ps, w⟩⟩
  n := fun b u hb hn => by rw [hb] at hn; cases hn

/-- the world at a call -/
structure Wk (W : Wd) (g : G) (Hk H : Hp) : Prop where
  ex : Ex Hk H
  m : Hk W.am = none
  c : Hk W.ac = none
  gr : Hk W.ag = none
  tk : ∀ q ∈ W.tb, Hk q.1 = none
  dr : DrawAt W g H
theorem Wk.step {g g' : G} (w : Wk W g Hk H) (s : Step W Hk H Hk' H') (d : DrawAt W g' H') : Wk W g' Hk' H' :=
  ⟨s.kh, s.unk w.m w.dr.m, s.unk w.c w.dr.c, s.unk w.gr w.dr.gr, fun q hq => by
    obtain ⟨ps, e1, _⟩ := w.dr.tab q hq
    exact s.unk (w.tk q hq) e1, d⟩

/-- what is wanted of a result -/
def Flds (K : PySem.W.Frag) (W : Wd) (Hk : Hp) : List Str → List D → List (Str × V) → Prop
  | [], [], _ => True
  | n :: ns, d :: ds, fs => (∃ v, fs.lookup n = some v ∧ Rp K W Hk d v) ∧ Flds K W Hk ns ds fs
  | _, _, _ => False
def ExcAt (W : Wd) (c : Nat) (ds : List D) (cls : Value) (dx : Option Addr) (Hk H : Hp) : Prop :=
  ∃ (C : Addr) (ns : List Str) (d : Addr) (fs : List (Str × V)), W.xc.lookup c = some (C, ns) ∧ cls = .ref C ∧ dx = some d ∧ H d = some (.xd fs) ∧ Flds W.k W Hk ns ds fs
def Fin {α : Type} (W : Wd) (Ew : XK) (Hk H : Hp) (r : R α) (k : α → G → Hp → Hp → Prop) : Prop := match r with
  | .ok a g => ∀ Hk' H', Step W Hk H Hk' H' → DrawAt W g H' → k a g Hk' H'
  | .ex c ds g => ∀ Hk' H' cls dx, Step W Hk H Hk' H' → DrawAt W g H' → ExcAt W c ds cls dx Hk' H' → Ew cls dx H'
  | .st => False
theorem Fin.mono {α : Type} {Ew : XK} {r : R α} {k k' : α → G → Hp → Hp → Prop} (h : Fin W Ew Hk H r k) (hk : ∀ a g Hk' H', Step W Hk H Hk' H' → DrawAt W g H' → k a g Hk' H' → k' a g Hk' H') : Fin W Ew Hk H r k' := by
  cases r with
  | ok a g => exact fun Hk' H' s d => hk a g Hk' H' s d (h Hk' H' s d)
  | ex c ds g => exact h
  | st => exact h
theorem Fin.step {α : Type} {Ew : XK} {r : R α} {k : α → G → Hp → Hp → Prop} (s : Step W Hk H Hk' H') (h : Fin W Ew Hk H r k) : Fin W Ew Hk' H' r k := by
  cases r with
  | ok a g => exact fun Hk2 H2 s2 d => h Hk2 H2 (s.trans s2) d
  | ex c ds g => exact fun Hk2 H2 cls dx s2 d x => h Hk2 H2 cls dx (s.trans s2) d x
  | st => exact h
theorem Fin.bind {α β : Type} {Ew : XK} {r : R α} {f : α → G → R β} {k : β → G → Hp → Hp → Prop} (h : Fin W Ew Hk H (r.bind f) k) :
    Fin W Ew Hk H r fun a g Hk' H' => Fin W Ew Hk' H' (f a g) k := by
  cases r with
  | ok a g => exact fun Hk' H' s d => Fin.step s h
  | ex c ds g => exact h
  | st => exact h
theorem Fin.lift {α : Type} {Ew : XK} {o : Option α} {g : G} {k : α → G → Hp → Hp → Prop} (h : Fin W Ew Hk H (lift o g) k) :
    ∃ a, o = some a ∧ ∀ Hk' H', Step W Hk H Hk' H' → DrawAt W g H' → k a g Hk' H' := by
  cases o with
  | none => exact h.elim
  | some a => exact ⟨a, rfl, h⟩

/-! ### the names' values -/
inductive GmR (K : PySem.W.Frag) (W : Wd) (Hk H : Hp) : Gm → St → List Addr → Prop where
  | nil : GmR K W Hk H [] [] []
  | no {Γ σ os} (o : Option V) : GmR K W Hk H Γ σ os → GmR K W Hk H (.no :: Γ) (o :: σ) os
  | val {Γ σ os d v} : Rp K W Hk d v → GmR K W Hk H Γ σ os → GmR K W Hk H (.val d :: Γ) (some v :: σ) os
  | own {Γ σ os d p u} : H p = some u → Ob K W Hk d p u → GmR K W Hk H Γ σ os → GmR K W Hk H (.own d :: Γ) (some (.ref p) :: σ) (p :: os)
/-- Hk0, H0: the heaps at the def's entry -/
structure Fr (K : PySem.W.Frag) (W : Wd) (Hk0 H0 : Hp) (Γ : Gm) (g : G) (σ : St) (Hk H : Hp) : Prop where
  wk : Wk W g Hk H
  en : Step W Hk0 H0 Hk H
  sl : ∃ os, GmR K W Hk H Γ σ os ∧ os.Nodup ∧ ∀ p ∈ os, Hk p = none ∧ H0 p = none ∧ W.out p
section
variable {Γ : Gm} {σ : St} {os : List Addr} {Hk0 H0 : Hp} {g g' : G}
theorem GmR.len (h : GmR K W Hk H Γ σ os) : σ.length = Γ.length := by
  induction h with
  | nil => rfl
  | no o _ ih => simp [ih]
  | val _ _ ih => simp [ih]
  | own _ _ _ ih => simp [ih]
theorem GmR.val_at (h : GmR K W Hk H Γ σ os) : ∀ {i : Nat} {d : D}, Γ[i]? = some (.val d) → ∃ v, σ[i]? = some (some v) ∧ Rp K W Hk d v := by
  induction h with
  | nil => intro i d e; simp at e
  | no o _ ih =>
    intro i d e
    cases i with
    | zero => simp at e
    | succ i => simpa using ih (i := i) (d := d) (by simpa using e)
  | val r _ ih =>
    intro i d e
    cases i with
    | zero => simp at e; subst e; exact ⟨_, rfl, r⟩
    | succ i => simpa using ih (i := i) (d := d) (by simpa using e)
  | own _ _ _ ih =>
    intro i d e
    cases i with
    | zero => simp at e
    | succ i => simpa using ih (i := i) (d := d) (by simpa using e)
theorem GmR.mono (h : GmR K W Hk H Γ σ os) (e : Ex Hk Hk') (ho : ∀ p ∈ os, ∀ u, H p = some u → H' p = some u) : GmR K W Hk' H' Γ σ os := by
  induction h with
  | nil => exact .nil
  | no o _ ih => exact .no o (ih ho)
  | val r _ ih => exact .val (r.mono e) (ih ho)
  | own h1 h2 _ ih => exact .own (ho _ List.mem_cons_self _ h1) (h2.mono e) (ih fun p hp => ho p (List.mem_cons_of_mem _ hp))
theorem GmR.owned (h : GmR K W Hk H Γ σ os) : ∀ p ∈ os, ∃ u, H p = some u := by
  induction h with
  | nil => intro p hp; cases hp
  | no o _ ih => exact ih
  | val _ _ ih => exact ih
  | own h1 _ _ ih =>
    intro p hp
    rcases List.mem_cons.mp hp with rfl | hp
    · exact ⟨_, h1⟩
    · exact ih p hp
theorem GmR.obj_at (h : GmR K W Hk H Γ σ os) : ∀ {i : Nat} {d : D}, Γ[i]? = some (.own d) → ∃ p u, σ[i]? = some (some (.ref p)) ∧ p ∈ os ∧ H p = some u ∧ Ob K W Hk d p u := by
  induction h with
  | nil => intro i d e; simp at e
  | no o _ ih =>
    intro i d e
    cases i with
    | zero => simp at e
    | succ i => simpa using ih (i := i) (d := d) (by simpa using e)
  | val r _ ih =>
    intro i d e
    cases i with
    | zero => simp at e
    | succ i => simpa using ih (i := i) (d := d) (by simpa using e)
  | own h1 h2 _ ih =>
    intro i d e
    cases i with
    | zero => simp at e; subst e; exact ⟨_, _, rfl, List.mem_cons_self, h1, h2⟩
    | succ i =>
      obtain ⟨p, u, e2, e3, e4, e5⟩ := ih (i := i) (d := d) (by simpa using e)
      exact ⟨p, u, by simpa using e2, List.mem_cons_of_mem _ e3, e4, e5⟩
theorem GmR.own_at (h : GmR K W Hk H Γ σ os) {i : Nat} {ds : List D} (e : Γ[i]? = some (.own (.lst ds))) : ∃ p xs, σ[i]? = some (some (.ref p)) ∧ p ∈ os ∧ H p = some (.lst xs) ∧ RpL K W Hk ds xs := by
  obtain ⟨p, u, e2, e3, e4, xs, rfl, e5⟩ := h.obj_at e
  exact ⟨p, xs, e2, e3, e4, e5⟩
/-- a name gets a value: what it owned is owned no more -/
theorem GmR.set (h : GmR K W Hk H Γ σ os) : ∀ (i : Nat) {d : D} {v : V}, Rp K W Hk d v → ∃ os', GmR K W Hk H (Γ.set i (.val d)) (σ.set i (some v)) os' ∧ os'.Sublist os := by
  induction h with
  | nil => intro i d v r; exact ⟨[], .nil, List.Sublist.refl _⟩
  | no o t ih =>
    intro i d v r
    cases i with
    | zero => exact ⟨_, .val r t, List.Sublist.refl _⟩
    | succ i => obtain ⟨os', t', s⟩ := ih i r; exact ⟨os', .no o t', s⟩
  | val q t ih =>
    intro i d v r
    cases i with
    | zero => exact ⟨_, .val r t, List.Sublist.refl _⟩
    | succ i => obtain ⟨os', t', s⟩ := ih i r; exact ⟨os', .val q t', s⟩
  | own h1 h2 t ih =>
    intro i d v r
    cases i with
    | zero => exact ⟨_, .val r t, List.sublist_cons_self _ _⟩
    | succ i => obtain ⟨os', t', s⟩ := ih i r; exact ⟨_, .own h1 h2 t', s.cons₂ _⟩
/-- a name gets a new list -/
theorem GmR.setOwn (h : GmR K W Hk H Γ σ os) : ∀ (i : Nat) {ds : D} {p : Addr} {xs : HO}, i < Γ.length → H p = some xs → Ob K W Hk ds p xs → p ∉ os → os.Nodup →
    ∃ os', GmR K W Hk H (Γ.set i (.own ds)) (σ.set i (some (.ref p))) os' ∧ os'.Nodup ∧ ∀ q ∈ os', q = p ∨ q ∈ os := by
  induction h with
  | nil => intro i ds p xs hi; simp at hi
  | no o t ih =>
    intro i ds p xs hi hp hr hn nd
    cases i with
    | zero => exact ⟨_, .own hp hr t, List.nodup_cons.mpr ⟨hn, nd⟩, fun q hq => by simpa using hq⟩
    | succ i => obtain ⟨os', t', s⟩ := ih i (by simpa using hi) hp hr hn nd; exact ⟨os', .no o t', s⟩
  | val q t ih =>
    intro i ds p xs hi hp hr hn nd
    cases i with
    | zero => exact ⟨_, .own hp hr t, List.nodup_cons.mpr ⟨hn, nd⟩, fun q hq => by simpa using hq⟩
    | succ i => obtain ⟨os', t', s⟩ := ih i (by simpa using hi) hp hr hn nd; exact ⟨os', .val q t', s⟩
  | own h1 h2 t ih =>
    intro i ds p xs hi hp hr hn nd
    cases i with
    | zero =>
      exact ⟨_, .own hp hr t, List.nodup_cons.mpr ⟨fun z => hn (List.mem_cons_of_mem _ z), (List.nodup_cons.mp nd).2⟩, fun q hq => by
        rcases List.mem_cons.mp hq with z | z
        · exact .inl z
        · exact .inr (List.mem_cons_of_mem _ z)⟩
    | succ i =>
      obtain ⟨os', t', nd', s⟩ := ih i (by simpa using hi) hp hr (fun z => hn (List.mem_cons_of_mem _ z)) (List.nodup_cons.mp nd).2
      refine ⟨_, .own h1 h2 t', List.nodup_cons.mpr ⟨fun z => ?_, nd'⟩, fun q hq => ?_⟩
      · rcases s _ z with z | z
        · exact hn (by rw [← z]; exact List.mem_cons_self)
        · exact (List.nodup_cons.mp nd).1 z
      · rcases List.mem_cons.mp hq with z | z
        · exact .inr (by rw [z]; exact List.mem_cons_self)
        · rcases s q z with z | z
          · exact .inl z
          · exact .inr (List.mem_cons_of_mem _ z)
/-- an owned list is changed -/
theorem GmR.chg (h : GmR K W Hk H Γ σ os) : ∀ {i : Nat} {d : D} {p : Addr} {es : D} {ys : HO}, os.Nodup → Γ[i]? = some (.own d) → σ[i]? = some (some (.ref p)) → Ob K W Hk es p ys →
    GmR K W Hk (upd H p ys) (Γ.set i (.own es)) σ os := by
  induction h with
  | nil => intro i d p es ys nd e; simp at e
  | no o t ih =>
    intro i d p es ys nd e e2 r
    cases i with
    | zero => simp at e
    | succ i => exact .no o (ih nd (by simpa using e) (by simpa using e2) r)
  | val q t ih =>
    intro i d p es ys nd e e2 r
    cases i with
    | zero => simp at e
    | succ i => exact .val q (ih nd (by simpa using e) (by simpa using e2) r)
  | @own Γ σ os ds p0 xs h1 h2 t ih =>
    intro i d p es ys nd e e2 r
    have nd' := List.nodup_cons.mp nd
    cases i with
    | zero =>
      simp at e2
      subst e2
      exact .own upd_same r (t.mono (Ex.refl _) fun q hq xs h => by rw [upd_ne (show q ≠ p0 from fun z => nd'.1 (z ▸ hq))]; exact h)
    | succ i =>
      have hp : p ∈ os := by
        obtain ⟨p', _, q1, q2, _⟩ := t.obj_at (i := i) (d := d) (by simpa using e)
        rw [show σ[i]? = some (some (.ref p)) by simpa using e2] at q1
        cases q1
        exact q2
      exact .own (by rw [upd_ne (show p0 ≠ p from fun z => nd'.1 (z ▸ hp))]; exact h1) h2 (ih nd'.2 (by simpa using e) (by simpa using e2) r)
theorem GmR.wipe (h : GmR K W Hk H Γ σ os) : ∀ (i : Nat), ∃ os', GmR K W Hk H (Γ.set i .no) (σ.set i none) os' ∧ os'.Sublist os := by
  induction h with
  | nil => intro i; exact ⟨[], .nil, List.Sublist.refl _⟩
  | no o t ih =>
    intro i
    cases i with
    | zero => exact ⟨_, .no none t, List.Sublist.refl _⟩
    | succ i => obtain ⟨os', t', s⟩ := ih i; exact ⟨os', .no o t', s⟩
  | val q t ih =>
    intro i
    cases i with
    | zero => exact ⟨_, .no none t, List.Sublist.refl _⟩
    | succ i => obtain ⟨os', t', s⟩ := ih i; exact ⟨os', .val q t', s⟩
  | own h1 h2 t ih =>
    intro i
    cases i with
    | zero => exact ⟨_, .no none t, List.sublist_cons_self _ _⟩
    | succ i => obtain ⟨os', t', s⟩ := ih i; exact ⟨_, .own h1 h2 t', s.cons₂ _⟩

theorem Fr.step (f : Fr K W Hk0 H0 Γ g σ Hk H) (s : Step W Hk H Hk' H') (d : DrawAt W g' H') : Fr K W Hk0 H0 Γ g' σ Hk' H' := by
  obtain ⟨os, h, nd, ho⟩ := f.sl
  refine ⟨f.wk.step s d, f.en.trans s, os, h.mono s.k fun p hp xs e => s.h p _ e (ho p hp).2.2, nd, fun p hp => ?_⟩
  obtain ⟨xs, e⟩ := h.owned p hp
  exact ⟨s.unk (ho p hp).1 e, (ho p hp).2⟩
theorem Fr.set (f : Fr K W Hk0 H0 Γ g σ Hk H) {i : Nat} {d : D} {v : V} (r : Rp K W Hk d v) : Fr K W Hk0 H0 (Γ.set i (.val d)) g (σ.set i (some v)) Hk H := by
  obtain ⟨os, h, nd, ho⟩ := f.sl
  obtain ⟨os', h', s⟩ := h.set i r
  exact ⟨f.wk, f.en, os', h', nd.sublist s, fun p hp => ho p (s.subset hp)⟩
theorem Fr.wipe (f : Fr K W Hk0 H0 Γ g σ Hk H) : ∀ (vs : List Nat), Fr K W Hk0 H0 (wipeG Γ vs) g (L2.wipe σ vs) Hk H
  | [] => f
  | v :: vs => by
    obtain ⟨os, h, nd, ho⟩ := (Fr.wipe f vs).sl
    obtain ⟨os', h', s⟩ := h.wipe v
    exact ⟨f.wk, f.en, os', h', nd.sublist s, fun p hp => ho p (s.subset hp)⟩
/-- a new list, owned -/
theorem Fr.setOwn (f : Fr K W Hk0 H0 Γ g σ Hk H) {i : Nat} {ds : D} {p : Addr} {xs : HO} (hi : i < Γ.length) (hp : H p = some xs) (hk : Hk p = none) (h0 : H0 p = none) (ho : W.out p)
    (r : Ob K W Hk ds p xs) (hn : ∀ (j : Nat) (q : D), Γ[j]? = some (Slot.own q) → σ[j]? ≠ some (some (V.ref p))) : Fr K W Hk0 H0 (Γ.set i (.own ds)) g (σ.set i (some (.ref p))) Hk H := by
  obtain ⟨os, h, nd, hos⟩ := f.sl
  have hpo : p ∉ os := by
    intro hm
    have : ∀ {Γ : Gm} {σ : St} {os : List Addr}, GmR K W Hk H Γ σ os → p ∈ os → ∃ (j : Nat) (q : D), Γ[j]? = some (Slot.own q) ∧ σ[j]? = some (some (V.ref p)) := by
      intro Γ σ os t
      induction t with
      | nil => intro z; cases z
      | no o _ ih => intro z; obtain ⟨j, q, a, b⟩ := ih z; exact ⟨j + 1, q, by simpa using a, by simpa using b⟩
      | val _ _ ih => intro z; obtain ⟨j, q, a, b⟩ := ih z; exact ⟨j + 1, q, by simpa using a, by simpa using b⟩
      | own _ _ _ ih =>
        intro z
        rcases List.mem_cons.mp z with rfl | z
        · exact ⟨0, _, rfl, rfl⟩
        · obtain ⟨j, q, a, b⟩ := ih z; exact ⟨j + 1, q, by simpa using a, by simpa using b⟩
    obtain ⟨j, q, a, b⟩ := this h hm
    exact hn j q a b
  obtain ⟨os', h', nd', s⟩ := h.setOwn i hi hp r hpo nd
  refine ⟨f.wk, f.en, os', h', nd', fun q hq => ?_⟩
  rcases s q hq with rfl | z
  · exact ⟨hk, h0, ho⟩
  · exact hos q z
theorem Fr.len (f : Fr K W Hk0 H0 Γ g σ Hk H) : σ.length = Γ.length := let ⟨_, h, _⟩ := f.sl; h.len
end
end
end Bk

set_option Elab.async false
set_option linter.all false
set_option maxRecDepth 100000
set_option maxHeartbeats 4000000
/-! Rules that HandS lacks: t * 1, sum of a tuple, the greatest and the least of alike data. -/
namespace L2
open PySem PySem.Spec PyProof.Rows
theorem tuple_mul1 (l : Addr) (items : Array Value) (n : Nat) (dd : Option Addr) (sl : Array (Option Value)) (u : Tok) (hne : (items.isEmpty || (1 : Int) == 1) = true) :
    Meets (Builtin.«tuple.__mul__» ⟨[.ref l, .int 1 u], []⟩) (fun _ R s => s.heap.get? l = some { cls := .type "tuple", dict := dd, data := .seq items n, slots := sl } ∧
      R (.ok (.ret (Value.ref l))) s) :=
  .of_wp fun prog w A R s h => by
    obtain ⟨hp, g, d, tk, os⟩ := s
    obtain ⟨hl, h⟩ := h
    have f1 := AutoSeq1.idx_int
    wp_walk using wpAny_loadPart' hl
    repeat (first
      | (refine wpAny_ite_false (decide_eq_false (by decide)) ?_; wp_walk using wpAny_loadPart' hl)
      | (refine wpAny_ite_true (decide_eq_true (by rw [hne])) ?_; wp_walk using wpAny_loadPart' hl))
    exact ⟨_, rfl, h⟩
def rRepT1 (K : PySem.W.Frag) : R2 := fun x y H Q => ∃ l xs, x = .ref l ∧ y = .int 1 ∧ SqT K H l xs ∧ Q (.ref l) H
section
variable {X : Cx}
theorem op_repT1 : OpR X (binaryOp .Mult) (rRepT1 X.K) := by
  intro pins s σ H x y v u Q I rx ry h
  obtain ⟨l, xs, rfl, rfl, hT, q⟩ := h
  cases rx
  obtain ⟨t, rfl⟩ := ry
  obtain ⟨its, r, ⟨⟨cls, dd, data, sl⟩, ho, hc, n, hd⟩, hs⟩ := I.tuple hT
  simp only at hc hd
  subst hc hd
  have c1 : (its.toArray.isEmpty || (1 : Int) == 1) = true := by simp
  refine wpAny_binaryOp_repeat_ref (T := "tuple") (U := "int") (by decide) ⟨_, ho, rfl⟩ (fun s' => typeIs_int s' 1 t) noFill_tuple_mul F.fills_int_mul F.slot_int_rmul repeat_tuple F.slot_int_index.lookup
    (call_meets F.slot_int_rmul (typeIs_int s 1 t) F.entry_int_rmul (F.args_int_rmul_2 _ _) (int_rmul_tuple 1 t l its.toArray n dd sl)
      ⟨ho, rfl, ⟨_, ho, rfl⟩, call_meets F.slot_tuple_mul ⟨_, ho, rfl⟩ F.entry_tuple_mul (F.args_tuple_mul_2 _ _) (tuple_mul1 l its.toArray n dd sl t c1) ⟨ho, ?_⟩⟩)
  exact ⟨.ref l, H, I, rfl, q⟩
theorem sumt_raw {prog : Program} {w : World} {A : Around} {E : Value → Shared → Prop} {s : Shared} {l : Addr} {its : List Value} {ns : List Int} {Q : Value → Shared → Prop} (hh : A.handled = none) (hl : s.heap.IsTuple l its.toArray) (hi : IntsAre its ns)
    (h : ∀ h' tk t', (∀ b o, s.heap.get? b = some o → h'.get? b = some o) → Q (.int ns.sum t') { s with heap := h', toks := tk }) : wpAny (model prog w) A (call (.builtin "sum") [.ref l]) Q E s := by
  obtain ⟨xs, e⟩ := hi.allInts.items
  have hn : numsOf (intItems xs).toList = ns := by rw [← e]; exact hi.numsOf
  rw [nums_intItems] at hn
  rw [e] at hl
  refine PySem.W.ktm_sumG hh hl fun h' tk t' hk => ?_
  have := h h' tk t' hk
  rw [preSum_eq, List.take_of_length_le (by simp), hn]; exact this
def rSumT (K : PySem.W.Frag) : List V → Hp → VK → Prop := fun vs H Q => ∃ (a : Addr) (ns : List Int), vs = [V.ref a] ∧ SqT K H a (ns.map V.int) ∧ Q (.int ns.sum) H
theorem cr_sumT (hc : X.calm = true) : CallR X (.builtin "sum") (rSumT X.K) := by
  intro pins s σ H vs us Q I r h
  obtain ⟨a, ns, rfl, hs, q⟩ := h
  obtain ⟨its, rv, hl, _⟩ := I.tuple hs
  rw [Vals.ref1 r]
  exact sumt_raw (I.ok.hd hc) hl rv.ints fun h' tk t' hk => ⟨.int _, H, I.kept hk, ⟨_, rfl⟩, q⟩
end
end L2
namespace Bk
open PySem L2
open Evl (Ex ex_l ex_t)
mutual
theorem py_inj : ∀ (a b : D), a.pl = true → b.pl = true → a.py = b.py → a = b
  | .non, b, _, q, e => by cases b <;> simp_all [D.py, D.pl]
  | .bl x, b, _, q, e => by cases b <;> simp_all [D.py, D.pl]
  | .int x, b, _, q, e => by cases b <;> simp_all [D.py, D.pl]
  | .str x, b, _, q, e => by cases b <;> simp_all [D.py, D.pl]
  | .tup xs, b, p, q, e => by
    cases b with
    | tup ys =>
      simp only [D.py, PyData.tuple.injEq] at e
      rw [pys_inj xs ys p q e]
    | _ => simp [D.py] at e
  | .lst xs, b, p, q, e => by
    cases b with
    | lst ys =>
      simp only [D.py, PyData.list.injEq] at e
      rw [pys_inj xs ys p q e]
    | _ => simp [D.py] at e
  | .m, _, p, _, _ => by simp [D.pl] at p
  | .scr _, _, p, _, _ => by simp [D.pl] at p
theorem pys_inj : ∀ (a b : List D), pls a = true → pls b = true → pys a = pys b → a = b
  | [], [], _, _, _ => rfl
  | [], _ :: _, _, _, e => by simp [pys] at e
  | _ :: _, [], _, _, e => by simp [pys] at e
  | x :: xs, y :: ys, p, q, e => by
    simp only [pls, Bool.and_eq_true] at p q
    simp only [pys, List.cons.injEq] at e
    rw [py_inj x y p.1 q.1 e.1, pys_inj xs ys p.2 q.2 e.2]
end
theorem pys_map : ∀ (l : List D), pys l = l.map D.py
  | [] => rfl
  | x :: xs => by rw [pys, pys_map xs]; rfl
theorem pls_mem : ∀ {l : List D}, pls l = true → ∀ x ∈ l, x.pl = true
  | [], _, x, h => by cases h
  | y :: ys, p, x, h => by
    simp only [pls, Bool.and_eq_true] at p
    rcases List.mem_cons.mp h with rfl | h
    · exact p.1
    · exact pls_mem p.2 x h
theorem maxDD_py : ∀ (l : List D) (a : D), (maxDD a l).py = W.maxD a.py (pys l)
  | [], a => rfl
  | b :: l, a => by
    show (maxDD (if W.dataLt a.py b.py then b else a) l).py = W.maxD (if W.dataLt a.py b.py then b.py else a.py) (pys l)
    rw [maxDD_py l]
    split <;> rfl
theorem minDD_py : ∀ (l : List D) (a : D), (minDD a l).py = W.minD a.py (pys l)
  | [], a => rfl
  | b :: l, a => by
    show (minDD (if W.dataLt b.py a.py then b else a) l).py = W.minD (if W.dataLt b.py a.py then b.py else a.py) (pys l)
    rw [minDD_py l]
    split <;> rfl
theorem maxDD_mem : ∀ (l : List D) (a : D), maxDD a l ∈ a :: l
  | [], a => List.mem_cons_self
  | b :: l, a => by
    have ih := maxDD_mem l (if W.dataLt a.py b.py then b else a)
    rw [show maxDD a (b :: l) = maxDD (if W.dataLt a.py b.py then b else a) l from rfl]
    rcases List.mem_cons.mp ih with h | h
    · rw [h]; split <;> simp
    · exact List.mem_cons_of_mem _ (List.mem_cons_of_mem _ h)
theorem minDD_mem : ∀ (l : List D) (a : D), minDD a l ∈ a :: l
  | [], a => List.mem_cons_self
  | b :: l, a => by
    have ih := minDD_mem l (if W.dataLt b.py a.py then b else a)
    rw [show minDD a (b :: l) = minDD (if W.dataLt b.py a.py then b else a) l from rfl]
    rcases List.mem_cons.mp ih with h | h
    · rw [h]; split <;> simp
    · exact List.mem_cons_of_mem _ (List.mem_cons_of_mem _ h)
mutual
theorem plain_py : ∀ (d : D), d.pl = true → d.py.plain = true
  | .non, _ => rfl
  | .bl _, _ => rfl
  | .int _, _ => rfl
  | .str _, _ => rfl
  | .tup xs, p => by simp only [D.py, PyData.plain]; exact plains_py xs p
  | .lst xs, p => by simp only [D.py, PyData.plain]; exact plains_py xs p
  | .m, p => by simp [D.pl] at p
  | .scr _, p => by simp [D.pl] at p
theorem plains_py : ∀ (d : List D), pls d = true → PyData.plainAll (pys d) = true
  | [], _ => rfl
  | x :: xs, p => by
    simp only [pls, Bool.and_eq_true] at p
    simp only [pys, PyData.plainAll, Bool.and_eq_true]
    exact ⟨plain_py x p.1, plains_py xs p.2⟩
end
theorem alkD_ok {xs : List D} (h : alkD xs = true) : pls xs = true ∧ W.AlikeAll (pys xs) ∧ PyData.depthAll (pys xs) ≤ 60 := by
  simp only [alkD, Bool.and_eq_true, decide_eq_true_eq, List.all_eq_true] at h
  obtain ⟨⟨⟨h1, h2⟩, h3⟩, h4⟩ := h
  refine ⟨h1, ⟨fun x hx y hy => ?_, fun x hx => ?_⟩, h4⟩
  · rw [pys_map] at hx hy
    obtain ⟨a, ha, rfl⟩ := List.mem_map.mp hx
    obtain ⟨b, hb, rfl⟩ := List.mem_map.mp hy
    exact h2 a ha b hb
  · rw [pys_map] at hx
    obtain ⟨a, ha, rfl⟩ := List.mem_map.mp hx
    have h5 := h3 a ha
    have h6 := pls_mem h1 a ha
    cases a <;> simp_all [D.py, D.pl]
section
variable {X : Cx} {W : Wd}
/-- an item of a list that reads as the one that is due, is it -/
theorem item_is {pins : List (Addr × Obj)} {s' : Shared} {σ : St} {Hk H : Hp} {xs : List D} {ys : List V} {its : List Value} {i : Nat} {v : Value} {m : D} {bs : List Addr} (I : L2.Inv X pins σ H s') (ex : Ex Hk H) (h : RpL X.K W Hk xs ys) (hp : pls xs = true) (rv : Vals ys its)
    (hi : its.toArray[i]? = some v) (hm : m ∈ xs) (r : Reads s'.heap v m.py bs) : ∃ y, Rp X.K W Hk m y ∧ RelV y v := by
  have hv : its[i]? = some v := by simpa using hi
  have hlt : i < ys.length := by
    rw [rv.length]
    exact (List.getElem?_eq_some_iff.mp hv).1
  obtain ⟨y, hy⟩ : ∃ y, ys[i]? = some y := ⟨ys[i], List.getElem?_eq_getElem hlt⟩
  obtain ⟨v', hv', ry⟩ := rv.get hy
  rw [hv] at hv'
  cases hv'
  obtain ⟨d, hd, rd⟩ := h.at hy
  have hd' : d ∈ xs := List.mem_of_getElem? hd
  obtain ⟨as, r'⟩ := Dp.reads I d.py y v ((rd.mono ex).dp (pls_mem hp d hd')) ry
  have e : d.py = m.py := by
    exact PySem.SeqAt.plain_unique d.py m.py v as bs (plain_py d (pls_mem hp d hd')) r' r
  rw [py_inj d m (pls_mem hp d hd') (pls_mem hp m hm) e] at rd
  exact ⟨y, rd, ry⟩
theorem call_maxd (hc : X.calm = true) (hu : X.A.units + 66 < cLine) {pins : List (Addr × Obj)} {s : Shared} {σ : St} {Hk H : Hp} {x : D} {xs : List D} {ys : List V} {a : Addr} {Q : VK} (I : L2.Inv X pins σ H s) (ex : Ex Hk H) (hs : SqL X.K H a ys) (h : RpL X.K W Hk (x :: xs) ys)
    (hk : alkD (x :: xs) = true) (q : ∀ v, Rp X.K W Hk (maxDD x xs) v → Q v H) : wpAny (model X.prog X.w) X.A (call (.builtin "max") [.ref a]) (EP X pins σ Q) X.xe s := by
  obtain ⟨hp, ha, hd⟩ := alkD_ok hk
  obtain ⟨its, rv, hl, _⟩ := I.list hs
  obtain ⟨as, ra⟩ := Dp.readsAll I _ _ _ ((h.mono ex).dps hp) rv
  refine PySem.W.max_list_data (I.ok.hd hc) hl.isList (show ReadsAll s.heap its (pys (x :: xs)) as from ra) ha (show X.A.units + 1 + PyData.depthAll (pys (x :: xs)) < cLine by omega) fun i v h' tk bs hi r hk' => ?_
  have I' := I.kept (t' := tk) hk'
  obtain ⟨y, r1, r2⟩ := item_is (s' := { s with heap := h', toks := tk }) I' ex h hp rv hi (maxDD_mem xs x) (by rw [maxDD_py]; exact r)
  exact ⟨y, H, I', r2, q y r1⟩
theorem call_mind (hc : X.calm = true) (hu : X.A.units + 66 < cLine) {pins : List (Addr × Obj)} {s : Shared} {σ : St} {Hk H : Hp} {x : D} {xs : List D} {ys : List V} {a : Addr} {Q : VK} (I : L2.Inv X pins σ H s) (ex : Ex Hk H) (hs : SqL X.K H a ys) (h : RpL X.K W Hk (x :: xs) ys)
    (hk : alkD (x :: xs) = true) (q : ∀ v, Rp X.K W Hk (minDD x xs) v → Q v H) : wpAny (model X.prog X.w) X.A (call (.builtin "min") [.ref a]) (EP X pins σ Q) X.xe s := by
  obtain ⟨hp, ha, hd⟩ := alkD_ok hk
  obtain ⟨its, rv, hl, _⟩ := I.list hs
  obtain ⟨as, ra⟩ := Dp.readsAll I _ _ _ ((h.mono ex).dps hp) rv
  refine PySem.W.min_list_data (I.ok.hd hc) hl.isList (show ReadsAll s.heap its (pys (x :: xs)) as from ra) ha (show X.A.units + 1 + PyData.depthAll (pys (x :: xs)) < cLine by omega) fun i v h' tk bs hi r hk' => ?_
  have I' := I.kept (t' := tk) hk'
  obtain ⟨y, r1, r2⟩ := item_is (s' := { s with heap := h', toks := tk }) I' ex h hp rv hi (minDD_mem xs x) (by rw [minDD_py]; exact r)
  exact ⟨y, H, I', r2, q y r1⟩
end
end Bk

set_option Elab.async false
set_option linter.all false
set_option maxRecDepth 100000
set_option maxHeartbeats 4000000
/-! Data that == can be asked of. -/
namespace Pk
open PySem Bk
theorem for_nx {F : D → Gm → G → R Fl} {J : Nat → Gm → G → Prop} : ∀ (xs : List D) (Γ : Gm) (g : G) (k : Nat), J k Γ g → (∀ i x Γ g, xs[i]? = some x → J (k + i) Γ g → ∃ Γ' g', F x Γ g = .ok (.nx Γ') g' ∧ J (k + i + 1) Γ' g') → ∃ Γ' g', forR F xs Γ g = .ok (.nx Γ') g' ∧ J (k + xs.length) Γ' g'
  | [], Γ, g, k, h, _ => ⟨Γ, g, rfl, h⟩
  | x :: xs, Γ, g, k, h, H => by
    obtain ⟨Γ1, g1, e1, h1⟩ := H 0 x Γ g rfl h
    obtain ⟨Γ2, g2, e2, h2⟩ := for_nx xs Γ1 g1 (k + 1) h1 (fun i y Γ g hy hJ => by
      have := H (i + 1) y Γ g (by simpa using hy) (by rwa [show k + (i + 1) = k + 1 + i by omega])
      rwa [show k + (i + 1) + 1 = k + 1 + i + 1 by omega] at this)
    refine ⟨Γ2, g2, ?_, by rwa [show k + (x :: xs).length = k + 1 + xs.length by simp; omega]⟩
    unfold forR
    rw [e1]
    exact e2
/-- a loop that may end by an answer -/
theorem for_rt {F : D → Gm → G → R Fl} {J : Nat → Gm → G → Prop} {A : D → G → Prop} : ∀ (xs : List D) (Γ : Gm) (g : G) (k : Nat), J k Γ g → (∀ i x Γ g, xs[i]? = some x → J (k + i) Γ g → (∃ Γ' g', F x Γ g = .ok (.nx Γ') g' ∧ J (k + i + 1) Γ' g') ∨ ∃ d g', F x Γ g = .ok (.rt d) g' ∧ A d g') →
    (∃ Γ' g', forR F xs Γ g = .ok (.nx Γ') g' ∧ J (k + xs.length) Γ' g') ∨ ∃ d g', forR F xs Γ g = .ok (.rt d) g' ∧ A d g'
  | [], Γ, g, k, h, _ => .inl ⟨Γ, g, rfl, h⟩
  | x :: xs, Γ, g, k, h, H => by
    rcases H 0 x Γ g rfl h with ⟨Γ1, g1, e1, h1⟩ | ⟨d, g1, e1, h1⟩
    · rcases for_rt xs Γ1 g1 (k + 1) h1 (fun i y Γ g hy hJ => by
        have := H (i + 1) y Γ g (by simpa using hy) (by rwa [show k + (i + 1) = k + 1 + i by omega])
        rwa [show k + (i + 1) + 1 = k + 1 + i + 1 by omega] at this) with ⟨Γ2, g2, e2, h2⟩ | ⟨d, g2, e2, h2⟩
      · refine .inl ⟨Γ2, g2, ?_, by rwa [show k + (x :: xs).length = k + 1 + xs.length by simp; omega]⟩
        unfold forR
        rw [e1]
        exact e2
      · refine .inr ⟨d, g2, ?_, h2⟩
        unfold forR
        rw [e1]
        exact e2
    · refine .inr ⟨d, g1, ?_, h1⟩
      unfold forR
      rw [e1]
      rfl
theorem rngD_get : ∀ (n : Nat) (a : Int) (i : Nat) (x : D), (rngD a n)[i]? = some x → x = .int (a + i) ∧ i < n
  | 0, a, i, x, h => by simp [rngD] at h
  | n + 1, a, 0, x, h => by simp [rngD] at h; subst h; simp
  | n + 1, a, i + 1, x, h => by
    simp only [rngD, List.getElem?_cons_succ] at h
    obtain ⟨e, hi⟩ := rngD_get n (a + 1) i x h
    exact ⟨by rw [e]; congr 1; push_cast; omega, by omega⟩
/-- what is known behind the rests below m, and the lines of the rest m below i -/
theorem at_ints {l : List Int} {j : Int} (h0 : 0 ≤ j) (h1 : j.toNat < l.length) : atD (l.map .int) j = some (.int (l.getD j.toNat 0)) := by
  unfold atD
  rw [if_pos h0, List.getElem?_map, List.getElem?_eq_getElem h1, List.getD_eq_getElem?_getD, List.getElem?_eq_getElem h1]
  rfl
theorem ix_ti {l : List Int} {j : Int} (h0 : 0 ≤ j) (h1 : j.toNat < l.length) : idxD (ti l) (.int j) = some (.int (l.getD j.toNat 0)) := at_ints h0 h1
theorem ix_li {l : List Int} {j : Int} (h0 : 0 ≤ j) (h1 : j.toNat < l.length) : idxD (li l) (.int j) = some (.int (l.getD j.toNat 0)) := at_ints h0 h1
theorem rng2_i {cs : List (Nat × D)} {call : Nat → List D → G → R D} {Γ : Gm} {g : G} {a b : E} {i j : Int} (ha : evE cs call a Γ g = .ok (.int i) g) (hb : evE cs call b Γ g = .ok (.int j) g) (h0 : -1000000 ≤ i ∧ i ≤ 1000000) (h1 : -1000000 ≤ j ∧ j ≤ 1000000) : evI cs call (.rng2 a b) Γ g = .ok (rngD i (j - i).toNat) g := by
  rw [i_rng2, ha, r_ok, hb, r_ok]
  exact if_pos ⟨h0, h1⟩
theorem rng1_i {cs : List (Nat × D)} {call : Nat → List D → G → R D} {Γ : Gm} {g : G} {a : E} {i : Int} (ha : evE cs call a Γ g = .ok (.int i) g) (h0 : -1000000 ≤ i ∧ i ≤ 1000000) : evI cs call (.rng1 a) Γ g = .ok (rngD 0 i.toNat) g := by
  rw [i_rng1, ha, r_ok]
  exact if_pos h0
/-! ### gains -/
theorem mem_getD {l : List Int} {i : Nat} (hi : i < l.length) : l.getD i 0 ∈ l := by
  rw [List.getD_eq_getElem?_getD, List.getElem?_eq_getElem hi]; exact List.getElem_mem hi
theorem step_nx {cs : List (Nat × D)} {call : Nat → List D → G → R D} {s : S} {b : B} {Γ Γ1 : Gm} {g g1 : G} {r : R Fl} (h : evS cs call s Γ g = .ok (.nx Γ1) g1) (h2 : evB cs call b Γ1 g1 = r) : evB cs call (.cons s b) Γ g = r := by
  rw [b_cons, h, r_ok]; exact h2
theorem step_rt {cs : List (Nat × D)} {call : Nat → List D → G → R D} {s : S} {b : B} {Γ : Gm} {g g1 : G} {d : D} (h : evS cs call s Γ g = .ok (.rt d) g1) : evB cs call (.cons s b) Γ g = .ok (.rt d) g1 := by
  rw [b_cons, h, r_ok]
theorem lcR_map {α : Type} {f : D → G → R (Option D)} {enc h : α → D} : ∀ {l : List α} {g : G}, (∀ a ∈ l, ∀ g, f (enc a) g = .ok (some (h a)) g) → lcR f (l.map enc) g = .ok (l.map h) g
  | [], g, _ => rfl
  | a :: l, g, H => by
    simp only [List.map_cons, lcR, H a List.mem_cons_self g, R.nox, r_ok, lcR_map (fun b hb => H b (List.mem_cons_of_mem _ hb))]
theorem lc_map {α : Type} {cs : List (Nat × D)} {call : Nat → List D → G → R D} {elt : E} {t : T} {it : I} {Γ : Gm} {g : G} {l : List α} {enc h : α → D} (h1 : evI cs call it Γ g = .ok (l.map enc) g)
    (h2 : ∀ q ∈ l, ∀ g, (lift (setT t (enc q) (wipeG Γ t.vars)) g).bind (fun Γ' g => evE cs call elt Γ' g) = .ok (h q) g) : evE cs call (.lc elt t it none) Γ g = .ok (.lst (l.map h)) g := by
  simp only [evE, h1, r_ok]
  rw [lcR_map (h := h)]
  · rfl
  intro q hq g
  obtain ⟨Γ', g1, e1, e2⟩ := bind_val (h2 q hq g)
  rw [e1, r_ok, e2, r_ok]
/-- data that == can be asked of -/
structure Shp (h : Nat) (d : D) : Prop where
  pl : d.pl = true
  lay : d.py.canLay0 = true
  dp : d.py.depth ≤ h
theorem Shp.int (i : Int) (h : Nat) : Shp h (.int i) := ⟨rfl, rfl, Nat.zero_le _⟩
theorem Shp.all {h : Nat} : ∀ {ds : List D}, (∀ d ∈ ds, Shp h d) → pls ds = true ∧ PyData.canLayAll0 (pys ds) = true ∧ PyData.depthAll (pys ds) ≤ h
  | [], _ => ⟨rfl, rfl, Nat.zero_le _⟩
  | d :: ds, H => by
    obtain ⟨a, b, c⟩ := Shp.all (fun x hx => H x (List.mem_cons_of_mem _ hx))
    have hd := H d List.mem_cons_self
    refine ⟨by simp [pls, a, hd.pl], by simp [pys, PyData.canLayAll0, b, hd.lay], ?_⟩
    rw [pys, PyData.depthAll]
    exact Nat.max_le.mpr ⟨hd.dp, c⟩
theorem Shp.tup {h : Nat} {ds : List D} (H : ∀ d ∈ ds, Shp h d) : Shp (h + 1) (.tup ds) := by
  obtain ⟨a, b, c⟩ := Shp.all H
  refine ⟨a, by simpa [D.py, PyData.canLay0] using b, ?_⟩
  rw [D.py, PyData.depth]
  omega
theorem Shp.sh {h : Nat} {d : D} (s : Shp h d) (hh : h ≤ 64) : SeqAt.shaped d.py = true := by
  have := s.dp
  simp only [SeqAt.shaped, s.lay, Bool.true_and, decide_eq_true_eq]
  omega
theorem Shp.eq {h h' : Nat} {xs ys : List D} (s : Shp h (.tup xs)) (s' : Shp h' (.tup ys)) (hh : h ≤ 64) (hh' : h' ≤ 64) : cmpD .eq (.tup xs) (.tup ys) = some (PyData.eqv (D.tup xs).py (D.tup ys).py) := by
  simp only [cmpD, s.pl, s'.pl, s.sh hh, s'.sh hh', Bool.and_self, if_true]
theorem Shp.ne {h h' : Nat} {xs ys : List D} (s : Shp h (.tup xs)) (s' : Shp h' (.tup ys)) (hh : h ≤ 64) (hh' : h' ≤ 64) : cmpD .ne (.tup xs) (.tup ys) = some (!PyData.eqv (D.tup xs).py (D.tup ys).py) := by
  simp only [cmpD, s.pl, s'.pl, s.sh hh, s'.sh hh', Bool.and_self, if_true]
theorem Shp.nil : Shp 1 (.tup []) := Shp.tup (fun d hd => by cases hd)
theorem Shp.str {x : Str} (h : PyData.strOk x = true) (n : Nat) : Shp n (.str x) := ⟨rfl, by simpa [D.py, PyData.canLay0] using h, Nat.zero_le _⟩
theorem Shp.lst {h : Nat} {ds : List D} (H : ∀ d ∈ ds, Shp h d) : Shp (h + 1) (.lst ds) := by
  obtain ⟨a, b, c⟩ := Shp.all H
  refine ⟨a, by simpa [D.py, PyData.canLay0] using b, ?_⟩
  rw [D.py, PyData.depth]
  omega
theorem Shp.mono {h h' : Nat} {d : D} (s : Shp h d) (hh : h ≤ h') : Shp h' d := ⟨s.pl, s.lay, Nat.le_trans s.dp hh⟩
theorem Shp.ti (l : List Int) : Shp 1 (Pk.ti l) := Shp.tup (fun d hd => by
  obtain ⟨x, _, rfl⟩ := List.mem_map.mp hd
  exact Shp.int _ _)
theorem Shp.li (l : List Int) : Shp 1 (Pk.li l) := Shp.lst (fun d hd => by
  obtain ⟨x, _, rfl⟩ := List.mem_map.mp hd
  exact Shp.int _ _)
theorem Shp.nel {h h' : Nat} {xs ys : List D} (s : Shp h (.lst xs)) (s' : Shp h' (.lst ys)) (hh : h ≤ 64) (hh' : h' ≤ 64) : cmpD .ne (.lst xs) (.lst ys) = some (!PyData.eqv (D.lst xs).py (D.lst ys).py) := by
  simp only [cmpD, s.pl, s'.pl, s.sh hh, s'.sh hh', Bool.and_self, if_true]
theorem Shp.eql {h h' : Nat} {xs ys : List D} (s : Shp h (.lst xs)) (s' : Shp h' (.lst ys)) (hh : h ≤ 64) (hh' : h' ≤ 64) : cmpD .eq (.lst xs) (.lst ys) = some (PyData.eqv (D.lst xs).py (D.lst ys).py) := by
  simp only [cmpD, s.pl, s'.pl, s.sh hh, s'.sh hh', Bool.and_self, if_true]
/-- a list, a tuple beside the empty one -/
theorem ne_nil_l (l : List Int) : cmpD .ne (Pk.li l) (.lst []) = some (!l.isEmpty) := by
  rw [Pk.li, Shp.nel (Shp.li l) (ys := []) (Shp.li []) (by decide) (by decide)]
  cases l <;> rfl
theorem eq_nil_l (l : List Int) : cmpD .eq (Pk.li l) (.lst []) = some l.isEmpty := by
  rw [Pk.li, Shp.eql (Shp.li l) (ys := []) (Shp.li []) (by decide) (by decide)]
  cases l <;> rfl
theorem eq_nil_t {h : Nat} {xs : List D} (s : Shp h (.tup xs)) (hh : h ≤ 64) : cmpD .eq (.tup xs) (.tup []) = some xs.isEmpty := by
  rw [s.eq Shp.nil hh (by decide)]
  cases xs <;> rfl
theorem Shp.self {h : Nat} {xs : List D} (s : Shp h (.tup xs)) (hh : h ≤ 64) : cmpD .ne (.tup xs) (.tup xs) = some false := by
  rw [s.ne s hh hh, SeqAt.eqv_refl_plain _ (Bk.plain_py _ s.pl)]
  rfl
end Pk

set_option Elab.async false
set_option linter.all false
set_option maxRecDepth 100000
set_option maxHeartbeats 4000000
set_option pp.maxSteps 800
/-! Best plans: the sums. -/
namespace Pk
open PySem Bk
def prodA : Int → List Int → Int
  | t, [] => t
  | t, f :: fs => prodA (t * f) fs
theorem prodA_eq : ∀ (fs : List Int) (t : Int), prodA t fs = t * prodA 1 fs
  | [], t => by simp [prodA]
  | f :: fs, t => by
    simp only [prodA]
    rw [prodA_eq fs (t * f), prodA_eq fs (1 * f)]
    grind
theorem prodA_dvd : ∀ {fs : List Int} {f : Int}, f ∈ fs → f ∣ prodA 1 fs
  | a :: fs, f, h => by
    have e : prodA 1 (a :: fs) = a * prodA 1 fs := by simp only [prodA]; rw [prodA_eq]; grind
    rw [e]
    rcases List.mem_cons.mp h with rfl | h
    · exact ⟨_, rfl⟩
    · obtain ⟨c, hc⟩ := prodA_dvd h
      exact ⟨a * c, by rw [hc]; grind⟩
theorem prodA_bd : ∀ {fs : List Int}, (∀ f ∈ fs, 1 ≤ f ∧ f ≤ 99) → 1 ≤ prodA 1 fs ∧ prodA 1 fs ≤ 99 ^ fs.length
  | [], _ => by simp [prodA]
  | a :: fs, h => by
    have e : prodA 1 (a :: fs) = a * prodA 1 fs := by simp only [prodA]; rw [prodA_eq]; grind
    obtain ⟨i1, i2⟩ := prodA_bd (fs := fs) fun f hf => h f (List.mem_cons_of_mem _ hf)
    obtain ⟨a1, a2⟩ := h a List.mem_cons_self
    rw [e]
    constructor
    · have := Int.mul_le_mul a1 i1 (by omega) (by omega)
      simpa using this
    · have := Int.mul_le_mul a2 i2 (by omega) (by omega)
      rw [List.length_cons, Int.pow_succ, Int.mul_comm (99 ^ fs.length)]
      exact this
/-- the steps down -/
def tel : List Int → List Int
  | [] => []
  | c :: cs => (c - cs.headD 0) :: tel cs
theorem tel_zip : ∀ cs : List Int, ((cs ++ [0]).zip (cs ++ [0]).tail).map (fun q : Int × Int => q.1 - q.2) = tel cs
  | [] => rfl
  | [c] => rfl
  | c :: d :: cs => by
    have := tel_zip (d :: cs)
    simp only [List.cons_append, List.tail_cons, List.zip_cons_cons, List.map_cons, tel, List.headD_cons] at this ⊢
    rw [this]
theorem tel_len : ∀ cs : List Int, (tel cs).length = cs.length
  | [] => rfl
  | c :: cs => by simp [tel, tel_len cs]
theorem tel_sum : ∀ cs : List Int, (tel cs).sum = cs.headD 0
  | [] => rfl
  | c :: cs => by simp only [tel, List.sum_cons, tel_sum cs, List.headD_cons]; omega
def tops : List Int → List Int → List Int
  | f :: fs, w :: ws => f * (w :: ws).sum :: tops fs ws
  | _, _ => []
def dot : List Int → List Int → Int
  | f :: fs, w :: ws => f * w + dot fs ws
  | _, _ => 0
/-- each f with its c makes W -/
def Mk (W : Int) : List Int → List Int → Prop
  | [], [] => True
  | f :: fs, c :: cs => f * c = W ∧ Mk W fs cs
  | _, _ => False
theorem tops_tel {W : Int} : ∀ {fs cs : List Int}, Mk W fs cs → ∀ x ∈ tops fs (tel cs), x = W
  | [], [], _, x, h => by simp [tops] at h
  | f :: fs, c :: cs, h, x, hx => by
    simp only [tel, tops, List.mem_cons] at hx
    rcases hx with rfl | hx
    · have := tel_sum (c :: cs)
      simp only [tel] at this
      rw [this]
      exact h.1
    · exact tops_tel h.2 x hx
def crs : Int → List Int → List Int → Int
  | f0, f :: fs, c :: cs => f0 * c + crs f fs cs
  | _, _, _ => 0
theorem dot_tel {W : Int} : ∀ {fs cs : List Int} {f0 c0 : Int}, Mk W (f0 :: fs) (c0 :: cs) → dot (f0 :: fs) (tel (c0 :: cs)) = (fs.length + 1 : Int) * W - crs f0 fs cs
  | [], [], f0, c0, h => by
    have := h.1
    simp only [tel, dot, crs, List.headD_nil, List.length_nil]
    grind
  | f :: fs, c :: cs, f0, c0, h => by
    have i := dot_tel h.2
    have e : tel (c0 :: c :: cs) = (c0 - c) :: tel (c :: cs) := rfl
    have e2 : dot (f0 :: f :: fs) ((c0 - c) :: tel (c :: cs)) = f0 * (c0 - c) + dot (f :: fs) (tel (c :: cs)) := rfl
    rw [e, e2, i]
    have := h.1
    simp only [crs, List.length_cons]
    push_cast
    grind
def bo : Int → Int → Int → List Int → Int × Int
  | _, P, O, [] => (P, O)
  | f0, P, O, f :: fs => bo f (P * f - f0 * O) (O * f) fs
theorem bo_eq {W : Int} : ∀ {fs cs : List Int} {f0 P O : Int}, Mk W fs cs → (∀ f ∈ fs, 1 ≤ f) → (bo f0 P O fs).1 * (O * W) = (bo f0 P O fs).2 * (P * W - O * crs f0 fs cs)
  | [], [], f0, P, O, _, _ => by simp only [bo, crs]; grind
  | f :: fs, c :: cs, f0, P, O, h, hf => by
    have i := bo_eq (f0 := f) (P := P * f - f0 * O) (O := O * f) h.2 fun x hx => hf x (List.mem_cons_of_mem _ hx)
    have hc := h.1
    have f1 := hf f List.mem_cons_self
    simp only [bo, crs]
    refine Int.eq_of_mul_eq_mul_left (a := f) (by omega) ?_
    generalize (bo f (P * f - f0 * O) (O * f) fs).1 = X at i ⊢
    generalize (bo f (P * f - f0 * O) (O * f) fs).2 = Y at i ⊢
    generalize crs f fs cs = Z at i ⊢
    have e1 : f * (X * (O * W)) = X * (O * f * W) := by grind
    rw [e1, i]
    subst hc
    grind
theorem bo_O : ∀ (fs : List Int) (f0 P O : Int), (bo f0 P O fs).2 = prodA O fs
  | [], _, _, _ => rfl
  | f :: fs, f0, P, O => by simp only [bo, prodA]; exact bo_O fs _ _ _
theorem bo_le {m : Int} : ∀ {fs : List Int} {f0 P O : Int}, P ≤ m * O → 0 ≤ O → 0 ≤ f0 → (∀ f ∈ fs, 1 ≤ f) → (bo f0 P O fs).1 ≤ m * (bo f0 P O fs).2
  | [], _, _, _, h, _, _, _ => h
  | f :: fs, f0, P, O, h, hO, h0, hf => by
    have f1 := hf f List.mem_cons_self
    simp only [bo]
    refine bo_le ?_ (Int.mul_nonneg hO (by omega)) (by omega) fun x hx => hf x (List.mem_cons_of_mem _ hx)
    have a := Int.mul_le_mul_of_nonneg_right h (show (0 : Int) ≤ f by omega)
    have b := Int.mul_nonneg h0 hO
    have e : m * O * f = m * (O * f) := by grind
    omega
/-! ### what a best plan lets -/
def fl (A : Int) : Int → Int → List Int → List Int
  | _, _, [] => []
  | f0, l, f :: fs => (l + A / f * (f - f0)) :: fl A f (l + A / f * (f - f0)) fs
def flL (A : Int) : Int → Int → List Int → Int
  | _, l, [] => l
  | f0, l, f :: fs => flL A f (l + A / f * (f - f0)) fs
theorem fl_len (A : Int) : ∀ (fs : List Int) (f0 l : Int), (fl A f0 l fs).length = fs.length
  | [], _, _ => rfl
  | f :: fs, f0, l => by simp [fl, fl_len A fs]
theorem fl_gI {A : Int} : ∀ {fs : List Int} {f0 l : Int}, (∀ f ∈ fs, f ∣ A) → gI fs (fl A f0 l fs) l (A * f0) = fs.map (A * ·)
  | [], _, _, _ => rfl
  | f :: fs, f0, l, h => by
    have e : f * (A / f) = A := Int.mul_ediv_cancel' (h f List.mem_cons_self)
    have e2 : A * f0 + f * (l + A / f * (f - f0) - l) = A * f := by
      have : f * (l + A / f * (f - f0) - l) = f * (A / f) * (f - f0) := by grind
      rw [this, e]
      grind
    simp only [fl, gI, List.map_cons, e2]
    rw [fl_gI fun x hx => h x (List.mem_cons_of_mem _ hx)]
theorem fl_end {A : Int} : ∀ {fs : List Int} {f0 l P O : Int}, (∀ f ∈ fs, f ∣ A) → (l + fs.length * A) * O = A * P → flL A f0 l fs * (bo f0 P O fs).2 = A * (bo f0 P O fs).1
  | [], f0, l, P, O, _, h => by simpa [flL, bo] using h
  | f :: fs, f0, l, P, O, hd, h => by
    have e : f * (A / f) = A := Int.mul_ediv_cancel' (hd f List.mem_cons_self)
    simp only [flL, bo]
    refine fl_end (fun x hx => hd x (List.mem_cons_of_mem _ hx)) ?_
    rw [List.length_cons] at h
    push_cast at h
    generalize A / f = q at e ⊢
    subst e
    grind
theorem fl_up {A : Int} (hA : 0 ≤ A) : ∀ {fs : List Int} {f0 l : Int}, Us f0 fs → 0 ≤ f0 → Up l (fl A f0 l fs)
  | [], _, _, _, _ => trivial
  | f :: fs, f0, l, h, h0 => by
    have h1 := h.1
    refine ⟨?_, fl_up hA h.2 (by omega)⟩
    have := Int.mul_nonneg (Int.ediv_nonneg hA (show (0 : Int) ≤ f by omega)) (show (0 : Int) ≤ f - f0 by omega)
    omega
theorem fl_dvd {a A : Int} : ∀ {fs : List Int} {f0 l : Int}, (∀ f ∈ fs, a ∣ A / f) → a ∣ l → ∀ x ∈ fl A f0 l fs, a ∣ x
  | [], _, _, _, _, x, hx => by simp [fl] at hx
  | f :: fs, f0, l, h, hl, x, hx => by
    have n : a ∣ l + A / f * (f - f0) := by
      obtain ⟨u, hu⟩ := h f List.mem_cons_self
      obtain ⟨v, hv⟩ := hl
      exact ⟨v + u * (f - f0), by rw [hu, hv]; grind⟩
    simp only [fl, List.mem_cons] at hx
    rcases hx with rfl | hx
    · exact n
    · exact fl_dvd (fun y hy => h y (List.mem_cons_of_mem _ hy)) n x hx
theorem fl_last {A : Int} : ∀ {fs : List Int} {f0 l : Int}, (l :: fl A f0 l fs).getLast? = some (flL A f0 l fs)
  | [], _, _ => rfl
  | f :: fs, f0, l => by
    simp only [fl, flL, List.getLast?_cons_cons]
    exact fl_last
theorem up_last : ∀ {l : List Int} {a z : Int}, Up a l → (a :: l).getLast? = some z → ∀ x ∈ a :: l, x ≤ z
  | [], a, z, _, h, x, hx => by
    simp at h hx
    omega
  | b :: l, a, z, h, e, x, hx => by
    rw [List.getLast?_cons_cons] at e
    have i := up_last h.2 e
    rcases List.mem_cons.mp hx with rfl | hx
    · have := i b List.mem_cons_self
      have := h.1
      omega
    · exact i x hx
/-! ### common divisors -/
def gf : Nat → List Int → Nat
  | n, [] => n
  | n, x :: xs => gf (Nat.gcd n x.toNat) xs
theorem gf_dvd : ∀ (l : List Int) (n : Nat), gf n l ∣ n ∧ ∀ x ∈ l, gf n l ∣ x.toNat
  | [], n => ⟨Nat.dvd_refl _, fun x hx => by cases hx⟩
  | x :: l, n => by
    obtain ⟨i1, i2⟩ := gf_dvd l (Nat.gcd n x.toNat)
    refine ⟨Nat.dvd_trans i1 (Nat.gcd_dvd_left _ _), fun y hy => ?_⟩
    rcases List.mem_cons.mp hy with rfl | hy
    · exact Nat.dvd_trans i1 (Nat.gcd_dvd_right _ _)
    · exact i2 y hy
theorem dvd_gf {d : Nat} : ∀ {l : List Int} {n : Nat}, d ∣ n → (∀ x ∈ l, d ∣ x.toNat) → d ∣ gf n l
  | [], n, h, _ => h
  | x :: l, n, h, hl => dvd_gf (l := l) (Nat.dvd_gcd h (hl x List.mem_cons_self)) fun y hy => hl y (List.mem_cons_of_mem _ hy)
theorem gf_scale {d : Nat} : ∀ {l : List Int} {n : Nat}, (∀ x ∈ l, 0 ≤ x) → gf (d * n) (l.map ((d : Int) * ·)) = d * gf n l
  | [], n, _ => rfl
  | x :: l, n, h => by
    have hx := h x List.mem_cons_self
    have e : ((d : Int) * x).toNat = d * x.toNat := by
      have : (d : Int) * x = ((d * x.toNat : Nat) : Int) := by push_cast; rw [Int.toNat_of_nonneg hx]
      rw [this, Int.toNat_natCast]
    simp only [List.map_cons, gf, e, Nat.gcd_mul_left]
    exact gf_scale fun y hy => h y (List.mem_cons_of_mem _ hy)
/-- a list that a number parts -/
theorem part_map {d : Int} (hd : 0 < d) : ∀ {l : List Int}, (∀ x ∈ l, d ∣ x) → l = (l.map (· / d)).map (d * ·)
  | [], _ => rfl
  | x :: l, h => by
    simp only [List.map_cons]
    rw [Int.mul_ediv_cancel' (h x List.mem_cons_self), ← part_map hd fun y hy => h y (List.mem_cons_of_mem _ hy)]
theorem sum_scale (d : Int) : ∀ l : List Int, (l.map (d * ·)).sum = d * l.sum
  | [] => by simp
  | x :: l => by simp only [List.map_cons, List.sum_cons, sum_scale d l]; grind
theorem dot_scale (d : Int) : ∀ (fs l : List Int), dot fs (l.map (d * ·)) = d * dot fs l
  | [], l => by simp [dot]
  | f :: fs, [] => by simp [dot]
  | f :: fs, x :: l => by simp only [List.map_cons, dot, dot_scale d fs l]; grind
theorem tops_scale (d : Int) : ∀ (fs l : List Int), tops fs (l.map (d * ·)) = (tops fs l).map (d * ·)
  | [], l => by simp [tops]
  | f :: fs, [] => by simp [tops]
  | f :: fs, x :: l => by
    have := sum_scale d (x :: l)
    simp only [List.map_cons] at this
    simp only [List.map_cons, tops, tops_scale d fs l, this]
    congr 1
    grind
theorem tops_len : ∀ {fs ws : List Int}, ws.length = fs.length → (tops fs ws).length = fs.length
  | [], [], _ => rfl
  | [], _ :: _, h => by simp at h
  | _ :: _, [], h => by simp at h
  | f :: fs, w :: ws, h => by simp [tops, tops_len (fs := fs) (ws := ws) (by simpa using h)]
/-! ### no share above a bar -/
theorem bar_hi {M w : Int} (hM : 0 ≤ M) : ∀ {fs ls ws : List Int} {a t : Int}, ws.length = fs.length → ls.length = fs.length → Up a ls → (∀ l ∈ ls, l ≤ w) → a ≤ w → (∀ x ∈ tops fs ws, x ≤ M) → dot ws (gI fs ls a t) ≤ t * ws.sum + M * (w - a)
  | [], [], [], a, t, _, _, _, _, ha, _ => by
    have := Int.mul_nonneg hM (show (0 : Int) ≤ w - a by omega)
    simpa [dot, gI] using this
  | f :: fs, l :: ls, v :: ws, a, t, h1, h2, hu, hl, ha, ht => by
    have lw := hl l List.mem_cons_self
    have i := bar_hi hM (fs := fs) (ls := ls) (ws := ws) (a := l) (t := t + f * (l - a)) (by simpa using h1) (by simpa using h2) hu.2 (fun y hy => hl y (List.mem_cons_of_mem _ hy)) lw (fun x hx => ht x (by simp only [tops, List.mem_cons]; exact .inr hx))
    have t0 := ht (f * (v :: ws).sum) (by simp [tops])
    have la : 0 ≤ l - a := by have := hu.1; omega
    have k := Int.mul_le_mul_of_nonneg_right t0 la
    simp only [gI, dot, List.sum_cons] at i k ⊢
    generalize dot ws (gI fs ls l (t + f * (l - a))) = X at i ⊢
    generalize ws.sum = s at i k ⊢
    have e1 : v * (t + f * (l - a)) + ((t + f * (l - a)) * s + M * (w - l)) = t * (v + s) + f * (v + s) * (l - a) + M * (w - l) := by grind
    have e2 : M * (l - a) + M * (w - l) = M * (w - a) := by grind
    omega
theorem bar_lo {A B w : Int} : ∀ {gs fs ws : List Int}, ws.length = fs.length → gs.length = fs.length → (∀ v ∈ ws, 0 ≤ v) → (∀ q ∈ (gs.zip fs).map (fun q => (q.1, w * q.2)), A * q.2 ≤ q.1 * B) → A * (w * dot fs ws) ≤ B * dot ws gs
  | [], [], [], _, _, _, _ => by simp [dot]
  | x :: gs, f :: fs, v :: ws, h1, h2, hv, hq => by
    have i := bar_lo (gs := gs) (fs := fs) (ws := ws) (A := A) (B := B) (w := w) (by simpa using h1) (by simpa using h2) (fun y hy => hv y (List.mem_cons_of_mem _ hy)) (fun q hm => hq q (by simp only [List.zip_cons_cons, List.map_cons, List.mem_cons]; exact .inr hm))
    have q0 : A * (w * f) ≤ x * B := hq (x, w * f) (by simp)
    have k := Int.mul_le_mul_of_nonneg_right q0 (hv v List.mem_cons_self)
    simp only [dot] at i ⊢
    generalize dot fs ws = X at i ⊢
    generalize dot ws gs = Y at i ⊢
    have e1 : A * (w * (f * v + X)) = A * (w * f) * v + A * (w * X) := by grind
    have e2 : B * (v * x + Y) = x * B * v + B * Y := by grind
    omega
end Pk

set_option Elab.async false
set_option linter.all false
namespace Pk
open PySem Bk
class H84 (p : Bk.Pr) : Prop where
  c_MOST_FARES : p.cs.lookup 2 = some (.int 4)
  c_MOST_FARE : p.cs.lookup 3 = some (.int 99)
  c_MOST_ROOM : p.cs.lookup 1 = some (.int 1000000000000000000000000000000)
  h_best_plan : p.ds.lookup 2 = some Bk.f_best_plan.2
  h_best_share : p.ds.lookup 3 = some Bk.f_best_share.2
  h_common : p.ds.lookup 4 = some Bk.f_common.2
  h_bar_value : p.ds.lookup 18 = some Bk.f_bar_value.2
  h_need_fares : p.ds.lookup 20 = some Bk.f_need_fares.2
  h_weights_of : p.ds.lookup 19 = some Bk.f_weights_of.2
  h_fraction : p.ds.lookup 23 = some Bk.f_fraction.2
  h_are_fares : p.ds.lookup 24 = some Bk.f_are_fares.2
  h_is_whole : p.ds.lookup 21 = some Bk.f_is_whole.2
  h_check_bar : p.ds.lookup 100 = some Bk.f_check_bar.2
  h_share_bar : p.ds.lookup 99 = some Bk.f_share_bar.2
  h__law_best_of : p.ds.lookup 389 = some Bk.f__law_best_of.2
  h__law_least_390 : p.ds.lookup 390 = some Bk.f__law_least_390.2
  h__law_value : p.ds.lookup 391 = some Bk.f__law_value.2
  h__law_parts : p.ds.lookup 392 = some Bk.f__law_parts.2
  h__law_is_above : p.ds.lookup 393 = some Bk.f__law_is_above.2
end Pk

set_option Elab.async false
set_option linter.all false
set_option maxRecDepth 100000
set_option maxHeartbeats 4000000
set_option pp.maxSteps 800
/-! Best plans: bars, walked. -/
namespace Pk
open PySem Bk
variable {p : Pr} [HP p] [H84 p]
theorem cut_ints (l : List Int) (n : Nat) : cutD (l.map D.int) (some (n : Int)) none = (l.drop n).map D.int := by
  have hn : ¬ ((n : Int) < 0) := by omega
  simp only [cutD, sIxD, hn, if_false, List.length_map, Int.toNat_natCast]
  rw [List.take_of_length_le (by simp)]
  by_cases h : n ≤ l.length
  · rw [Nat.min_eq_left h, List.map_drop]
  · rw [Nat.min_eq_right (by omega), List.drop_of_length_le (by simp), List.drop_of_length_le (by omega)]
    rfl
theorem sum_bd {B : Int} (hB : 0 ≤ B) : ∀ {l : List Int}, (∀ x ∈ l, 0 ≤ x ∧ x ≤ B) → 0 ≤ l.sum ∧ l.sum ≤ B * l.length
  | [], _ => by simp
  | x :: l, h => by
    obtain ⟨i1, i2⟩ := sum_bd hB (l := l) fun y hy => h y (List.mem_cons_of_mem _ hy)
    have := h x List.mem_cons_self
    simp only [List.sum_cons, List.length_cons]
    push_cast
    have e : B * (l.length + 1) = B * l.length + B := by grind
    omega
structure BO (fs ws : List Int) : Prop where
  f1 : 1 ≤ fs.length
  f4 : fs.length ≤ 4
  f : ∀ f ∈ fs, 1 ≤ f ∧ f ≤ 99
  len : ws.length = fs.length
  w : ∀ w ∈ ws, 0 ≤ w ∧ w ≤ 10 ^ 30
  s : 1 ≤ ws.sum
theorem drop_bd {fs ws : List Int} (h : BO fs ws) (i : Nat) : 0 ≤ (ws.drop i).sum ∧ (ws.drop i).sum ≤ 4 * 10 ^ 30 := by
  have a := sum_bd (B := 10 ^ 30) (by decide) (l := ws.drop i) fun x hx => h.w x (List.mem_of_mem_drop hx)
  have b : (ws.drop i).length ≤ 4 := by have := h.f4; have := h.len; simp; omega
  have c : (10 ^ 30 : Int) * ((ws.drop i).length : Int) ≤ 10 ^ 30 * 4 := Int.mul_le_mul_of_nonneg_left (by omega) (by decide)
  omega
theorem tops_drop {fs0 ws0 : List Int} {n : Nat} (h1 : n < fs0.length) (h2 : ws0.length = fs0.length) : tops (fs0.drop n) (ws0.drop n) = fs0.getD n 0 * (ws0.drop n).sum :: tops (fs0.drop (n + 1)) (ws0.drop (n + 1)) := by
  have e1 : fs0.drop n = fs0.getD n 0 :: fs0.drop (n + 1) := by
    rw [List.drop_eq_getElem_cons h1, List.getD_eq_getElem?_getD, List.getElem?_eq_getElem h1]; rfl
  have e2 := List.drop_eq_getElem_cons (l := ws0) (i := n) (by omega)
  conv => lhs; rw [e1, e2]
  conv => rhs; rw [e2]
  simp only [tops, List.drop_drop]
def muls : List Int → List Int → List Int
  | f :: fs, w :: ws => f * w :: muls fs ws
  | _, _ => []
theorem muls_sum : ∀ fs ws : List Int, (muls fs ws).sum = dot fs ws
  | [], ws => by simp [muls, dot]
  | f :: fs, [] => by simp [muls, dot]
  | f :: fs, w :: ws => by simp only [muls, dot, List.sum_cons, muls_sum fs ws]
theorem muls_zip : ∀ fs ws : List Int, (fs.zip ws).map (fun q : Int × Int => q.1 * q.2) = muls fs ws
  | [], ws => by simp [muls]
  | f :: fs, [] => by simp [muls]
  | f :: fs, w :: ws => by simp only [muls, List.zip_cons_cons, List.map_cons, muls_zip fs ws]
theorem muls_drop {fs0 ws0 : List Int} {n : Nat} (h1 : n < fs0.length) (h2 : ws0.length = fs0.length) : muls (fs0.drop n) (ws0.drop n) = fs0.getD n 0 * ws0.getD n 0 :: muls (fs0.drop (n + 1)) (ws0.drop (n + 1)) := by
  have e1 : fs0.drop n = fs0.getD n 0 :: fs0.drop (n + 1) := by
    rw [List.drop_eq_getElem_cons h1, List.getD_eq_getElem?_getD, List.getElem?_eq_getElem h1]; rfl
  have h3 : n < ws0.length := by omega
  have e2 : ws0.drop n = ws0.getD n 0 :: ws0.drop (n + 1) := by
    rw [List.drop_eq_getElem_cons h3, List.getD_eq_getElem?_getD, List.getElem?_eq_getElem h3]; rfl
  conv => lhs; rw [e1, e2]
  rfl
theorem lcR_enum {F : D → G → R (Option D)} {ws0 : List Int} : ∀ (fs0 : List Int) (n : Nat) (g : G), ws0.length = fs0.length → (∀ (i : Nat) g, i < fs0.length → F (.tup [.int (i : Nat), .int (fs0.getD i 0)]) g = .ok (some (.int (fs0.getD i 0 * (ws0.drop i).sum))) g) →
    lcR F (enumD (n : Nat) ((fs0.drop n).map .int)) g = .ok ((tops (fs0.drop n) (ws0.drop n)).map .int) g := by
  intro fs0 n g hl h
  by_cases hn : n < fs0.length
  · have ih := lcR_enum fs0 (n + 1) g hl h
    rw [tops_drop hn hl]
    have e1 : fs0.drop n = fs0.getD n 0 :: fs0.drop (n + 1) := by
      rw [List.drop_eq_getElem_cons hn, List.getD_eq_getElem?_getD, List.getElem?_eq_getElem hn]; rfl
    rw [e1]
    simp only [List.map_cons, enumD, lcR, h n g hn, R.nox, r_ok]
    have e3 : ((n : Nat) : Int) + 1 = ((n + 1 : Nat) : Int) := by push_cast; rfl
    rw [e3, ih]
    rfl
  · have e1 : fs0.drop n = [] := List.drop_of_length_le (by omega)
    rw [e1]
    simp [enumD, lcR, tops]
termination_by fs0 n => fs0.length - n
theorem lcR_rng {F : D → G → R (Option D)} {H : Nat → Int} {L : Nat → List Int} {N : Nat} (hs : ∀ n, n < N → L n = H n :: L (n + 1)) (h0 : L N = []) (h : ∀ (i : Nat) g, i < N → F (.int (i : Nat)) g = .ok (some (.int (H i))) g) : ∀ (m n : Nat) (g : G), n + m = N →
    lcR F (rngD (n : Nat) m) g = .ok ((L n).map .int) g
  | 0, n, g, e => by
    obtain rfl : n = N := by omega
    simp [rngD, lcR, h0]
  | m + 1, n, g, e => by
    have ih := lcR_rng hs h0 h m (n + 1) g (by omega)
    rw [hs n (by omega)]
    simp only [rngD, lcR, h n g (by omega), R.nox, r_ok]
    have e3 : ((n : Nat) : Int) + 1 = ((n + 1 : Nat) : Int) := by push_cast; rfl
    rw [e3, ih]
    rfl
def mx (l : List Int) : Int := maxI (l.headD 0) l.tail
theorem mx_bi {l : List Int} (h : l ≠ []) : biD .max [.lst (l.map .int)] = some (.int (mx l)) := by
  cases l with
  | nil => exact absurd rfl h
  | cons a l =>
    rw [bi_max, ints_map]
    rfl
theorem mx_bd {l : List Int} {B : Int} (hB : 0 ≤ B) (h : ∀ x ∈ l, 0 ≤ x ∧ x ≤ B) : 0 ≤ mx l ∧ mx l ≤ B := by
  cases l with
  | nil => simp [mx, maxI]; exact hB
  | cons a l =>
    have a1 := h a List.mem_cons_self
    exact ⟨le_maxI a1.1, maxI_le a1.2 fun x hx => (h x (List.mem_cons_of_mem _ hx)).2⟩
theorem mx_ge {l : List Int} : ∀ x ∈ l, x ≤ mx l := by
  cases l with
  | nil => intro x hx; cases hx
  | cons a l =>
    have key : ∀ (l : List Int) (a : Int), a ≤ maxI a l ∧ ∀ x ∈ l, x ≤ maxI a l := by
      intro l
      induction l with
      | nil => intro a; exact ⟨Int.le_refl _, fun x hx => by cases hx⟩
      | cons b l ih =>
        intro a
        have e : maxI a (b :: l) = maxI (if a < b then b else a) l := rfl
        rw [e]
        split
        · rename_i c
          obtain ⟨i1, i2⟩ := ih b
          exact ⟨by omega, fun x hx => by
            rcases List.mem_cons.mp hx with rfl | hx
            · exact i1
            · exact i2 x hx⟩
        · rename_i c
          obtain ⟨i1, i2⟩ := ih a
          exact ⟨i1, fun x hx => by
            rcases List.mem_cons.mp hx with rfl | hx
            · omega
            · exact i2 x hx⟩
    intro x hx
    rcases List.mem_cons.mp hx with rfl | hx
    · exact (key l x).1
    · exact (key l a).2 x hx
theorem mul_bd {a b A B : Int} (ha : 0 ≤ a ∧ a ≤ A) (hb : 0 ≤ b ∧ b ≤ B) : 0 ≤ a * b ∧ a * b ≤ A * B := ⟨Int.mul_nonneg ha.1 hb.1, Int.mul_le_mul ha.2 hb.2 hb.1 (by omega)⟩
theorem tops_bd {fs ws : List Int} (h : BO fs ws) : ∀ x ∈ tops fs ws, 0 ≤ x ∧ x ≤ 99 * (4 * 10 ^ 30) := by
  have key : ∀ n, n ≤ fs.length → ∀ x ∈ tops (fs.drop (fs.length - n)) (ws.drop (fs.length - n)), 0 ≤ x ∧ x ≤ 99 * (4 * 10 ^ 30) := by
    intro n
    induction n with
    | zero =>
      intro _ x hx
      rw [Nat.sub_zero, List.drop_of_length_le (Nat.le_refl _)] at hx
      simp [tops] at hx
    | succ n ih =>
      intro hn x hx
      rw [tops_drop (by omega) h.len] at hx
      rcases List.mem_cons.mp hx with rfl | hx
      · have := h.f _ (mem_getD (l := fs) (i := fs.length - (n + 1)) (by omega))
        exact mul_bd ⟨by omega, this.2⟩ (drop_bd h _)
      · have e : fs.length - (n + 1) + 1 = fs.length - n := by omega
        rw [e] at hx
        exact ih (by omega) x hx
  have := key fs.length (Nat.le_refl _)
  simpa using this
theorem dot_bd {B : Int} (hB : 0 ≤ B) : ∀ {fs ws : List Int}, ws.length = fs.length → (∀ f ∈ fs, 1 ≤ f ∧ f ≤ 99) → (∀ w ∈ ws, 0 ≤ w ∧ w ≤ B) → ws.sum ≤ dot fs ws ∧ dot fs ws ≤ 99 * B * fs.length
  | [], [], _, _, _ => by simp [dot]
  | [], _ :: _, h, _, _ => by simp at h
  | _ :: _, [], h, _, _ => by simp at h
  | f :: fs, w :: ws, h, hf, hw => by
    obtain ⟨i1, i2⟩ := dot_bd hB (fs := fs) (ws := ws) (by simpa using h) (fun y hy => hf y (List.mem_cons_of_mem _ hy)) (fun y hy => hw y (List.mem_cons_of_mem _ hy))
    have f0 := hf f List.mem_cons_self
    have w0 := hw w List.mem_cons_self
    have u := Int.mul_le_mul f0.2 w0.2 w0.1 (by omega)
    have v := Int.mul_le_mul_of_nonneg_right f0.1 w0.1
    simp only [dot, List.sum_cons, List.length_cons]
    push_cast
    have e : 99 * B * (fs.length + 1) = 99 * B * fs.length + 99 * B := by grind
    omega
theorem BO.dt {fs ws : List Int} (h : BO fs ws) : 1 ≤ dot fs ws ∧ dot fs ws ≤ 99 * 10 ^ 30 * 4 := by
  obtain ⟨a, b⟩ := dot_bd (B := 10 ^ 30) (by decide) h.len h.f h.w
  have c : (99 * 10 ^ 30 : Int) * (fs.length : Int) ≤ 99 * 10 ^ 30 * 4 := Int.mul_le_mul_of_nonneg_left (by have := h.f4; omega) (by decide)
  have := h.s
  omega
def barD (fs ws : List Int) : D := fracD (mx (tops fs ws)).toNat (dot fs ws).toNat
theorem BO.ne {fs ws : List Int} (h : BO fs ws) : tops fs ws ≠ [] := by
  intro z
  have := tops_len h.len
  rw [z] at this
  have := h.f1
  simp at *
  omega
theorem BO.mxb {fs ws : List Int} (h : BO fs ws) : 0 ≤ mx (tops fs ws) ∧ mx (tops fs ws) ≤ 99 * (4 * 10 ^ 30) := mx_bd (by decide) (tops_bd h)
/-- weights come as a list, or as a tuple -/
def IsW (x : D) (ws : List Int) : Prop := x = ti ws ∨ x = li ws
theorem IsW.sl {x : D} {ws : List Int} (h : IsW x ws) (n : Nat) : ∃ y, slD x (some (n : Int)) none = some y ∧ biD .sum [y] = some (.int (ws.drop n).sum) := by
  rcases h with rfl | rfl
  · exact ⟨ti (ws.drop n), by simp [ti, cut_ints], by show Option.map _ (intsD _) = _; rw [ints_map]; rfl⟩
  · exact ⟨li (ws.drop n), by simp [li, cut_ints], by show Option.map _ (intsD _) = _; rw [ints_map]; rfl⟩
theorem IsW.it {x : D} {ws : List Int} (h : IsW x ws) : itemsD x = some (ws.map .int) := by
  rcases h with rfl | rfl <;> rfl
theorem bar_value_i (k : Nat) {fs ws : List Int} {x : D} (g : G) (h : BO fs ws) (hx : IsW x ws) : den p (k + 3) 18 [ti fs, x] g = .ok (barD fs ws) g := by
  refine Eq.trans (den_f H84.h_bar_value rfl (by decide)) ?_
  show endR (evB p.cs (den p (k + 2)) b_bar_value [.val (ti fs), .val x, .no, .no, .no, .no] g) = _
  have e1 : evE p.cs (den p (k + 2)) (.lc (.bin .mul (.var 4) (.bi .sum (.cons (.sl (.var 1) (some (.var 3)) none) .nil))) (.tup [(.var 3), (.var 4)]) (.enum (.var 0)) none) [.val (ti fs), .val x, .no, .no, .no, .no] g = .ok (.lst ((tops fs ws).map .int)) g := by
    have := lcR_enum (ws0 := ws) (F := fun d g => (lift (setT (.tup [(.var 3), (.var 4)]) d (wipeG [.val (ti fs), .val x, .no, .no, .no, .no] (T.vars (.tup [(.var 3), (.var 4)])))) g).bind fun Γ' g => (evE p.cs (den p (k + 2)) (.bin .mul (.var 4) (.bi .sum (.cons (.sl (.var 1) (some (.var 3)) none) .nil))) Γ' g).bind fun y g => .ok (some y) g) fs 0 g h.len (fun i g hi => by
      obtain ⟨y, s1, s2⟩ := hx.sl i
      have f0 := h.f _ (mem_getD (l := fs) (i := i) hi)
      have m : opD .mul (.int (fs.getD i 0)) (.int (ws.drop i).sum) = some (.int (fs.getD i 0 * (ws.drop i).sum)) := by
        have := drop_bd h i
        exact o_mul (mulOk (sm_of (by omega) (by omega)) (sm_of (by omega) (by omega)))
      generalize fs.getD i 0 = z at m ⊢
      simp [s1, s2, m, -bi_sum])
    simp only [List.drop_zero] at this
    rw [x_lc0]
    simp only [i_enum, x_var, List.getElem?_cons_zero, r_ok, ti_it]
    rw [show (0 : Int) = ((0 : Nat) : Int) from rfl, this]
    rfl
  have e2 := lc_zip (cs := p.cs) (call := den p (k + 2)) (elt := .bin .mul (.var 4) (.var 5)) (t := .tup [.var 4, .var 5]) (it := .zip (.var 0) (.var 1)) (Γ := [.val (ti fs), .val x, .val (.int (mx (tops fs ws))), .no, .no, .no]) (g := g) (xs := fs) (ys := ws) (h := fun a b => .int (a * b))
    (by simp [hx.it]) (fun q hq g => by
      have f0 := h.f _ (List.of_mem_zip hq).1
      have w0 := h.w _ (List.of_mem_zip hq).2
      simp [o_mul (mulOk (sm_of (x := q.1) (by omega) (by omega)) (sm_of (x := q.2) (by omega) (by omega)))])
  have e3 : biD .sum [.lst ((fs.zip ws).map fun q => D.int (q.1 * q.2))] = some (.int (dot fs ws)) := by
    rw [bi_sum, ints_mapf (fun q : Int × Int => q.1 * q.2), muls_zip]
    simp [muls_sum]
  have hm := h.mxb
  have hd := h.dt
  have ef := fraction_i (p := p) k (mx (tops fs ws)).toNat (dot fs ws).toNat g (by omega)
  rw [Int.toNat_of_nonneg hm.1, Int.toNat_of_nonneg (by omega)] at ef
  simp [b_bar_value, e1, mx_bi h.ne, e2, e3, ef, barD, -bi_sum]
end Pk

set_option Elab.async false
set_option linter.all false
set_option maxRecDepth 100000
set_option maxHeartbeats 4000000
set_option pp.maxSteps 800
/-! Best plans: the law's own defs, and bars judged. -/
namespace Pk
open PySem Bk
variable {p : Pr} [HP p] [H84 p]
theorem least84_w (cs : List (Nat × D)) (call : Nat → List D → G → R D) (g : G) (s0 s1 : Slot) : ∀ (n b a : Nat), b < n → whlR (fun Γ g => blR (evE cs call (.cmp .ne (.var 3) (.cst (.int 0))) Γ g)) (fun Γ g => evB cs call (.cons (.par [(2, false), (3, false)] (.cons (.var 3) (.cons (.bin .mod (.bi .int (.cons (.var 2) .nil)) (.var 3)) .nil))) .nil) Γ g) n [s0, s1, .val (.int (a : Nat)), .val (.int (b : Nat))] g
    = .ok (.nx [s0, s1, .val (.int (Nat.gcd a b : Nat)), .val (.int 0)]) g
  | 0, b, a, h => by omega
  | n + 1, b, a, h => by
    unfold whlR
    by_cases hb : b = 0
    · subst hb
      simp
    · have hb' : ¬ ((b : Int) = 0) := by omega
      have ih := least84_w cs call g s0 s1 n (a % b) b (by have := Nat.mod_lt a (Nat.pos_of_ne_zero hb); omega)
      rw [gcd_step a b (Nat.pos_of_ne_zero hb)]
      have e1 : blR (evE cs call (.cmp .ne (.var 3) (.cst (.int 0))) [s0, s1, .val (.int (a : Nat)), .val (.int (b : Nat))] g) = .ok true g := by
        simp [hb]
      have om : opD .mod (.int (a : Nat)) (.int (b : Nat)) = some (.int ((a % b : Nat) : Int)) := by
        rw [o_mod (by omega)]; simp
      have e2 : evB cs call (.cons (.par [(2, false), (3, false)] (.cons (.var 3) (.cons (.bin .mod (.bi .int (.cons (.var 2) .nil)) (.var 3)) .nil))) .nil) [s0, s1, .val (.int (a : Nat)), .val (.int (b : Nat))] g = .ok (.nx [s0, s1, .val (.int (b : Nat)), .val (.int ((a % b : Nat) : Int))]) g := by
        simp [om, parG]
      simp only [e1, R.bind, if_true, e2]
      exact ih
theorem least84_i (k : Nat) {a b : Int} (g : G) (ha : 0 ≤ a) (hb : 1 ≤ b) (hb1 : b < 10 ^ 100) : den p (k + 1) 390 [.int a, .int b] g = .ok (fracD a.toNat b.toNat) g := by
  refine Eq.trans (den_f H84.h__law_least_390 rfl (by decide)) ?_
  show endR (evB p.cs (den p k) b__law_least_390 [.val (.int a), .val (.int b), .no, .no] g) = _
  have ew := least84_w p.cs (den p k) g (.val (.int a)) (.val (.int b)) FUEL b.toNat a.toNat (by unfold FUEL; omega)
  rw [Int.toNat_of_nonneg ha, Int.toNat_of_nonneg (show 0 ≤ b by omega)] at ew
  have hgp : 0 < Nat.gcd a.toNat b.toNat := Nat.gcd_pos_of_pos_right _ (by omega)
  have hgl : Nat.gcd a.toNat b.toNat ≤ b.toNat := Nat.gcd_le_right _ (by omega)
  have od : ∀ x : Int, opD .div (.int x) (.int ((Nat.gcd a.toNat b.toNat : Nat) : Int)) = some (.int (x / ((Nat.gcd a.toNat b.toNat : Nat) : Int))) := fun x => o_div (divOk (by omega) (by unfold Sm; simp only [Int.natAbs_natCast]; omega))
  have ep : ∀ s2 s3, parG [(2, false), (3, false)] [.int a, .int b] [.val (.int a), .val (.int b), s2, s3] = some [.val (.int a), .val (.int b), .val (.int a), .val (.int b)] := fun _ _ => rfl
  have e1 : a / ((Nat.gcd a.toNat b.toNat : Nat) : Int) = ((a.toNat / Nat.gcd a.toNat b.toNat : Nat) : Int) := by
    rw [Int.natCast_ediv, Int.toNat_of_nonneg ha]
  have e2 : b / ((Nat.gcd a.toNat b.toNat : Nat) : Int) = ((b.toNat / Nat.gcd a.toNat b.toNat : Nat) : Int) := by
    rw [Int.natCast_ediv, Int.toNat_of_nonneg (show 0 ≤ b by omega)]
  have es : evS p.cs (den p k) (.whl FUEL (.cmp .ne (.var 3) (.cst (.int 0))) (.cons (.par [(2, false), (3, false)] (.cons (.var 3) (.cons (.bin .mod (.bi .int (.cons (.var 2) .nil)) (.var 3)) .nil))) .nil)) [.val (.int a), .val (.int b), .val (.int a), .val (.int b)] g = .ok (.nx [.val (.int a), .val (.int b), .val (.int (Nat.gcd a.toNat b.toNat : Nat)), .val (.int 0)]) g := by
    rw [s_whl']; exact ew
  unfold fracD
  rw [if_neg (by omega)]
  simp [b__law_least_390, ep, es, od, e1, e2]
theorem ix_tn {l : List Int} {i : Nat} (h : i < l.length) : idxD (ti l) (.int (i : Nat)) = some (.int (l.getD i 0)) := by
  have := ix_ti (l := l) (j := (i : Nat)) (by omega) (by simpa using h)
  simpa using this
theorem value_i (k : Nat) {fs ws : List Int} (g : G) (h : BO fs ws) : den p (k + 2) 391 [ti fs, ti ws] g = .ok (barD fs ws) g := by
  refine Eq.trans (den_f H84.h__law_value rfl (by decide)) ?_
  show endR (evB p.cs (den p (k + 1)) b__law_value [.val (ti fs), .val (ti ws), .no, .no] g) = _
  have hlen : (-1000000 : Int) ≤ (fs.length : Int) ∧ (fs.length : Int) ≤ 1000000 := by have := h.f4; omega
  have e1 : evE p.cs (den p (k + 1)) (.lc (.bin .mul (.idx (.var 0) (.var 3)) (.bi .sum (.cons (.sl (.var 1) (some (.var 3)) none) .nil))) (.var 3) (.rng1 (.bi .len (.cons (.var 0) .nil))) none) [.val (ti fs), .val (ti ws), .no, .no] g = .ok (.lst ((tops fs ws).map .int)) g := by
    have := lcR_rng (N := fs.length) (H := fun i => fs.getD i 0 * (ws.drop i).sum) (L := fun n => tops (fs.drop n) (ws.drop n)) (fun n hn => tops_drop hn h.len) (by show tops (fs.drop fs.length) _ = []; rw [List.drop_of_length_le (Nat.le_refl _)]; rfl)
      (F := fun d g => (lift (setT (.var 3) d (wipeG [.val (ti fs), .val (ti ws), .no, .no] (T.vars (.var 3)))) g).bind fun Γ' g => (evE p.cs (den p (k + 1)) (.bin .mul (.idx (.var 0) (.var 3)) (.bi .sum (.cons (.sl (.var 1) (some (.var 3)) none) .nil))) Γ' g).bind fun y g => .ok (some y) g) (fun i g hi => by
      obtain ⟨y, s1, s2⟩ := IsW.sl (x := ti ws) (ws := ws) (.inl rfl) i
      have f0 := h.f _ (mem_getD (l := fs) (i := i) hi)
      have ix := ix_tn (l := fs) hi
      have m : opD .mul (.int (fs.getD i 0)) (.int (ws.drop i).sum) = some (.int (fs.getD i 0 * (ws.drop i).sum)) := by
        have := drop_bd h i
        exact o_mul (mulOk (sm_of (by omega) (by omega)) (sm_of (by omega) (by omega)))
      generalize fs.getD i 0 = z at m ix ⊢
      simp [s1, s2, m, ix, -bi_sum]) fs.length 0 g (by simp)
    simp only [List.drop_zero] at this
    rw [x_lc0]
    have er : evI p.cs (den p (k + 1)) (.rng1 (.bi .len (.cons (.var 0) .nil))) [.val (ti fs), .val (ti ws), .no, .no] g = .ok (rngD 0 fs.length) g := by
      have := rng1_i (cs := p.cs) (call := den p (k + 1)) (Γ := [.val (ti fs), .val (ti ws), .no, .no]) (g := g) (a := .bi .len (.cons (.var 0) .nil)) (i := fs.length) (by simp) hlen
      simpa using this
    rw [er, r_ok]
    rw [show (0 : Int) = ((0 : Nat) : Int) from rfl, this]
    rfl
  have e2 : ∀ s2, evE p.cs (den p (k + 1)) (.lc (.bin .mul (.idx (.var 0) (.var 3)) (.idx (.var 1) (.var 3))) (.var 3) (.rng1 (.bi .len (.cons (.var 0) .nil))) none) [.val (ti fs), .val (ti ws), s2, .no] g = .ok (.lst ((muls fs ws).map .int)) g := by
    intro s2
    have := lcR_rng (N := fs.length) (H := fun i => fs.getD i 0 * ws.getD i 0) (L := fun n => muls (fs.drop n) (ws.drop n)) (fun n hn => muls_drop hn h.len) (by show muls (fs.drop fs.length) _ = []; rw [List.drop_of_length_le (Nat.le_refl _)]; rfl)
      (F := fun d g => (lift (setT (.var 3) d (wipeG [.val (ti fs), .val (ti ws), s2, .no] (T.vars (.var 3)))) g).bind fun Γ' g => (evE p.cs (den p (k + 1)) (.bin .mul (.idx (.var 0) (.var 3)) (.idx (.var 1) (.var 3))) Γ' g).bind fun y g => .ok (some y) g) (fun i g hi => by
      have hl := h.len
      have f0 := h.f _ (mem_getD (l := fs) (i := i) hi)
      have w0 := h.w _ (mem_getD (l := ws) (i := i) (by omega))
      have ix := ix_tn (l := fs) hi
      have iw := ix_tn (l := ws) (i := i) (by omega)
      have m : opD .mul (.int (fs.getD i 0)) (.int (ws.getD i 0)) = some (.int (fs.getD i 0 * ws.getD i 0)) := o_mul (mulOk (sm_of (by omega) (by omega)) (sm_of (by omega) (by omega)))
      generalize fs.getD i 0 = z at m ix ⊢
      generalize ws.getD i 0 = z2 at m iw ⊢
      simp [m, ix, iw]) fs.length 0 g (by simp)
    simp only [List.drop_zero] at this
    rw [x_lc0]
    have er : evI p.cs (den p (k + 1)) (.rng1 (.bi .len (.cons (.var 0) .nil))) [.val (ti fs), .val (ti ws), s2, .no] g = .ok (rngD 0 fs.length) g := by
      have := rng1_i (cs := p.cs) (call := den p (k + 1)) (Γ := [.val (ti fs), .val (ti ws), s2, .no]) (g := g) (a := .bi .len (.cons (.var 0) .nil)) (i := fs.length) (by simp) hlen
      simpa using this
    rw [er, r_ok]
    rw [show (0 : Int) = ((0 : Nat) : Int) from rfl, this]
    rfl
  have e3 : biD .sum [.lst ((muls fs ws).map D.int)] = some (.int (dot fs ws)) := by
    rw [bi_sum, ints_map, ← muls_sum]
    rfl
  have hm := h.mxb
  have hd := h.dt
  have ef := least84_i (p := p) k g hm.1 hd.1 (by omega)
  simp [b__law_value, e1, mx_bi h.ne, e2, e3, ef, barD, -bi_sum]
/-! ### bars judged -/
def whB : D → Bool
  | .int i => decide (0 ≤ i) && decide (i ≤ 10 ^ 30)
  | _ => false
theorem whole_d (k : Nat) {d : D} (g : G) (h : (∃ i, d = .int i) ∨ d = .bl true) : den p (k + 1) 21 [d, .int 0, .int 1000000000000000000000000000000] g = .ok (.bl (whB d)) g := by
  rcases h with ⟨i, rfl⟩ | rfl
  · exact is_whole_i k i 0 _ g
  · refine Eq.trans (den_f HP.h_is_whole rfl (by decide)) ?_
    show endR (evB p.cs (den p k) b_is_whole [.val (.bl true), .val (.int 0), .val (.int 1000000000000000000000000000000)] g) = _
    simp [b_is_whole, isiD, isI, whB]
abbrev eBar : E := .lc (.call 21 (.cons (.var 2) (.cons (.cst (.int 0)) (.cons (.glb 1) .nil)))) (.var 2) (.seq (.var 1)) none
theorem bar_lc (k : Nat) {x : D} {xs : List D} (g : G) (h : ∀ d ∈ xs, (∃ i, d = .int i) ∨ d = .bl true) : evE p.cs (den p (k + 1)) eBar [.val x, .val (.tup xs), .no] g = .ok (.lst (xs.map fun d => D.bl (whB d))) g :=
  lc_map (l := xs) (enc := fun d => d) (h := fun d => .bl (whB d)) (by simp) (fun d hd g => by simp [whole_d (p := p) k g (h d hd)])
theorem check_ok (k : Nat) {fs ws : List Int} (g : G) (h : BO fs ws) (hf : fsOk fs = true) : den p (k + 4) 100 [ti fs, ti ws] g = .ok (barD fs ws) g := by
  refine Eq.trans (den_f H84.h_check_bar rfl (by decide)) ?_
  show endR (evB p.cs (den p (k + 3)) b_check_bar [.val (ti fs), .val (ti ws), .no] g) = _
  have e1 : evE p.cs (den p (k + 3)) eBar [.val (ti fs), .val (ti ws), .no] g = .ok (.lst ((ws.map D.int).map fun d => D.bl (whB d))) g := bar_lc (p := p) (k + 2) g fun d hd => by
    obtain ⟨i, _, rfl⟩ := List.mem_map.mp hd
    exact .inl ⟨i, rfl⟩
  have e2 : biD .all [.lst ((ws.map D.int).map fun d => D.bl (whB d))] = some (.bl true) := by
    rw [all_bl whB]
    congr 2
    rw [List.all_eq_true]
    intro d hd
    obtain ⟨i, hi, rfl⟩ := List.mem_map.mp hd
    have := h.w i hi
    simp only [whB, Bool.and_eq_true, decide_eq_true_eq]
    exact this
  have e3 : biD .sum [ti ws] = some (.int ws.sum) := by show Option.map _ (intsD _) = _; rw [ints_map]; rfl
  have hs : ¬ (ws.sum = 0) := by have := h.s; omega
  have hl := h.len
  simp only [List.map_map] at e1 e2
  simp [b_check_bar, need_fares_i (p := p) k fs g hf, hl, e1, e2, e3, hs, bar_value_i (p := p) k g h (.inl rfl), -bi_all, -bi_sum]
theorem bad_1 (k : Nat) {fs : List Int} {x : D} (g : G) (hf : fsOk fs = true) (hx : isiD [.tuple] x = some false) : den p (k + 4) 100 [ti fs, x] g = .ex 7 [.str "bar"] g := by
  refine Eq.trans (den_f H84.h_check_bar rfl (by decide)) ?_
  show endR (evB p.cs (den p (k + 3)) b_check_bar [.val (ti fs), .val x, .no] g) = _
  simp [b_check_bar, need_fares_i (p := p) k fs g hf, hx]
theorem bad_2 (k : Nat) {fs : List Int} {xs : List D} (g : G) (hf : fsOk fs = true) (hx : xs.length ≠ fs.length) : den p (k + 4) 100 [ti fs, .tup xs] g = .ex 7 [.str "bar"] g := by
  refine Eq.trans (den_f H84.h_check_bar rfl (by decide)) ?_
  show endR (evB p.cs (den p (k + 3)) b_check_bar [.val (ti fs), .val (.tup xs), .no] g) = _
  have hx' : ¬ ((xs.length : Int) = (fs.length : Int)) := by omega
  simp [b_check_bar, need_fares_i (p := p) k fs g hf, hx']
theorem bad_3 (k : Nat) {fs : List Int} {xs : List D} (g : G) (hf : fsOk fs = true) (hx : xs.length = fs.length) (h : ∀ d ∈ xs, (∃ i, d = .int i) ∨ d = .bl true) {d : D} (hd : d ∈ xs) (hb : whB d = false) : den p (k + 4) 100 [ti fs, .tup xs] g = .ex 7 [.str "bar"] g := by
  refine Eq.trans (den_f H84.h_check_bar rfl (by decide)) ?_
  show endR (evB p.cs (den p (k + 3)) b_check_bar [.val (ti fs), .val (.tup xs), .no] g) = _
  have e1 := bar_lc (p := p) (k + 2) (x := ti fs) g h
  have e2 : biD .all [.lst (xs.map fun d => D.bl (whB d))] = some (.bl false) := by
    rw [all_bl whB]
    congr 2
    rw [List.all_eq_false]
    exact ⟨d, hd, by simp [hb]⟩
  simp [b_check_bar, need_fares_i (p := p) k fs g hf, hx, e1, e2, -bi_all]
theorem bad_4 (k : Nat) {fs ws : List Int} (g : G) (hf : fsOk fs = true) (hx : ws.length = fs.length) (hw : ∀ w ∈ ws, 0 ≤ w ∧ w ≤ 10 ^ 30) (hs : ws.sum = 0) : den p (k + 4) 100 [ti fs, ti ws] g = .ex 7 [.str "bar"] g := by
  refine Eq.trans (den_f H84.h_check_bar rfl (by decide)) ?_
  show endR (evB p.cs (den p (k + 3)) b_check_bar [.val (ti fs), .val (ti ws), .no] g) = _
  have e1 : evE p.cs (den p (k + 3)) eBar [.val (ti fs), .val (ti ws), .no] g = .ok (.lst ((ws.map D.int).map fun d => D.bl (whB d))) g := bar_lc (p := p) (k + 2) g fun d hd => by
    obtain ⟨i, _, rfl⟩ := List.mem_map.mp hd
    exact .inl ⟨i, rfl⟩
  have e2 : biD .all [.lst ((ws.map D.int).map fun d => D.bl (whB d))] = some (.bl true) := by
    rw [all_bl whB]
    congr 2
    rw [List.all_eq_true]
    intro d hd
    obtain ⟨i, hi, rfl⟩ := List.mem_map.mp hd
    have := hw i hi
    simp only [whB, Bool.and_eq_true, decide_eq_true_eq]
    exact this
  have e3 : biD .sum [ti ws] = some (.int ws.sum) := by show Option.map _ (intsD _) = _; rw [ints_map]; rfl
  simp only [List.map_map] at e1 e2
  simp [b_check_bar, need_fares_i (p := p) k fs g hf, hx, e1, e2, e3, hs, -bi_all, -bi_sum]
end Pk

set_option Elab.async false
set_option linter.all false
set_option maxRecDepth 100000
set_option maxHeartbeats 4000000
set_option pp.maxSteps 800
/-! Best plans: what they come to. -/
namespace Pk
open PySem Bk
structure FO (f0 : Int) (tl : List Int) : Prop where
  l4 : tl.length ≤ 3
  f : ∀ f ∈ f0 :: tl, 1 ≤ f ∧ f ≤ 99
  up : Us f0 tl
  ok : fsOk (f0 :: tl) = true
theorem FO.of {f0 : Int} {tl : List Int} (h : fsOk (f0 :: tl) = true) : FO f0 tl := by
  have h' := h
  unfold fsOk at h'
  simp only [Bool.and_eq_true, decide_eq_true_eq, List.all_eq_true] at h'
  obtain ⟨⟨⟨a1, a2⟩, a3⟩, a4⟩ := h'
  exact ⟨by simpa using a2, a3, Us.of a4, h⟩
def wh (fs : List Int) : Int := prodA 1 fs
def vOf (fs : List Int) : List Int := tel (fs.map (wh fs / ·))
def dOf (fs : List Int) : Nat := gf 0 (vOf fs)
def wOf (fs : List Int) : List Int := (vOf fs).map (· / (dOf fs : Int))
theorem mk_of {W : Int} : ∀ {l : List Int}, (∀ f ∈ l, f ∣ W) → Mk W l (l.map (W / ·))
  | [], _ => trivial
  | f :: l, h => ⟨Int.mul_ediv_cancel' (h f List.mem_cons_self), mk_of fun x hx => h x (List.mem_cons_of_mem _ hx)⟩
theorem tel_pos {W : Int} (hW : 1 ≤ W) : ∀ {fs cs : List Int} {f0 c0 : Int}, Mk W (f0 :: fs) (c0 :: cs) → Us f0 fs → 1 ≤ f0 → 1 ≤ c0 ∧ c0 ≤ W ∧ ∀ x ∈ tel (c0 :: cs), 1 ≤ x ∧ x ≤ W
  | fs, cs, f0, c0, h, hu, h0 => by
    have e := h.1
    have c1 : 1 ≤ c0 := by
      refine Classical.byContradiction fun z => ?_
      have : f0 * c0 ≤ f0 * 0 := Int.mul_le_mul_of_nonneg_left (by omega) (by omega)
      omega
    have c2 : c0 ≤ W := by
      have : 1 * c0 ≤ f0 * c0 := Int.mul_le_mul_of_nonneg_right h0 (by omega)
      omega
    refine ⟨c1, c2, ?_⟩
    cases fs with
    | nil =>
      cases cs with
      | nil =>
        intro x hx
        simp [tel] at hx
        omega
      | cons _ _ => exact h.2.elim
    | cons f fs =>
      cases cs with
      | nil => exact h.2.elim
      | cons c cs =>
        obtain ⟨i1, i2, i3⟩ := tel_pos hW h.2 hu.2 (by have := hu.1; omega)
        have e2 := h.2.1
        have lt : c < c0 := by
          refine Classical.byContradiction fun z => ?_
          have a : f * c0 ≤ f * c := Int.mul_le_mul_of_nonneg_left (by omega) (by have := hu.1; omega)
          have b : (f0 + 1) * c0 ≤ f * c0 := Int.mul_le_mul_of_nonneg_right (by have := hu.1; omega) (by omega)
          have d : (f0 + 1) * c0 = f0 * c0 + c0 := by grind
          omega
        intro x hx
        have hx : x ∈ (c0 - c) :: tel (c :: cs) := hx
        rcases List.mem_cons.mp hx with rfl | hx
        · omega
        · exact i3 x hx
section
variable {f0 : Int} {tl : List Int} (h : FO f0 tl)
include h
theorem FO.whb : 1 ≤ wh (f0 :: tl) ∧ wh (f0 :: tl) ≤ 99 ^ 4 := by
  obtain ⟨a, b⟩ := prodA_bd h.f
  refine ⟨a, Int.le_trans b ?_⟩
  have l := h.l4
  have : (99 : Int) ^ (f0 :: tl).length ≤ 99 ^ 4 := by
    have e : (f0 :: tl).length ≤ 4 := by simp; omega
    generalize (f0 :: tl).length = n at e
    have : n = 0 ∨ n = 1 ∨ n = 2 ∨ n = 3 ∨ n = 4 := by omega
    rcases this with rfl | rfl | rfl | rfl | rfl <;> decide
  exact this
theorem FO.mkk : Mk (wh (f0 :: tl)) (f0 :: tl) ((f0 :: tl).map (wh (f0 :: tl) / ·)) := mk_of fun f hf => prodA_dvd hf
theorem FO.v : ∀ x ∈ vOf (f0 :: tl), 1 ≤ x ∧ x ≤ wh (f0 :: tl) := (tel_pos h.whb.1 h.mkk h.up (h.f f0 List.mem_cons_self).1).2.2
theorem FO.vlen : (vOf (f0 :: tl)).length = (f0 :: tl).length := by rw [vOf, tel_len, List.length_map]
theorem FO.vne : ∃ x, x ∈ vOf (f0 :: tl) := by
  cases e : vOf (f0 :: tl) with
  | nil => have := h.vlen; rw [e] at this; simp at this
  | cons a l => exact ⟨a, List.mem_cons_self⟩
theorem FO.d1 : 1 ≤ dOf (f0 :: tl) := by
  obtain ⟨x, hx⟩ := h.vne
  have a := (gf_dvd (vOf (f0 :: tl)) 0).2 x hx
  have b := h.v x hx
  have c : 0 < x.toNat := by omega
  exact Nat.pos_of_dvd_of_pos a c
theorem FO.dvd : ∀ x ∈ vOf (f0 :: tl), (dOf (f0 :: tl) : Int) ∣ x := fun x hx => by
  have a := (gf_dvd (vOf (f0 :: tl)) 0).2 x hx
  have b := h.v x hx
  have e : ((x.toNat : Nat) : Int) = x := Int.toNat_of_nonneg (by omega)
  rw [← e]
  exact Int.natCast_dvd_natCast.mpr a
theorem FO.vw : vOf (f0 :: tl) = (wOf (f0 :: tl)).map ((dOf (f0 :: tl) : Int) * ·) := part_map (by have := h.d1; omega) h.dvd
theorem FO.w : ∀ x ∈ wOf (f0 :: tl), 1 ≤ x ∧ x ≤ 99 ^ 4 := fun x hx => by
  have d1 := h.d1
  have m : (dOf (f0 :: tl) : Int) * x ∈ vOf (f0 :: tl) := by rw [h.vw]; exact List.mem_map.mpr ⟨x, hx, rfl⟩
  have b := h.v _ m
  have c := h.whb
  have x1 : 1 ≤ x := by
    refine Classical.byContradiction fun z => ?_
    have : (dOf (f0 :: tl) : Int) * x ≤ dOf (f0 :: tl) * 0 := Int.mul_le_mul_of_nonneg_left (by omega) (by omega)
    omega
  have : 1 * x ≤ (dOf (f0 :: tl) : Int) * x := Int.mul_le_mul_of_nonneg_right (by omega) (by omega)
  exact ⟨x1, by omega⟩
theorem FO.wlen : (wOf (f0 :: tl)).length = (f0 :: tl).length := by rw [wOf, List.length_map, h.vlen]
theorem FO.bo : BO (f0 :: tl) (wOf (f0 :: tl)) := by
  refine ⟨by simp, by have := h.l4; simp; omega, h.f, h.wlen, fun x hx => ?_, ?_⟩
  · have := h.w x hx
    omega
  · have l := h.wlen
    cases e : wOf (f0 :: tl) with
    | nil => rw [e] at l; simp at l
    | cons a r =>
      have k := h.w
      rw [e] at k
      have a1 := k a List.mem_cons_self
      have r1 := (sum_bd (B := 99 ^ 4) (by decide) (l := r) fun x hx => by have := k x (List.mem_cons_of_mem _ hx); omega).1
      simp only [List.sum_cons]
      omega
end
theorem mx_mem {l : List Int} (h : l ≠ []) : mx l ∈ l := by
  have key : ∀ (l : List Int) (a : Int), maxI a l ∈ a :: l := by
    intro l
    induction l with
    | nil => intro a; exact List.mem_cons_self
    | cons b l ih =>
      intro a
      have e : maxI a (b :: l) = maxI (if a < b then b else a) l := rfl
      rw [e]
      split
      · exact List.mem_cons_of_mem _ (ih b)
      · rcases List.mem_cons.mp (ih a) with z | z
        · rw [z]; exact List.mem_cons_self
        · exact List.mem_cons_of_mem _ (List.mem_cons_of_mem _ z)
  cases l with
  | nil => exact absurd rfl h
  | cons a l => exact key l a
/-- best share, by the law's own sums: O over P -/
def pO (f0 : Int) (tl : List Int) : Int × Int := bo f0 (tl.length + 1) 1 tl
section
variable {f0 : Int} {tl : List Int} (h : FO f0 tl)
include h
theorem FO.O : (pO f0 tl).2 = prodA 1 tl ∧ 1 ≤ (pO f0 tl).2 ∧ (pO f0 tl).2 ≤ 99 ^ 3 := by
  have e : (pO f0 tl).2 = prodA 1 tl := bo_O _ _ _ _
  obtain ⟨a, b⟩ := prodA_bd (fs := tl) fun f hf => h.f f (List.mem_cons_of_mem _ hf)
  refine ⟨e, by omega, ?_⟩
  have l := h.l4
  have : (99 : Int) ^ tl.length ≤ 99 ^ 3 := by
    generalize tl.length = n at l
    have : n = 0 ∨ n = 1 ∨ n = 2 ∨ n = 3 := by omega
    rcases this with rfl | rfl | rfl | rfl <;> decide
  omega
theorem FO.cross : mx (tops (f0 :: tl) (wOf (f0 :: tl))) * (pO f0 tl).1 = (pO f0 tl).2 * dot (f0 :: tl) (wOf (f0 :: tl)) := by
  have d1 := h.d1
  have m := mx_mem h.bo.ne
  have eT : (dOf (f0 :: tl) : Int) * mx (tops (f0 :: tl) (wOf (f0 :: tl))) = wh (f0 :: tl) := by
    refine tops_tel h.mkk _ ?_
    show _ ∈ tops (f0 :: tl) (vOf (f0 :: tl))
    rw [h.vw, tops_scale]
    exact List.mem_map.mpr ⟨_, m, rfl⟩
  have eD : (dOf (f0 :: tl) : Int) * dot (f0 :: tl) (wOf (f0 :: tl)) = (tl.length + 1 : Int) * wh (f0 :: tl) - crs f0 tl (tl.map (wh (f0 :: tl) / ·)) := by
    rw [← dot_scale, ← h.vw]
    exact dot_tel h.mkk
  have eB := bo_eq (f0 := f0) (P := tl.length + 1) (O := 1) h.mkk.2 fun f hf => (h.f f (List.mem_cons_of_mem _ hf)).1
  have eB : (pO f0 tl).1 * (1 * wh (f0 :: tl)) = (pO f0 tl).2 * ((tl.length + 1 : Int) * wh (f0 :: tl) - 1 * crs f0 tl (tl.map (wh (f0 :: tl) / ·))) := eB
  rw [Int.one_mul, Int.one_mul, ← eD, ← eT] at eB
  refine Int.eq_of_mul_eq_mul_left (a := (dOf (f0 :: tl) : Int)) (by omega) ?_
  generalize (dOf (f0 :: tl) : Int) = d at *
  grind
theorem FO.P : 1 ≤ (pO f0 tl).1 ∧ (pO f0 tl).1 ≤ 4 * (pO f0 tl).2 := by
  have o := h.O
  have c := h.cross
  have dt := h.bo.dt
  have mb := h.bo.mxb
  constructor
  · refine Classical.byContradiction fun z => ?_
    have a : mx (tops (f0 :: tl) (wOf (f0 :: tl))) * (pO f0 tl).1 ≤ mx (tops (f0 :: tl) (wOf (f0 :: tl))) * 0 := Int.mul_le_mul_of_nonneg_left (by omega) mb.1
    have b : 1 * 1 ≤ (pO f0 tl).2 * dot (f0 :: tl) (wOf (f0 :: tl)) := Int.mul_le_mul o.2.1 dt.1 (by omega) (by omega)
    omega
  · refine bo_le (m := 4) ?_ (by omega) (by have := h.f f0 List.mem_cons_self; omega) fun f hf => (h.f f (List.mem_cons_of_mem _ hf)).1
    have := h.l4
    omega
theorem FO.share : barD (f0 :: tl) (wOf (f0 :: tl)) = fracD (pO f0 tl).2.toNat (pO f0 tl).1.toNat := by
  have o := h.O
  have p := h.P
  exact frac_cross h.bo.mxb.1 h.bo.dt.1 (by omega) p.1 h.cross
end
theorem up_ups : ∀ {l : List Int} {a : Int}, Up a l → ups l = true
  | [], _, _ => rfl
  | [b], _, _ => rfl
  | b :: c :: r, a, h => by
    have i := up_ups (l := c :: r) h.2
    have e : ups (b :: c :: r) = (decide (b ≤ c) && ups (c :: r)) := rfl
    rw [e, i]
    have := h.2.1
    simp [this]
/-- the best plan -/
structure BP (f0 : Int) (tl : List Int) (a b w : Int) (ps : List Int) : Prop where
  po : PO (f0 :: tl) w ps
  sh : fracD (pO f0 tl).2.toNat (pO f0 tl).1.toNat = .tup [.int a, .int b]
  lg : shV (prs w (f0 :: tl) ps) = .tup [.int a, .int b]
  last : ps.getLast? = some w
  one : gf w.toNat ps = 1
  ab : 1 ≤ a ∧ a ≤ 99 ^ 3 ∧ 1 ≤ b ∧ b ≤ 4 * 99 ^ 3
def fnd (f0 : Int) (tl : List Int) (A : Int) : List Int := A :: fl A f0 A tl
theorem best_bp {f0 : Int} {tl : List Int} (h : FO f0 tl) {a b : Int} (hs : fracD (pO f0 tl).2.toNat (pO f0 tl).1.toNat = .tup [.int a, .int b]) :
    ∃ D : Nat, D = gf (b * prodA 1 tl).toNat (fnd f0 tl (a * prodA 1 tl)) ∧ 1 ≤ D ∧ (D : Int) ≤ 10 ^ 30 ∧ BP f0 tl a b (b * prodA 1 tl / D) ((fnd f0 tl (a * prodA 1 tl)).map (· / (D : Int))) ∧ flL (a * prodA 1 tl) f0 (a * prodA 1 tl) tl = b * prodA 1 tl ∧ ∀ x ∈ fnd f0 tl (a * prodA 1 tl), 0 ≤ x ∧ x ≤ b * prodA 1 tl := by
  have ho := h.O
  have hp := h.P
  obtain ⟨c, d, k, e1, k0, e2, e3, c0, d1, ca, db⟩ := frac_of (a := (pO f0 tl).2) (b := (pO f0 tl).1) (by omega) hp.1
  rw [hs] at e1
  injection e1 with e1
  simp only [List.cons.injEq, D.int.injEq, and_true] at e1
  obtain ⟨rfl, rfl⟩ := e1
  have eT := ho.1
  generalize hT : prodA 1 tl = T at *
  have hT1 : 1 ≤ T := by omega
  have a1 : 1 ≤ a := by
    refine Classical.byContradiction fun z => ?_
    have : a = 0 := by omega
    subst this
    rw [Int.mul_zero] at e2
    omega
  have fd : ∀ f ∈ tl, f ∣ T := fun f hf => by rw [← hT]; exact prodA_dvd hf
  have fA : ∀ f ∈ tl, f ∣ a * T := fun f hf => Int.dvd_trans (fd f hf) ⟨a, by grind⟩
  have A0 : 0 ≤ a * T := Int.mul_nonneg (by omega) (by omega)
  have f0p := (h.f f0 List.mem_cons_self).1
  have e2' : T = k * a := by rw [← eT]; exact e2
  -- the last one
  have eL : flL (a * T) f0 (a * T) tl = b * T := by
    have := fl_end (A := a * T) (fs := tl) (f0 := f0) (l := a * T) (P := tl.length + 1) (O := 1) fA (by grind)
    have this : flL (a * T) f0 (a * T) tl * (pO f0 tl).2 = a * T * (pO f0 tl).1 := this
    rw [eT, e3] at this
    refine Int.eq_of_mul_eq_mul_right (a := T) (by omega) ?_
    rw [this, e2']
    grind
  have hu : Up (a * T) (fl (a * T) f0 (a * T) tl) := fl_up A0 h.up (by omega)
  have gl : (fnd f0 tl (a * T)).getLast? = some (b * T) := by
    rw [← eL]
    exact fl_last
  have hall : ∀ x ∈ fnd f0 tl (a * T), 0 ≤ x ∧ x ≤ b * T := fun x hx => by
    refine ⟨?_, up_last hu gl x hx⟩
    have key : ∀ {l : List Int} {u : Int}, 0 ≤ u → Up u l → ∀ y ∈ u :: l, 0 ≤ y := by
      intro l
      induction l with
      | nil =>
        intro u h0 _ y hy
        simp at hy
        omega
      | cons v l ih =>
        intro u h0 hv y hy
        rcases List.mem_cons.mp hy with rfl | hy
        · exact h0
        · exact ih (by have := hv.1; omega) hv.2 y hy
    exact key A0 hu x hx
  have bT1 : 1 ≤ b * T := by
    have := Int.mul_le_mul d1 hT1 (by omega) (by omega)
    omega
  have bTle : b * T ≤ 10 ^ 30 := by
    have := Int.mul_le_mul (show b ≤ 4 * 99 ^ 3 by omega) (show T ≤ 99 ^ 3 by omega) (by omega) (by omega)
    omega
  -- the divisor
  have gd := gf_dvd (fnd f0 tl (a * T)) (b * T).toNat
  generalize hD : gf (b * T).toNat (fnd f0 tl (a * T)) = D at gd
  have D1 : 1 ≤ D := Nat.pos_of_dvd_of_pos gd.1 (by omega)
  have Dle : D ≤ (b * T).toNat := Nat.le_of_dvd (by omega) gd.1
  have nd : ∀ {x : Int}, 0 ≤ x → D ∣ x.toNat → (D : Int) ∣ x := fun {x} hx hd => by
    have e : ((x.toNat : Nat) : Int) = x := Int.toNat_of_nonneg hx
    rw [← e]
    exact Int.natCast_dvd_natCast.mpr hd
  have dB : (D : Int) ∣ b * T := nd (by omega) gd.1
  have dF : ∀ x ∈ fnd f0 tl (a * T), (D : Int) ∣ x := fun x hx => nd (hall x hx).1 (gd.2 x hx)
  have eW : (D : Int) * (b * T / D) = b * T := Int.mul_ediv_cancel' dB
  have eF := part_map (d := (D : Int)) (by omega) dF
  -- a divides D
  have aD : (a : Int) ∣ (D : Int) := by
    have tn : ∀ {x : Int}, 0 ≤ x → a ∣ x → a.toNat ∣ x.toNat := fun {x} hx hd => by
      have e1 : ((x.toNat : Nat) : Int) = x := Int.toNat_of_nonneg hx
      have e2 : ((a.toNat : Nat) : Int) = a := Int.toNat_of_nonneg (by omega)
      rw [← e1, ← e2] at hd
      exact Int.natCast_dvd_natCast.mp hd
    have dd : a.toNat ∣ D := by
      rw [← hD]
      refine dvd_gf (tn (by omega) ⟨b * k, by rw [e2']; grind⟩) fun x hx => tn (hall x hx).1 ?_
      rcases List.mem_cons.mp hx with rfl | hx
      · exact ⟨T, rfl⟩
      · refine fl_dvd (fun f hf => ?_) ⟨T, rfl⟩ x hx
        rw [Int.mul_ediv_assoc _ (fd f hf)]
        exact ⟨_, rfl⟩
    have e2 : ((a.toNat : Nat) : Int) = a := Int.toNat_of_nonneg (by omega)
    rw [← e2]
    exact Int.natCast_dvd_natCast.mpr dd
  obtain ⟨e, he⟩ := aD
  generalize hw : b * T / (D : Int) = w at *
  have e1 : 1 ≤ e := by
    refine Classical.byContradiction fun z => ?_
    have : a * e ≤ a * 0 := Int.mul_le_mul_of_nonneg_left (by omega) (by omega)
    omega
  have w1 : 1 ≤ w := by
    refine Classical.byContradiction fun z => ?_
    have : (D : Int) * w ≤ D * 0 := Int.mul_le_mul_of_nonneg_left (by omega) (by omega)
    omega
  have we : w * e = k * b := by
    refine Int.eq_of_mul_eq_mul_left (a := a) (by omega) ?_
    rw [he] at eW
    rw [e2'] at eW
    grind
  have wle : w ≤ (pO f0 tl).1 := by
    have := Int.mul_le_mul_of_nonneg_left e1 (show 0 ≤ w by omega)
    rw [e3, ← we]
    omega
  generalize hps : (fnd f0 tl (a * T)).map (· / (D : Int)) = ps at eF
  have hlen : ps.length = (f0 :: tl).length := by rw [← hps, List.length_map]; simp [fnd, fl_len]
  have D0 : (0 : Int) < D := by omega
  have hq : ∀ q ∈ ps, 0 ≤ q ∧ q ≤ w := fun q hq => by
    have m : (D : Int) * q ∈ fnd f0 tl (a * T) := by rw [eF]; exact List.mem_map.mpr ⟨q, hq, rfl⟩
    obtain ⟨m1, m2⟩ := hall _ m
    constructor
    · refine Classical.byContradiction fun z => ?_
      have : (D : Int) * q ≤ D * (-1) := Int.mul_le_mul_of_nonneg_left (by omega) (by omega)
      omega
    · rw [← eW] at m2
      exact Int.le_of_mul_le_mul_left m2 D0
  have hps2 : ps = (a * T / D) :: (fl (a * T) f0 (a * T) tl).map (· / (D : Int)) := by rw [← hps]; rfl
  have hups : ups ps = true := by
    rw [hps2]
    exact up_ups (a := a * T / D) ⟨Int.le_refl _, up_map (f := (· / (D : Int))) (fun x y hxy => Int.ediv_le_ediv D0 hxy) hu⟩
  have upf : upS (f0 :: tl) = true := us_upS (a := f0 - 1) ⟨by omega, h.up⟩
  have po : PO (f0 :: tl) w ps := ⟨by simp, by have := h.l4; simp; omega, h.f, w1, by omega, hlen, hq, hups, upf⟩
  have gG : (gI (f0 :: tl) ps 0 0).map ((D : Int) * ·) = (f0 :: tl).map (a * T * ·) := by
    have s := gI_scale (D : Int) (f0 :: tl) ps 0 0
    rw [← eF, Int.mul_zero] at s
    rw [← s]
    show gI (f0 :: tl) (a * T :: fl (a * T) f0 (a * T) tl) 0 0 = _
    have := fl_gI (A := a * T) (fs := tl) (f0 := f0) (l := a * T) fA
    simp only [gI, List.map_cons, Int.sub_zero, Int.zero_add]
    rw [Int.mul_comm f0 (a * T), this]
  have cr : ∀ q ∈ prs w (f0 :: tl) ps, q.1 * b = a * q.2 := by
    have key : ∀ (xs fs : List Int), xs.map ((D : Int) * ·) = fs.map (a * T * ·) → ∀ q ∈ (xs.zip fs).map (fun q => (q.1, w * q.2)), q.1 * b = a * q.2 := by
      intro xs
      induction xs with
      | nil => intro fs _ q hq; simp at hq
      | cons x xs ih =>
        intro fs hh q hq
        cases fs with
        | nil => simp at hq
        | cons f fs =>
          simp only [List.map_cons, List.cons.injEq] at hh
          simp only [List.zip_cons_cons, List.map_cons, List.mem_cons] at hq
          rcases hq with rfl | hq
          · refine Int.eq_of_mul_eq_mul_left (a := (D : Int)) (by omega) ?_
            have h1 := hh.1
            show (D : Int) * (x * b) = D * (a * (w * f))
            have : (D : Int) * (x * b) = D * x * b := by grind
            rw [this, h1]
            have : (D : Int) * (a * (w * f)) = D * w * a * f := by grind
            rw [this, eW]
            grind
          · exact ih fs hh.2 q hq
    exact key _ _ gG
  have prne := prs_ne (d := w) (fs := f0 :: tl) (ls := ps) (by simp) hlen
  have lg : shV (prs w (f0 :: tl) ps) = .tup [.int a, .int b] := by
    obtain ⟨b0, r, er⟩ := prne
    have mem := less_mem r b0
    rw [← er] at mem
    have c1 := cr _ mem
    have bd := prs_bd (d := w) (M := w) po.f po.f4 (up_of hups (fun x hx => (hq x (List.mem_of_mem_head? hx)).1)) (fun l hl => (hq l hl).2) (by omega) (by omega) w1 (by omega) _ mem
    rw [er]
    show fracD (lessI b0 r).1.toNat (lessI b0 r).2.toNat = _
    rw [← hs]
    refine frac_cross bd.1 bd.2.2.1 (by omega) hp.1 ?_
    rw [e2, e3]
    generalize (lessI b0 r).1 = x at c1 ⊢
    generalize (lessI b0 r).2 = y at c1 ⊢
    have : x * (k * b) = k * (x * b) := by grind
    rw [this, c1]
    grind
  have last : ps.getLast? = some w := by
    rw [← hps, List.getLast?_map, gl]
    simp [hw]
  have one : gf w.toNat ps = 1 := by
    have s := gf_scale (d := D) (n := w.toNat) (l := ps) fun x hx => (hq x hx).1
    have eb : D * w.toNat = (b * T).toNat := by
      have : ((D * w.toNat : Nat) : Int) = (((b * T).toNat : Nat) : Int) := by
        push_cast
        rw [Int.toNat_of_nonneg (by omega), Int.toNat_of_nonneg (by omega)]
        exact eW
      exact Int.ofNat_inj.mp this
    rw [eb, ← eF, hD] at s
    have : D * 1 = D * gf w.toNat ps := by omega
    exact (Nat.eq_of_mul_eq_mul_left (by omega) this).symm
  subst hw
  subst hps
  exact ⟨D, by first | rfl | exact hD.symm, D1, by omega, ⟨po, hs, lg, last, one, a1, by omega, d1, by omega⟩, eL, hall⟩
end Pk

set_option Elab.async false
set_option linter.all false
set_option maxRecDepth 100000
set_option maxHeartbeats 4000000
set_option pp.maxSteps 800
/-! Best plans: the program's defs, walked. -/
namespace Pk
open PySem Bk
variable {p : Pr} [HP p] [H84 p]
abbrev bPr : B := .cons (.asg (.var 1) (.bin .mul (.var 1) (.var 2))) .nil
theorem prod_w (cs : List (Nat × D)) (call : Nat → List D → G → R D) (g : G) (x : Slot) (rest : List Slot) : ∀ (fs : List Int) (t : Int) (s2 : Slot), (∀ f ∈ fs, 1 ≤ f ∧ f ≤ 99) → 1 ≤ t → t * 99 ^ fs.length ≤ 10 ^ 60 →
    ∃ s2', forR (fun x Γ g => (lift (setT (.var 2) x Γ) g).bind fun Γ' g => evB cs call bPr Γ' g) (fs.map .int) (x :: .val (.int t) :: s2 :: rest) g = .ok (.nx (x :: .val (.int (prodA t fs)) :: s2' :: rest)) g
  | [], t, s2, _, _, _ => ⟨s2, rfl⟩
  | f :: fs, t, s2, hf, ht, hb => by
    have f0 := hf f List.mem_cons_self
    have e99 : (1 : Int) ≤ 99 ^ fs.length := Int.pow_pos (by decide)
    have q1 : t * 1 ≤ t * 99 ^ (f :: fs).length := Int.mul_le_mul_of_nonneg_left (Int.pow_pos (by decide)) (by omega)
    have mo : opD .mul (.int t) (.int f) = some (.int (t * f)) := o_mul (mulOk (sm_of (by omega) (by omega)) (sm_of (by omega) (by omega)))
    have h1 : 1 ≤ t * f := by
      have := Int.mul_le_mul ht f0.1 (by omega) (by omega)
      omega
    have h2 : t * f * 99 ^ fs.length ≤ 10 ^ 60 := by
      have a := Int.mul_le_mul_of_nonneg_left f0.2 (show 0 ≤ t by omega)
      have b := Int.mul_le_mul_of_nonneg_right a (show (0 : Int) ≤ 99 ^ fs.length by omega)
      have e : t * 99 ^ (f :: fs).length = t * 99 * 99 ^ fs.length := by rw [List.length_cons, Int.pow_succ]; grind
      omega
    obtain ⟨s2', ih⟩ := prod_w cs call g x rest fs (t * f) (.val (.int f)) (fun y hy => hf y (List.mem_cons_of_mem _ hy)) h1 h2
    refine ⟨s2', ?_⟩
    simp only [List.map, forR, prodA]
    rw [← ih]
    simp [mo]
abbrev bGc : B := .cons (.asg (.var 5) (.ife (.cmp .gt (.var 5) (.cst (.int 0))) (.call 4 (.cons (.var 6) (.cons (.var 5) .nil))) (.var 6))) .nil
theorem gcd_w (k : Nat) (g : G) (a0 a1 a2 a3 a4 a7 : Slot) : ∀ (vs : List Int) (n : Nat) (s6 : Slot), (∀ v ∈ vs, 0 ≤ v ∧ v ≤ 10 ^ 60) → n ≤ 10 ^ 60 →
    ∃ s6', forR (fun x Γ g => (lift (setT (.var 6) x Γ) g).bind fun Γ' g => evB p.cs (den p (k + 1)) bGc Γ' g) (vs.map .int) [a0, a1, a2, a3, a4, .val (.int (n : Nat)), s6, a7] g = .ok (.nx [a0, a1, a2, a3, a4, .val (.int (gf n vs : Nat)), s6', a7]) g
  | [], n, s6, _, _ => ⟨s6, rfl⟩
  | v :: vs, n, s6, hv, hn => by
    have v0 := hv v List.mem_cons_self
    have hg : Nat.gcd n v.toNat ≤ 10 ^ 60 := by
      by_cases hz : n = 0
      · subst hz
        rw [Nat.gcd_zero_left]
        omega
      · exact Nat.le_trans (Nat.gcd_le_left _ (by omega)) hn
    obtain ⟨s6', ih⟩ := gcd_w k g a0 a1 a2 a3 a4 a7 vs (Nat.gcd n v.toNat) (.val (.int v)) (fun y hy => hv y (List.mem_cons_of_mem _ hy)) hg
    refine ⟨s6', ?_⟩
    simp only [List.map, forR, gf]
    rw [← ih]
    by_cases hz : n = 0
    · subst hz
      have e : ((Nat.gcd 0 v.toNat : Nat) : Int) = v := by rw [Nat.gcd_zero_left, Int.toNat_of_nonneg v0.1]
      rw [e]
      simp
    · have ec := common_i (p := p) k v.toNat n g (Nat.lt_of_le_of_lt hn (by decide))
      rw [Int.toNat_of_nonneg v0.1, Nat.gcd_comm] at ec
      have hz' : (0 : Int) < (n : Int) := by omega
      simp [hz', ec, Nat.pos_of_ne_zero hz]
theorem weights_i (k : Nat) {f0 : Int} {tl : List Int} (g : G) (h : FO f0 tl) : den p (k + 2) 19 [ti (f0 :: tl)] g = .ok (li (wOf (f0 :: tl))) g := by
  refine Eq.trans (den_f H84.h_weights_of rfl (by decide)) ?_
  show endR (evB p.cs (den p (k + 1)) b_weights_of [.val (ti (f0 :: tl)), .no, .no, .no, .no, .no, .no, .no] g) = _
  have wb := h.whb
  have l4 := h.l4
  have p4 : (1 : Int) * 99 ^ (f0 :: tl).length ≤ 10 ^ 60 := by
    have e : (f0 :: tl).length ≤ 4 := by simp; omega
    generalize (f0 :: tl).length = n at e
    have : n = 0 ∨ n = 1 ∨ n = 2 ∨ n = 3 ∨ n = 4 := by omega
    rcases this with rfl | rfl | rfl | rfl | rfl <;> decide
  obtain ⟨s2, e1⟩ := prod_w p.cs (den p (k + 1)) g (.val (ti (f0 :: tl))) [.no, .no, .no, .no, .no] (f0 :: tl) 1 .no h.f (by omega) p4
  have e1' : evS p.cs (den p (k + 1)) (.for_ (.var 2) (.seq (.var 0)) bPr) [.val (ti (f0 :: tl)), .val (.int 1), .no, .no, .no, .no, .no, .no] g = .ok (.nx [.val (ti (f0 :: tl)), .val (.int (wh (f0 :: tl))), s2, .no, .no, .no, .no, .no]) g := by
    rw [s_for']
    simp only [i_seq, x_var, List.getElem?_cons_zero, r_ok, ti_sq, l_some]
    exact e1
  have e2 := lc_ints (cs := p.cs) (call := den p (k + 1)) (elt := .bin .div (.var 1) (.var 2)) (t := .var 2) (it := .seq (.var 0)) (Γ := [.val (ti (f0 :: tl)), .val (.int (wh (f0 :: tl))), s2, .no, .no, .no, .no, .no]) (g := g) (xs := f0 :: tl) (h := fun f => .int (wh (f0 :: tl) / f))
    (by simp) (fun q hq g => by
      have := h.f q hq
      simp [o_div (divOk (j := q) (by omega) (sm_of (by omega) (by omega)))])
  have e3 : ∀ l : List Int, l.length ≤ 10 → opD .add (.lst (l.map fun f => D.int (wh (f0 :: tl) / f))) (.lst [.int 0]) = some (li (l.map (wh (f0 :: tl) / ·) ++ [0])) := by
    intro l hl
    simp only [opD, List.length_map, List.length_cons, List.length_nil]
    rw [if_pos (by omega)]
    simp [li, Function.comp_def]
  have e3 := e3 (f0 :: tl) (by simp; omega)
  have e4 := lc_zip (cs := p.cs) (call := den p (k + 1)) (elt := .bin .sub (.var 6) (.var 7)) (t := .tup [.var 6, .var 7]) (it := .zip (.var 3) (.sl (.var 3) (some (.cst (.int 1))) none)) (Γ := [.val (ti (f0 :: tl)), .val (.int (wh (f0 :: tl))), s2, .val (li ((f0 :: tl).map (wh (f0 :: tl) / ·) ++ [0])), .no, .no, .no, .no]) (g := g) (xs := (f0 :: tl).map (wh (f0 :: tl) / ·) ++ [0]) (ys := ((f0 :: tl).map (wh (f0 :: tl) / ·) ++ [0]).tail) (h := fun a b => .int (a - b))
    (by simp only [i_zip, x_var, List.getElem?_cons_zero, List.getElem?_cons_succ, r_ok, x_sl, o_some, o_none, x_cst, li_sl, l_some, li_it]) (fun q hq g => by simp)
  have e5 : ((((f0 :: tl).map (wh (f0 :: tl) / ·) ++ [0]).zip ((f0 :: tl).map (wh (f0 :: tl) / ·) ++ [0]).tail).map fun q : Int × Int => D.int (q.1 - q.2)) = (vOf (f0 :: tl)).map D.int := by
    have := tel_zip ((f0 :: tl).map (wh (f0 :: tl) / ·))
    show _ = (tel ((f0 :: tl).map (wh (f0 :: tl) / ·))).map D.int
    rw [← this, List.map_map]
    rfl
  rw [e5] at e4
  obtain ⟨s6, e6⟩ := gcd_w (p := p) k g (.val (ti (f0 :: tl))) (.val (.int (wh (f0 :: tl)))) s2 (.val (li ((f0 :: tl).map (wh (f0 :: tl) / ·) ++ [0]))) (.val (li (vOf (f0 :: tl)))) .no (vOf (f0 :: tl)) 0 .no (fun v hv => by have := h.v v hv; omega) (by decide)
  have e6' : evS p.cs (den p (k + 1)) (.for_ (.var 6) (.seq (.var 4)) bGc) [.val (ti (f0 :: tl)), .val (.int (wh (f0 :: tl))), s2, .val (li ((f0 :: tl).map (wh (f0 :: tl) / ·) ++ [0])), .val (li (vOf (f0 :: tl))), .val (.int 0), .no, .no] g = .ok (.nx [.val (ti (f0 :: tl)), .val (.int (wh (f0 :: tl))), s2, .val (li ((f0 :: tl).map (wh (f0 :: tl) / ·) ++ [0])), .val (li (vOf (f0 :: tl))), .val (.int (dOf (f0 :: tl) : Nat)), s6, .no]) g := by
    rw [s_for']
    simp only [i_seq, x_var, List.getElem?_cons_zero, List.getElem?_cons_succ, r_ok, li_sq, l_some]
    exact e6
  have d1 := h.d1
  have dle : (dOf (f0 :: tl) : Int) ≤ 99 ^ 4 := by
    obtain ⟨x, hx⟩ := h.vne
    have a := Int.le_of_dvd (by have := h.v x hx; omega) (h.dvd x hx)
    have := h.v x hx
    omega
  have e7 := lc_ints (cs := p.cs) (call := den p (k + 1)) (elt := .bin .div (.var 6) (.var 5)) (t := .var 6) (it := .seq (.var 4)) (Γ := [.val (ti (f0 :: tl)), .val (.int (wh (f0 :: tl))), s2, .val (li ((f0 :: tl).map (wh (f0 :: tl) / ·) ++ [0])), .val (li (vOf (f0 :: tl))), .val (.int (dOf (f0 :: tl) : Nat)), s6, .no]) (g := g) (xs := vOf (f0 :: tl)) (h := fun f => .int (f / (dOf (f0 :: tl) : Nat)))
    (by simp) (fun q hq g => by
      simp [o_div (divOk (j := (dOf (f0 :: tl) : Nat)) (by omega) (sm_of (by omega) (by omega)))])
  generalize ti (f0 :: tl) = F at *
  unfold b_weights_of
  have z1 : evS p.cs (den p (k + 1)) (.asg (.var 1) (.cst (.int 1))) [.val F, .no, .no, .no, .no, .no, .no, .no] g = .ok (.nx [.val F, .val (.int 1), .no, .no, .no, .no, .no, .no]) g := by simp
  refine (congrArg endR (step_nx z1 (step_nx e1' (step_nx (Γ1 := [.val F, .val (.int (wh (f0 :: tl))), s2, .val (li ((f0 :: tl).map (wh (f0 :: tl) / ·) ++ [0])), .no, .no, .no, .no]) (g1 := g) ?_ (step_nx (Γ1 := [.val F, .val (.int (wh (f0 :: tl))), s2, .val (li ((f0 :: tl).map (wh (f0 :: tl) / ·) ++ [0])), .val (li (vOf (f0 :: tl))), .no, .no, .no]) (g1 := g) ?_ (step_nx (Γ1 := [.val F, .val (.int (wh (f0 :: tl))), s2, .val (li ((f0 :: tl).map (wh (f0 :: tl) / ·) ++ [0])), .val (li (vOf (f0 :: tl))), .val (.int 0), .no, .no]) (g1 := g) ?_ (step_nx e6' (step_rt (g1 := g) (d := li (wOf (f0 :: tl))) ?_)))))))).trans rfl
  · rw [s_asg', x_bin, e2]
    simp only [r_ok, x_lst, a_cons, a_nil, x_cst, e3, l_some]
    rfl
  · rw [s_asg', e4]
    rfl
  · simp
  · rw [s_ret', e7]
    simp only [r_ok, li, wOf, List.map_map]
    rfl
theorem best_w (cs : List (Nat × D)) (call : Nat → List D → G → R D) (g : G) {fs : List Int} (hf : ∀ f ∈ fs, 1 ≤ f ∧ f ≤ 99) : ∀ (m n : Nat) (P O M : Int) (s1 : Slot), 1 ≤ n → n + m = fs.length → -M ≤ P → P ≤ M → 0 ≤ O → O ≤ M → M * 200 ^ m ≤ 10 ^ 60 →
    ∃ s1', forR (fun x Γ g => (lift (setT (.var 1) x Γ) g).bind fun Γ' g => evB cs call (.cons (.asg (.var 2) (.bin .sub (.bin .mul (.var 2) (.idx (.var 0) (.var 1))) (.bin .mul (.idx (.var 0) (.bin .sub (.var 1) (.cst (.int 1)))) (.var 3)))) (.cons (.asg (.var 3) (.bin .mul (.var 3) (.idx (.var 0) (.var 1)))) .nil)) Γ' g) (rngD (n : Nat) m) [.val (ti fs), s1, .val (.int P), .val (.int O)] g
      = .ok (.nx [.val (ti fs), s1', .val (.int (bo (fs.getD (n - 1) 0) P O (fs.drop n)).1), .val (.int (bo (fs.getD (n - 1) 0) P O (fs.drop n)).2)]) g
  | 0, n, P, O, M, s1, _, e, _, _, _, _, _ => by
    rw [List.drop_of_length_le (by omega)]
    exact ⟨s1, rfl⟩
  | m + 1, n, P, O, M, s1, hn, e, h1, h2, h3, h4, hM => by
    have hlt : n < fs.length := by omega
    have hlt' : n - 1 < fs.length := by omega
    have fa := hf _ (mem_getD hlt)
    have fb := hf _ (mem_getD hlt')
    have i1 := ix_tn hlt
    have i2 : idxD (ti fs) (.int ((n : Nat) - 1)) = some (.int (fs.getD (n - 1) 0)) := by
      have := ix_tn hlt'
      rwa [show (((n - 1 : Nat) : Nat) : Int) = (n : Int) - 1 by omega] at this
    have ed : fs.drop n = fs.getD n 0 :: fs.drop (n + 1) := by
      rw [List.drop_eq_getElem_cons hlt, List.getD_eq_getElem?_getD, List.getElem?_eq_getElem hlt]; rfl
    have M0 : 0 ≤ M := by omega
    have p2 : (1 : Int) ≤ 200 ^ m := Int.pow_pos (by decide)
    have M1 : M * 1 ≤ M * 200 ^ (m + 1) := Int.mul_le_mul_of_nonneg_left (Int.pow_pos (by decide)) M0
    have M2 : 200 * M * 200 ^ m ≤ 10 ^ 60 := by
      have : M * 200 ^ (m + 1) = 200 * M * 200 ^ m := by rw [Int.pow_succ]; grind
      omega
    obtain ⟨f, ef⟩ : ∃ f, fs.getD n 0 = f := ⟨_, rfl⟩
    obtain ⟨f1, ef1⟩ : ∃ f, fs.getD (n - 1) 0 = f := ⟨_, rfl⟩
    rw [ef] at fa i1 ed
    rw [ef1] at fb i2
    rw [ef1, ed]
    have b1 : -(99 * M) ≤ P * f ∧ P * f ≤ 99 * M := by
      have a := Int.mul_le_mul_of_nonneg_right h2 (show 0 ≤ f by omega)
      have b := Int.mul_le_mul_of_nonneg_right h1 (show 0 ≤ f by omega)
      have c := Int.mul_le_mul_of_nonneg_left fa.2 M0
      have d : -M * f = -(M * f) := by grind
      omega
    have b2 := mul_bd ⟨by omega, fb.2⟩ ⟨h3, h4⟩
    have b3 := mul_bd ⟨h3, h4⟩ ⟨by omega, fa.2⟩
    have m1 : opD .mul (.int P) (.int f) = some (.int (P * f)) := o_mul (mulOk (sm_of (by omega) (by omega)) (sm_of (by omega) (by omega)))
    have m2 : opD .mul (.int f1) (.int O) = some (.int (f1 * O)) := o_mul (mulOk (sm_of (by omega) (by omega)) (sm_of (by omega) (by omega)))
    have m3 : opD .mul (.int O) (.int f) = some (.int (O * f)) := o_mul (mulOk (sm_of (by omega) (by omega)) (sm_of (by omega) (by omega)))
    obtain ⟨s1', ih⟩ := best_w cs call g hf m (n + 1) (P * f - f1 * O) (O * f) (200 * M) (.val (.int (n : Nat))) (by omega) (by omega) (by omega) (by omega) (by omega) (by omega) M2
    rw [Nat.add_sub_cancel, ef] at ih
    refine ⟨s1', ?_⟩
    have e3 : ((n : Nat) : Int) + 1 = ((n + 1 : Nat) : Int) := by push_cast; rfl
    simp only [rngD, forR, bo]
    rw [e3, ← ih]
    simp [i1, i2, m1, m2, m3]
theorem best_of_i (k : Nat) {f0 : Int} {tl : List Int} (g : G) (h : FO f0 tl) : den p (k + 2) 389 [ti (f0 :: tl)] g = .ok (fracD (pO f0 tl).2.toNat (pO f0 tl).1.toNat) g := by
  refine Eq.trans (den_f H84.h__law_best_of rfl (by decide)) ?_
  show endR (evB p.cs (den p (k + 1)) b__law_best_of [.val (ti (f0 :: tl)), .no, .no, .no] g) = _
  have l4 := h.l4
  have p4 : (4 : Int) * 200 ^ tl.length ≤ 10 ^ 60 := by
    generalize tl.length = n at l4
    have : n = 0 ∨ n = 1 ∨ n = 2 ∨ n = 3 := by omega
    rcases this with rfl | rfl | rfl | rfl <;> decide
  obtain ⟨s1, e1⟩ := best_w p.cs (den p (k + 1)) g h.f tl.length 1 (tl.length + 1) 1 4 .no (by omega) (by simp; omega) (by omega) (by omega) (by omega) (by omega) p4
  have e1' : evS p.cs (den p (k + 1)) (.for_ (.var 1) (.rng2 (.cst (.int 1)) (.bi .len (.cons (.var 0) .nil))) (.cons (.asg (.var 2) (.bin .sub (.bin .mul (.var 2) (.idx (.var 0) (.var 1))) (.bin .mul (.idx (.var 0) (.bin .sub (.var 1) (.cst (.int 1)))) (.var 3)))) (.cons (.asg (.var 3) (.bin .mul (.var 3) (.idx (.var 0) (.var 1)))) .nil))) [.val (ti (f0 :: tl)), .no, .val (.int (tl.length + 1)), .val (.int 1)] g = .ok (.nx [.val (ti (f0 :: tl)), s1, .val (.int (pO f0 tl).1), .val (.int (pO f0 tl).2)]) g := by
    rw [s_for']
    have er := rng2_i (cs := p.cs) (call := den p (k + 1)) (Γ := [.val (ti (f0 :: tl)), .no, .val (.int (tl.length + 1)), .val (.int 1)]) (g := g) (a := .cst (.int 1)) (b := .bi .len (.cons (.var 0) .nil)) (i := 1) (j := (f0 :: tl).length) (by simp) (by simp) (by omega) (by simp; omega)
    rw [er]
    have en : (((f0 :: tl).length : Int) - 1).toNat = tl.length := by simp
    rw [en]
    exact e1
  have o := h.O
  have pp := h.P
  have ef := least84_i (p := p) k g (a := (pO f0 tl).2) (b := (pO f0 tl).1) (by omega) pp.1 (by omega)
  have e0 : evS p.cs (den p (k + 1)) (.par [(2, false), (3, false)] (.cons (.bi .len (.cons (.var 0) .nil)) (.cons (.cst (.int 1)) .nil))) [.val (ti (f0 :: tl)), .no, .no, .no] g = .ok (.nx [.val (ti (f0 :: tl)), .no, .val (.int (tl.length + 1)), .val (.int 1)]) g := by
    simp [parG]
  refine (congrArg endR (step_nx e0 (step_nx e1' (step_rt (g1 := g) (d := fracD (pO f0 tl).2.toNat (pO f0 tl).1.toNat) ?_)))).trans rfl
  rw [s_ret']
  simp [ef]
theorem best_share_i (k : Nat) {f0 : Int} {tl : List Int} (g : G) (h : FO f0 tl) : den p (k + 4) 3 [ti (f0 :: tl)] g = .ok (fracD (pO f0 tl).2.toNat (pO f0 tl).1.toNat) g := by
  refine Eq.trans (den_f H84.h_best_share rfl (by decide)) ?_
  show endR (evB p.cs (den p (k + 3)) b_best_share [.val (ti (f0 :: tl))] g) = _
  have e1 := bar_value_i (p := p) k g h.bo (x := li (wOf (f0 :: tl))) (.inr rfl)
  rw [h.share] at e1
  simp [b_best_share, need_fares_i (p := p) k (f0 :: tl) g h.ok, weights_i (p := p) (k + 1) g h, e1]
theorem share_bar_i (k : Nat) {f0 : Int} {tl : List Int} (g : G) (h : FO f0 tl) : den p (k + 4) 99 [ti (f0 :: tl)] g = .ok (ti (wOf (f0 :: tl))) g := by
  refine Eq.trans (den_f H84.h_share_bar rfl (by decide)) ?_
  show endR (evB p.cs (den p (k + 3)) b_share_bar [.val (ti (f0 :: tl))] g) = _
  simp [b_share_bar, need_fares_i (p := p) k (f0 :: tl) g h.ok, weights_i (p := p) (k + 1) g h]
  rfl
end Pk

set_option Elab.async false
set_option linter.all false
set_option maxRecDepth 100000
set_option maxHeartbeats 4000000
set_option pp.maxSteps 800
/-! Best plans: the plan itself; all parts; nothing above. -/
namespace Pk
open PySem Bk
variable {p : Pr} [HP p] [H84 p]
abbrev bFl : B := .cons (.aug 8 (.bin .mul (.bin .div (.bin .mul (.var 5) (.var 1)) (.var 10)) (.bin .sub (.var 10) (.var 9)))) (.cons (.app 7 (.var 8)) .nil)
theorem fl_w (cs : List (Nat × D)) (call : Nat → List D → G → R D) (g : G) {a T : Int} (s0 s2 s3 s4 s6 : Slot) (ha : 0 ≤ a ∧ a ≤ 10 ^ 30) (hT : 0 ≤ T ∧ T ≤ 10 ^ 30) : ∀ (fs : List Int) (f0 l : Int) (acc : List Int) (s9 s10 : Slot), (∀ f ∈ f0 :: fs, 1 ≤ f ∧ f ≤ 99) → acc.length + fs.length ≤ 100 →
    ∃ s9' s10', forR (fun x Γ g => (lift (setT (.tup [.var 9, .var 10]) x Γ) g).bind fun Γ' g => evB cs call bFl Γ' g) (zipD ((f0 :: fs).map .int) (fs.map .int)) [s0, .val (.int T), s2, s3, s4, .val (.int a), s6, .own (li acc), .val (.int l), s9, s10] g
      = .ok (.nx [s0, .val (.int T), s2, s3, s4, .val (.int a), s6, .own (li (acc ++ fl (a * T) f0 l fs)), .val (.int (flL (a * T) f0 l fs)), s9', s10']) g
  | [], f0, l, acc, s9, s10, _, _ => ⟨s9, s10, by simp [zipD, forR, fl, flL]⟩
  | f :: fs, f0, l, acc, s9, s10, hf, hl => by
    have h0 := hf f0 (by simp)
    have h1 := hf f (by simp)
    have ab := mul_bd ha hT
    have q0 : 0 ≤ a * T / f := Int.ediv_nonneg ab.1 (by omega)
    have q1 : a * T / f ≤ a * T := Int.ediv_le_self _ ab.1
    have m1 : opD .mul (.int a) (.int T) = some (.int (a * T)) := o_mul (mulOk (sm_of (by omega) (by omega)) (sm_of (by omega) (by omega)))
    have m2 : opD .div (.int (a * T)) (.int f) = some (.int (a * T / f)) := o_div (divOk (by omega) (sm_of (by omega) (by omega)))
    have m3 : opD .mul (.int (a * T / f)) (.int (f - f0)) = some (.int (a * T / f * (f - f0))) := o_mul (mulOk (sm_of (by omega) (by omega)) (sm_of (by omega) (by omega)))
    simp only [List.length_cons] at hl
    obtain ⟨s9', s10', ih⟩ := fl_w cs call g s0 s2 s3 s4 s6 ha hT fs f (l + a * T / f * (f - f0)) (acc ++ [l + a * T / f * (f - f0)]) (.val (.int f0)) (.val (.int f)) (fun y hy => hf y (List.mem_cons_of_mem _ hy)) (by simp; omega)
    refine ⟨s9', s10', ?_⟩
    have hl' : acc.length < 1000000 := by omega
    rw [List.map_cons (l := f :: fs), List.map_cons (l := fs)]
    simp only [zipD, forR]
    simp [li, m1, m2, m3, hl']
    simp [li] at ih
    simpa [fl, flL] using ih
abbrev bCm : B := .cons (.asg (.var 3) (.call 4 (.cons (.var 3) (.cons (.var 4) .nil)))) .nil
theorem com_w (k : Nat) (g : G) (s0 s1 s2 s5 s6 s7 s8 s9 s10 : Slot) : ∀ (vs : List Int) (n : Nat) (s4 : Slot), (∀ v ∈ vs, 0 ≤ v ∧ v ≤ 10 ^ 60) →
    ∃ s4', forR (fun x Γ g => (lift (setT (.var 4) x Γ) g).bind fun Γ' g => evB p.cs (den p (k + 1)) bCm Γ' g) (vs.map .int) [s0, s1, s2, .val (.int (n : Nat)), s4, s5, s6, s7, s8, s9, s10] g = .ok (.nx [s0, s1, s2, .val (.int (gf n vs : Nat)), s4', s5, s6, s7, s8, s9, s10]) g
  | [], n, s4, _ => ⟨s4, rfl⟩
  | v :: vs, n, s4, hv => by
    have v0 := hv v List.mem_cons_self
    obtain ⟨s4', ih⟩ := com_w k g s0 s1 s2 s5 s6 s7 s8 s9 s10 vs (Nat.gcd n v.toNat) (.val (.int v)) (fun y hy => hv y (List.mem_cons_of_mem _ hy))
    refine ⟨s4', ?_⟩
    have ec := common_i (p := p) k n v.toNat g (by have : (10 : Nat) ^ 60 < 10 ^ 200 := (by decide); omega)
    rw [Int.toNat_of_nonneg v0.1] at ec
    simp only [List.map, forR, gf]
    rw [← ih]
    simp [ec]
theorem best_plan_i {f0 : Int} {tl : List Int} (h : FO f0 tl) : ∃ a b w ps, BP f0 tl a b w ps ∧ ∀ (k : Nat) (g : G), den p (k + 5) 2 [ti (f0 :: tl)] g = .ok (plD (f0 :: tl) w ps) g := by
  have o := h.O
  have pp := h.P
  obtain ⟨a, b, _, hs, _, _, _, a0, b1, ale, ble⟩ := frac_of (a := (pO f0 tl).2) (b := (pO f0 tl).1) (by omega) pp.1
  obtain ⟨D, hD, D1, Dle, bp, eL, hall⟩ := best_bp h hs
  refine ⟨a, b, _, _, bp, fun k g => ?_⟩
  have eT := o.1
  generalize hT : prodA 1 tl = T at *
  refine Eq.trans (den_f H84.h_best_plan rfl (by decide)) ?_
  show endR (evB p.cs (den p (k + 4)) b_best_plan [.val (ti (f0 :: tl)), .no, .no, .no, .no, .no, .no, .no, .no, .no, .no] g) = _
  have l4 := h.l4
  have z1 : evS p.cs (den p (k + 4)) (.asg (.tup [(.var 5), (.var 6)]) (.call 3 (.cons (.var 0) .nil))) [.val (ti (f0 :: tl)), .no, .no, .no, .no, .no, .no, .no, .no, .no, .no] g = .ok (.nx [.val (ti (f0 :: tl)), .no, .no, .no, .no, .val (.int a), .val (.int b), .no, .no, .no, .no]) g := by
    have := best_share_i (p := p) k g h
    rw [hs] at this
    simp [this]
  have z2 : evS p.cs (den p (k + 4)) (.asg (.var 1) (.cst (.int 1))) [.val (ti (f0 :: tl)), .no, .no, .no, .no, .val (.int a), .val (.int b), .no, .no, .no, .no] g = .ok (.nx [.val (ti (f0 :: tl)), .val (.int 1), .no, .no, .no, .val (.int a), .val (.int b), .no, .no, .no, .no]) g := by simp
  have p4 : (1 : Int) * 99 ^ tl.length ≤ 10 ^ 60 := by
    generalize tl.length = n at l4
    have : n = 0 ∨ n = 1 ∨ n = 2 ∨ n = 3 := by omega
    rcases this with rfl | rfl | rfl | rfl <;> decide
  obtain ⟨s2, e3⟩ := prod_w p.cs (den p (k + 4)) g (.val (ti (f0 :: tl))) [.no, .no, .val (.int a), .val (.int b), .no, .no, .no, .no] tl 1 .no (fun f hf => h.f f (List.mem_cons_of_mem _ hf)) (by omega) p4
  rw [hT] at e3
  have z3 : evS p.cs (den p (k + 4)) (.for_ (.var 2) (.seq (.sl (.var 0) (some (.cst (.int 1))) none)) bPr) [.val (ti (f0 :: tl)), .val (.int 1), .no, .no, .no, .val (.int a), .val (.int b), .no, .no, .no, .no] g = .ok (.nx [.val (ti (f0 :: tl)), .val (.int T), s2, .no, .no, .val (.int a), .val (.int b), .no, .no, .no, .no]) g := by
    rw [s_for']
    simp only [i_seq, x_sl, x_var, List.getElem?_cons_zero, r_ok, o_some, o_none, x_cst, ti_sl, l_some, ti_sq, List.tail_cons]
    exact e3
  have ha : 0 ≤ a ∧ a ≤ 10 ^ 30 := by have := bp.ab; omega
  have hT2 : 0 ≤ T ∧ T ≤ 10 ^ 30 := by omega
  have hb : 0 ≤ b ∧ b ≤ 10 ^ 30 := by have := bp.ab; omega
  have m1 : opD .mul (.int a) (.int T) = some (.int (a * T)) := o_mul (mulOk (sm_of (by omega) (by omega)) (sm_of (by omega) (by omega)))
  have m2 : opD .mul (.int b) (.int T) = some (.int (b * T)) := o_mul (mulOk (sm_of (by omega) (by omega)) (sm_of (by omega) (by omega)))
  have z4 : evS p.cs (den p (k + 4)) (.par [(7, true), (8, false)] (.cons (.lst (.cons (.bin .mul (.var 5) (.var 1)) .nil)) (.cons (.bin .mul (.var 5) (.var 1)) .nil))) [.val (ti (f0 :: tl)), .val (.int T), s2, .no, .no, .val (.int a), .val (.int b), .no, .no, .no, .no] g = .ok (.nx [.val (ti (f0 :: tl)), .val (.int T), s2, .no, .no, .val (.int a), .val (.int b), .own (li [a * T]), .val (.int (a * T)), .no, .no]) g := by
    simp [m1, parG, li, isOb]
  obtain ⟨s9, s10, e5⟩ := fl_w p.cs (den p (k + 4)) g (.val (ti (f0 :: tl))) s2 .no .no (.val (.int b)) ha hT2 tl f0 (a * T) [a * T] .no .no h.f (by simp; omega)
  have z5 : evS p.cs (den p (k + 4)) (.for_ (.tup [(.var 9), (.var 10)]) (.zip (.var 0) (.sl (.var 0) (some (.cst (.int 1))) none)) bFl) [.val (ti (f0 :: tl)), .val (.int T), s2, .no, .no, .val (.int a), .val (.int b), .own (li [a * T]), .val (.int (a * T)), .no, .no] g = .ok (.nx [.val (ti (f0 :: tl)), .val (.int T), s2, .no, .no, .val (.int a), .val (.int b), .own (li (fnd f0 tl (a * T))), .val (.int (flL (a * T) f0 (a * T) tl)), s9, s10]) g := by
    rw [s_for']
    simp only [i_zip, x_sl, x_var, List.getElem?_cons_zero, r_ok, o_some, o_none, x_cst, ti_sl, l_some, ti_it, List.tail_cons]
    exact e5
  have z6 : evS p.cs (den p (k + 4)) (.asg (.var 3) (.bin .mul (.var 6) (.var 1))) [.val (ti (f0 :: tl)), .val (.int T), s2, .no, .no, .val (.int a), .val (.int b), .own (li (fnd f0 tl (a * T))), .val (.int (flL (a * T) f0 (a * T) tl)), s9, s10] g = .ok (.nx [.val (ti (f0 :: tl)), .val (.int T), s2, .val (.int (b * T)), .no, .val (.int a), .val (.int b), .own (li (fnd f0 tl (a * T))), .val (.int (flL (a * T) f0 (a * T) tl)), s9, s10]) g := by simp [m2]
  have z7 : evS p.cs (den p (k + 4)) (.frz 7) [.val (ti (f0 :: tl)), .val (.int T), s2, .val (.int (b * T)), .no, .val (.int a), .val (.int b), .own (li (fnd f0 tl (a * T))), .val (.int (flL (a * T) f0 (a * T) tl)), s9, s10] g = .ok (.nx [.val (ti (f0 :: tl)), .val (.int T), s2, .val (.int (b * T)), .no, .val (.int a), .val (.int b), .val (li (fnd f0 tl (a * T))), .val (.int (flL (a * T) f0 (a * T) tl)), s9, s10]) g := by simp
  have bT := mul_bd hb hT2
  obtain ⟨s4, e8⟩ := com_w (p := p) (k + 3) g (.val (ti (f0 :: tl))) (.val (.int T)) s2 (.val (.int a)) (.val (.int b)) (.val (li (fnd f0 tl (a * T)))) (.val (.int (flL (a * T) f0 (a * T) tl))) s9 s10 (fnd f0 tl (a * T)) (b * T).toNat .no (fun v hv => by have := hall v hv; omega)
  rw [← hD, Int.toNat_of_nonneg bT.1] at e8
  have z8 : evS p.cs (den p (k + 4)) (.for_ (.var 4) (.seq (.var 7)) bCm) [.val (ti (f0 :: tl)), .val (.int T), s2, .val (.int (b * T)), .no, .val (.int a), .val (.int b), .val (li (fnd f0 tl (a * T))), .val (.int (flL (a * T) f0 (a * T) tl)), s9, s10] g = .ok (.nx [.val (ti (f0 :: tl)), .val (.int T), s2, .val (.int (D : Nat)), s4, .val (.int a), .val (.int b), .val (li (fnd f0 tl (a * T))), .val (.int (flL (a * T) f0 (a * T) tl)), s9, s10]) g := by
    rw [s_for']
    simp only [i_seq, x_var, List.getElem?_cons_zero, List.getElem?_cons_succ, r_ok, li_sq, l_some]
    exact e8
  have z9 : evS p.cs (den p (k + 4)) (.frz 7) [.val (ti (f0 :: tl)), .val (.int T), s2, .val (.int (D : Nat)), s4, .val (.int a), .val (.int b), .val (li (fnd f0 tl (a * T))), .val (.int (flL (a * T) f0 (a * T) tl)), s9, s10] g = .ok (.nx [.val (ti (f0 :: tl)), .val (.int T), s2, .val (.int (D : Nat)), s4, .val (.int a), .val (.int b), .val (li (fnd f0 tl (a * T))), .val (.int (flL (a * T) f0 (a * T) tl)), s9, s10]) g := by simp
  have od : ∀ x : Int, opD .div (.int x) (.int (D : Nat)) = some (.int (x / (D : Nat))) := fun x => o_div (divOk (by omega) (sm_of (by omega) (by omega)))
  have e10 := lc_ints (cs := p.cs) (call := den p (k + 4)) (elt := .bin .div (.var 4) (.var 3)) (t := .var 4) (it := .seq (.var 7)) (Γ := [.val (ti (f0 :: tl)), .val (.int T), s2, .val (.int (D : Nat)), s4, .val (.int a), .val (.int b), .val (li (fnd f0 tl (a * T))), .val (.int (flL (a * T) f0 (a * T) tl)), s9, s10]) (g := g) (xs := fnd f0 tl (a * T)) (h := fun f => .int (f / (D : Nat)))
    (by simp) (fun q hq g => by simp [od])
  refine (congrArg endR (step_nx z1 (step_nx z2 (step_nx z3 (step_nx z4 (step_nx z5 (step_nx z6 (step_nx z7 (step_nx z8 (step_nx z9 (step_rt (g1 := g) (d := plD (f0 :: tl) (b * T / D) ((fnd f0 tl (a * T)).map (· / (D : Int)))) ?_))))))))))).trans rfl
  rw [s_ret', x_tup]
  simp only [a_cons, a_nil, x_var, List.getElem?_cons_zero, List.getElem?_cons_succ, r_ok, x_bin, x_bi, e10, m2, od, l_some, bi_tupl]
  simp [plD, ti, Function.comp_def]
/-! ### all parts -/
def g00 : G := ⟨[], [], 0⟩
def rowsD (m w : Int) : List D := match evB [] (fun _ _ _ => .st) b__law_parts [.val (.int m), .val (.int w), .no, .no, .no, .no, .no, .no] g00 with
  | .ok (.rt (.lst xs)) _ => xs
  | _ => []
def intsOf : D → Option (List Int)
  | .tup xs => intsD xs
  | _ => none
def upB (w : Int) : Int → List Int → Bool
  | _, [] => true
  | a, b :: r => decide (a ≤ b) && decide (b ≤ w) && upB w b r
def okR (m : Nat) (w : Int) (d : D) : Bool := match d with
  | .tup xs => (match intsD xs with
    | some ns => decide (ns.length = m) && upB w 0 ns
    | none => false)
  | _ => false
theorem okR_ti {m : Nat} {w : Int} {d : D} (h : okR m w d = true) : ∃ ps, d = ti ps ∧ ps.length = m ∧ upB w 0 ps = true := by
  have key : ∀ (xs : List D) (ns : List Int), intsD xs = some ns → xs = ns.map .int := by
    intro xs
    induction xs with
    | nil =>
      intro ns hn
      simp [intsD] at hn
      rw [hn]
      rfl
    | cons x xs ih =>
      intro ns hn
      cases x with
      | int i =>
        simp only [intsD] at hn
        obtain ⟨r, hr, e⟩ := Option.map_eq_some_iff.mp hn
        rw [← e, ih r hr]
        rfl
      | _ => simp [intsD] at hn
  unfold okR at h
  split at h
  · rename_i xs
    split at h
    · rename_i ns hn
      simp only [Bool.and_eq_true, decide_eq_true_eq] at h
      exact ⟨ns, by rw [key xs ns hn]; rfl, h.1, h.2⟩
    · cases h
  · cases h
theorem parts_11 (cs : List (Nat × D)) (call : Nat → List D → G → R D) (g : G) : evB cs call b__law_parts [.val (.int 1), .val (.int 1), .no, .no, .no, .no, .no, .no] g = .ok (.rt (.lst (rowsD 1 1))) g ∧ (rowsD 1 1).all (okR 1 1) = true := ⟨by kernel_rfl, by kernel_rfl⟩
theorem parts_12 (cs : List (Nat × D)) (call : Nat → List D → G → R D) (g : G) : evB cs call b__law_parts [.val (.int 1), .val (.int 2), .no, .no, .no, .no, .no, .no] g = .ok (.rt (.lst (rowsD 1 2))) g ∧ (rowsD 1 2).all (okR 1 2) = true := ⟨by kernel_rfl, by kernel_rfl⟩
theorem parts_13 (cs : List (Nat × D)) (call : Nat → List D → G → R D) (g : G) : evB cs call b__law_parts [.val (.int 1), .val (.int 3), .no, .no, .no, .no, .no, .no] g = .ok (.rt (.lst (rowsD 1 3))) g ∧ (rowsD 1 3).all (okR 1 3) = true := ⟨by kernel_rfl, by kernel_rfl⟩
theorem parts_14 (cs : List (Nat × D)) (call : Nat → List D → G → R D) (g : G) : evB cs call b__law_parts [.val (.int 1), .val (.int 4), .no, .no, .no, .no, .no, .no] g = .ok (.rt (.lst (rowsD 1 4))) g ∧ (rowsD 1 4).all (okR 1 4) = true := ⟨by kernel_rfl, by kernel_rfl⟩
theorem parts_15 (cs : List (Nat × D)) (call : Nat → List D → G → R D) (g : G) : evB cs call b__law_parts [.val (.int 1), .val (.int 5), .no, .no, .no, .no, .no, .no] g = .ok (.rt (.lst (rowsD 1 5))) g ∧ (rowsD 1 5).all (okR 1 5) = true := ⟨by kernel_rfl, by kernel_rfl⟩
theorem parts_16 (cs : List (Nat × D)) (call : Nat → List D → G → R D) (g : G) : evB cs call b__law_parts [.val (.int 1), .val (.int 6), .no, .no, .no, .no, .no, .no] g = .ok (.rt (.lst (rowsD 1 6))) g ∧ (rowsD 1 6).all (okR 1 6) = true := ⟨by kernel_rfl, by kernel_rfl⟩
theorem parts_21 (cs : List (Nat × D)) (call : Nat → List D → G → R D) (g : G) : evB cs call b__law_parts [.val (.int 2), .val (.int 1), .no, .no, .no, .no, .no, .no] g = .ok (.rt (.lst (rowsD 2 1))) g ∧ (rowsD 2 1).all (okR 2 1) = true := ⟨by kernel_rfl, by kernel_rfl⟩
theorem parts_22 (cs : List (Nat × D)) (call : Nat → List D → G → R D) (g : G) : evB cs call b__law_parts [.val (.int 2), .val (.int 2), .no, .no, .no, .no, .no, .no] g = .ok (.rt (.lst (rowsD 2 2))) g ∧ (rowsD 2 2).all (okR 2 2) = true := ⟨by kernel_rfl, by kernel_rfl⟩
theorem parts_23 (cs : List (Nat × D)) (call : Nat → List D → G → R D) (g : G) : evB cs call b__law_parts [.val (.int 2), .val (.int 3), .no, .no, .no, .no, .no, .no] g = .ok (.rt (.lst (rowsD 2 3))) g ∧ (rowsD 2 3).all (okR 2 3) = true := ⟨by kernel_rfl, by kernel_rfl⟩
theorem parts_24 (cs : List (Nat × D)) (call : Nat → List D → G → R D) (g : G) : evB cs call b__law_parts [.val (.int 2), .val (.int 4), .no, .no, .no, .no, .no, .no] g = .ok (.rt (.lst (rowsD 2 4))) g ∧ (rowsD 2 4).all (okR 2 4) = true := ⟨by kernel_rfl, by kernel_rfl⟩
theorem parts_25 (cs : List (Nat × D)) (call : Nat → List D → G → R D) (g : G) : evB cs call b__law_parts [.val (.int 2), .val (.int 5), .no, .no, .no, .no, .no, .no] g = .ok (.rt (.lst (rowsD 2 5))) g ∧ (rowsD 2 5).all (okR 2 5) = true := ⟨by kernel_rfl, by kernel_rfl⟩
theorem parts_26 (cs : List (Nat × D)) (call : Nat → List D → G → R D) (g : G) : evB cs call b__law_parts [.val (.int 2), .val (.int 6), .no, .no, .no, .no, .no, .no] g = .ok (.rt (.lst (rowsD 2 6))) g ∧ (rowsD 2 6).all (okR 2 6) = true := ⟨by kernel_rfl, by kernel_rfl⟩
theorem parts_31 (cs : List (Nat × D)) (call : Nat → List D → G → R D) (g : G) : evB cs call b__law_parts [.val (.int 3), .val (.int 1), .no, .no, .no, .no, .no, .no] g = .ok (.rt (.lst (rowsD 3 1))) g ∧ (rowsD 3 1).all (okR 3 1) = true := ⟨by kernel_rfl, by kernel_rfl⟩
theorem parts_32 (cs : List (Nat × D)) (call : Nat → List D → G → R D) (g : G) : evB cs call b__law_parts [.val (.int 3), .val (.int 2), .no, .no, .no, .no, .no, .no] g = .ok (.rt (.lst (rowsD 3 2))) g ∧ (rowsD 3 2).all (okR 3 2) = true := ⟨by kernel_rfl, by kernel_rfl⟩
theorem parts_33 (cs : List (Nat × D)) (call : Nat → List D → G → R D) (g : G) : evB cs call b__law_parts [.val (.int 3), .val (.int 3), .no, .no, .no, .no, .no, .no] g = .ok (.rt (.lst (rowsD 3 3))) g ∧ (rowsD 3 3).all (okR 3 3) = true := ⟨by kernel_rfl, by kernel_rfl⟩
theorem parts_34 (cs : List (Nat × D)) (call : Nat → List D → G → R D) (g : G) : evB cs call b__law_parts [.val (.int 3), .val (.int 4), .no, .no, .no, .no, .no, .no] g = .ok (.rt (.lst (rowsD 3 4))) g ∧ (rowsD 3 4).all (okR 3 4) = true := ⟨by kernel_rfl, by kernel_rfl⟩
theorem parts_35 (cs : List (Nat × D)) (call : Nat → List D → G → R D) (g : G) : evB cs call b__law_parts [.val (.int 3), .val (.int 5), .no, .no, .no, .no, .no, .no] g = .ok (.rt (.lst (rowsD 3 5))) g ∧ (rowsD 3 5).all (okR 3 5) = true := ⟨by kernel_rfl, by kernel_rfl⟩
theorem parts_36 (cs : List (Nat × D)) (call : Nat → List D → G → R D) (g : G) : evB cs call b__law_parts [.val (.int 3), .val (.int 6), .no, .no, .no, .no, .no, .no] g = .ok (.rt (.lst (rowsD 3 6))) g ∧ (rowsD 3 6).all (okR 3 6) = true := ⟨by kernel_rfl, by kernel_rfl⟩
theorem parts_41 (cs : List (Nat × D)) (call : Nat → List D → G → R D) (g : G) : evB cs call b__law_parts [.val (.int 4), .val (.int 1), .no, .no, .no, .no, .no, .no] g = .ok (.rt (.lst (rowsD 4 1))) g ∧ (rowsD 4 1).all (okR 4 1) = true := ⟨by kernel_rfl, by kernel_rfl⟩
theorem parts_42 (cs : List (Nat × D)) (call : Nat → List D → G → R D) (g : G) : evB cs call b__law_parts [.val (.int 4), .val (.int 2), .no, .no, .no, .no, .no, .no] g = .ok (.rt (.lst (rowsD 4 2))) g ∧ (rowsD 4 2).all (okR 4 2) = true := ⟨by kernel_rfl, by kernel_rfl⟩
theorem parts_43 (cs : List (Nat × D)) (call : Nat → List D → G → R D) (g : G) : evB cs call b__law_parts [.val (.int 4), .val (.int 3), .no, .no, .no, .no, .no, .no] g = .ok (.rt (.lst (rowsD 4 3))) g ∧ (rowsD 4 3).all (okR 4 3) = true := ⟨by kernel_rfl, by kernel_rfl⟩
theorem parts_44 (cs : List (Nat × D)) (call : Nat → List D → G → R D) (g : G) : evB cs call b__law_parts [.val (.int 4), .val (.int 4), .no, .no, .no, .no, .no, .no] g = .ok (.rt (.lst (rowsD 4 4))) g ∧ (rowsD 4 4).all (okR 4 4) = true := ⟨by kernel_rfl, by kernel_rfl⟩
theorem parts_45 (cs : List (Nat × D)) (call : Nat → List D → G → R D) (g : G) : evB cs call b__law_parts [.val (.int 4), .val (.int 5), .no, .no, .no, .no, .no, .no] g = .ok (.rt (.lst (rowsD 4 5))) g ∧ (rowsD 4 5).all (okR 4 5) = true := ⟨by kernel_rfl, by kernel_rfl⟩
theorem parts_46 (cs : List (Nat × D)) (call : Nat → List D → G → R D) (g : G) : evB cs call b__law_parts [.val (.int 4), .val (.int 6), .no, .no, .no, .no, .no, .no] g = .ok (.rt (.lst (rowsD 4 6))) g ∧ (rowsD 4 6).all (okR 4 6) = true := ⟨by kernel_rfl, by kernel_rfl⟩
theorem parts_e (cs : List (Nat × D)) (call : Nat → List D → G → R D) (g : G) {m : Nat} {w : Int} (hm : 1 ≤ m ∧ m ≤ 4) (hw : 1 ≤ w ∧ w ≤ 6) : evB cs call b__law_parts [.val (.int (m : Nat)), .val (.int w), .no, .no, .no, .no, .no, .no] g = .ok (.rt (.lst (rowsD (m : Nat) w))) g ∧ (rowsD (m : Nat) w).all (okR m w) = true := by
  have h1 : m = 1 ∨ m = 2 ∨ m = 3 ∨ m = 4 := by omega
  have h2 : w = 1 ∨ w = 2 ∨ w = 3 ∨ w = 4 ∨ w = 5 ∨ w = 6 := by omega
  rcases h1 with rfl | rfl | rfl | rfl
  · rcases h2 with rfl | rfl | rfl | rfl | rfl | rfl
    · exact parts_11 cs call g
    · exact parts_12 cs call g
    · exact parts_13 cs call g
    · exact parts_14 cs call g
    · exact parts_15 cs call g
    · exact parts_16 cs call g
  · rcases h2 with rfl | rfl | rfl | rfl | rfl | rfl
    · exact parts_21 cs call g
    · exact parts_22 cs call g
    · exact parts_23 cs call g
    · exact parts_24 cs call g
    · exact parts_25 cs call g
    · exact parts_26 cs call g
  · rcases h2 with rfl | rfl | rfl | rfl | rfl | rfl
    · exact parts_31 cs call g
    · exact parts_32 cs call g
    · exact parts_33 cs call g
    · exact parts_34 cs call g
    · exact parts_35 cs call g
    · exact parts_36 cs call g
  · rcases h2 with rfl | rfl | rfl | rfl | rfl | rfl
    · exact parts_41 cs call g
    · exact parts_42 cs call g
    · exact parts_43 cs call g
    · exact parts_44 cs call g
    · exact parts_45 cs call g
    · exact parts_46 cs call g
theorem parts_i (k : Nat) (g : G) {m : Nat} {w : Int} (hm : 1 ≤ m ∧ m ≤ 4) (hw : 1 ≤ w ∧ w ≤ 6) : ∃ rows : List D, den p (k + 1) 392 [.int (m : Nat), .int w] g = .ok (.lst rows) g ∧ ∀ d ∈ rows, ∃ ps, d = ti ps ∧ ps.length = m ∧ upB w 0 ps = true := by
  obtain ⟨e1, e2⟩ := parts_e p.cs (den p k) g hm hw
  refine ⟨rowsD (m : Nat) w, ?_, fun d hd => okR_ti (List.all_eq_true.mp e2 d hd)⟩
  refine Eq.trans (den_f H84.h__law_parts rfl (by decide)) ?_
  show endR (evB p.cs (den p k) b__law_parts [.val (.int (m : Nat)), .val (.int w), .no, .no, .no, .no, .no, .no] g) = _
  rw [e1]
  rfl
theorem upB_up {w : Int} : ∀ {l : List Int} {a : Int}, upB w a l = true → Up a l ∧ ∀ x ∈ l, a ≤ x ∧ x ≤ w
  | [], a, _ => ⟨trivial, fun x hx => by cases hx⟩
  | b :: r, a, h => by
    simp only [upB, Bool.and_eq_true, decide_eq_true_eq] at h
    obtain ⟨i1, i2⟩ := upB_up h.2
    refine ⟨⟨h.1.1, i1⟩, fun x hx => ?_⟩
    rcases List.mem_cons.mp hx with rfl | hx
    · exact h.1
    · have := i2 x hx
      exact ⟨by omega, this.2⟩
theorem above_i (k : Nat) {a b c d : Int} (g : G) (h1 : Sm a) (h2 : Sm b) (h3 : Sm c) (h4 : Sm d) : den p (k + 1) 393 [.tup [.int a, .int b], .tup [.int c, .int d]] g = .ok (.bl (decide (c * b < a * d))) g := by
  refine Eq.trans (den_f H84.h__law_is_above rfl (by decide)) ?_
  show endR (evB p.cs (den p k) b__law_is_above [.val (.tup [.int a, .int b]), .val (.tup [.int c, .int d])] g) = _
  simp [b__law_is_above, o_mul (mulOk h1 h4), o_mul (mulOk h3 h2)]
theorem near_le {fs ws ps : List Int} {w : Int} (hp : PO fs w ps) (hb : BO fs ws) {a b : Int} (he : barD fs ws = .tup [.int a, .int b]) : ∃ c d : Int, shV (prs w fs ps) = .tup [.int c, .int d] ∧ c * b ≤ a * d ∧ 0 ≤ c ∧ c ≤ 10 ^ 40 ∧ 1 ≤ d ∧ d ≤ 10 ^ 40 := by
  have up0 : Up 0 ps := up_of hp.up (fun x hx => (hp.q x (List.mem_of_mem_head? hx)).1)
  have w0 := hp.w0
  have w1 := hp.w1
  obtain ⟨b0, r, er⟩ := prs_ne (d := w) hp.f1 hp.len
  have bd := prs_bd (d := w) (M := w) hp.f hp.f4 up0 (fun l hl => (hp.q l hl).2) (by omega) (by omega) w0 (by omega)
  have mem := less_mem r b0
  rw [← er] at mem
  have bm := bd _ mem
  have le := less_le r b0 (fun q hq => by rw [← er] at hq; have := bd q hq; omega)
  rw [← er] at le
  have hi := bar_hi (M := mx (tops fs ws)) (w := w) hb.mxb.1 (fs := fs) (ls := ps) (ws := ws) (a := 0) (t := 0) hb.len hp.len up0 (fun l hl => (hp.q l hl).2) (by omega) mx_ge
  have lo := bar_lo (A := (lessI b0 r).1) (B := (lessI b0 r).2) (w := w) (gs := gI fs ps 0 0) (fs := fs) (ws := ws) hb.len (by rw [gI_len, hp.len]; simp) (fun v hv => (hb.w v hv).1) (fun q hq => le q hq)
  have sh : shV (prs w fs ps) = fracD (lessI b0 r).1.toNat (lessI b0 r).2.toNat := by rw [er]; rfl
  obtain ⟨c, d, k, e1, k0, e2, e3, c0, d1, cle, dle⟩ := frac_of (a := (lessI b0 r).1) (b := (lessI b0 r).2) bm.1 bm.2.2.1
  have dt := hb.dt
  have mb := hb.mxb
  obtain ⟨a', b', k', f1, k0', f2, f3, _, _, _, _⟩ := frac_of (a := mx (tops fs ws)) (b := dot fs ws) mb.1 dt.1
  have he : fracD (mx (tops fs ws)).toNat (dot fs ws).toNat = .tup [.int a, .int b] := he
  rw [he] at f1
  injection f1 with f1
  simp only [List.cons.injEq, D.int.injEq, and_true] at f1
  obtain ⟨rfl, rfl⟩ := f1
  refine ⟨c, d, by rw [sh, e1], ?_, c0, by omega, d1, by omega⟩
  have B0 : 0 ≤ (lessI b0 r).2 := by omega
  rw [Int.zero_mul, Int.zero_add, Int.sub_zero] at hi
  have k1 := Int.mul_le_mul_of_nonneg_left hi B0
  have k2 : (lessI b0 r).1 * (w * dot fs ws) ≤ (lessI b0 r).2 * (mx (tops fs ws) * w) := Int.le_trans lo k1
  rw [e2, e3, f2, f3] at k2
  have k3 : (k * k' * w) * (c * b) ≤ (k * k' * w) * (a * d) := by
    have x1 : k * c * (w * (k' * b)) = (k * k' * w) * (c * b) := by grind
    have x2 : k * d * (k' * a * w) = (k * k' * w) * (a * d) := by grind
    omega
  exact Int.le_of_mul_le_mul_left k3 (Int.mul_pos (Int.mul_pos k0 k0') (by omega))
end Pk

set_option Elab.async false
set_option linter.all false
namespace Bk
open PySem
def n_law : List Str := ["_law_script", "_law_m", "_law_turn", "_law_told_so", "_law_due", "_law_divisor", "_law_part", "_law_bar_so", "_law_value_here", "_law_parts_here", "_law_odds", "_law_odd", "_law_fares_so", "_law_whole", "_law_plan", "_law_weights", "_law_near", "_law_k"]
def b_law : B := (.cons (.for_ (.var 2) (.rng1 (.bin .add (.cst (.int 2)) (.bi .min2 (.cons (.cst (.int 5)) (.cons (.bi .len (.cons (.var 0) .nil)) .nil))))) (.cons (.asg (.tup [(.var 12), (.var 13)]) (.tup (.cons (.call 1 (.cons (.var 1) (.cons (.cst (.int 4)) .nil))) (.cons (.bin .add (.cst (.int 1)) (.draw (.var 1) (.cst (.int 6)))) .nil)))) (.cons (.asg (.var 4) (.call 389 (.cons (.var 12) .nil))) (.cons (.par [(14, false), (15, false)] (.cons (.call 2 (.cons (.var 12) .nil)) (.cons (.call 99 (.cons (.var 12) .nil)) .nil))) (.cons (.own 3 (.lst (.cons (.call 3 (.cons (.var 12) .nil)) (.cons (.call 15 (.cons (.var 14) .nil)) (.cons (.call 100 (.cons (.var 12) (.cons (.var 15) .nil))) .nil))))) (.cons (.frz 3) (.cons (.ife (.or (.not (.call 17 (.cons (.var 3) (.cons (.bin .mul (.lst (.cons (.var 4) .nil)) (.cst (.int 3))) .nil)))) (.not (.call 17 (.cons (.lst (.cons (.idx (.var 14) (.cst (.int 0))) (.cons (.idx (.idx (.var 14) (.cst (.int 2))) (.neg (.cst (.int 1)))) .nil))) (.cons (.lst (.cons (.var 12) (.cons (.idx (.var 14) (.cst (.int 1))) .nil))) .nil))))) (.cons (.ret (.cst (.bl false))) .nil) .nil) (.cons (.ife (.or (.cmp .ne (.call 391 (.cons (.var 12) (.cons (.var 15) .nil))) (.var 4)) (.not (.call 17 (.cons (.lst (.cons (.call 2 (.cons (.var 12) .nil)) .nil)) (.cons (.lst (.cons (.var 14) .nil)) .nil))))) (.cons (.ret (.cst (.bl false))) .nil) .nil) (.cons (.asg (.var 5) (.idx (.var 14) (.cst (.int 1)))) (.cons (.for_ (.var 6) (.seq (.idx (.var 14) (.cst (.int 2)))) (.cons (.asg (.var 5) (.ife (.cmp .gt (.var 6) (.cst (.int 0))) (.bin .div (.var 5) (.idx (.call 390 (.cons (.var 5) (.cons (.var 6) .nil))) (.cst (.int 0)))) (.var 5))) .nil)) (.cons (.ife (.cmp .ne (.var 5) (.cst (.int 1))) (.cons (.ret (.cst (.bl false))) .nil) .nil) (.cons (.asg (.var 7) (.bi .tuple (.cons (.lc (.draw (.var 1) (.cst (.int 9))) (.var 17) (.seq (.var 12)) none) .nil))) (.cons (.asg (.var 7) (.ife (.cmp .gt (.bi .sum (.cons (.var 7) .nil)) (.cst (.int 0))) (.var 7) (.bin .add (.sl (.var 7) (some (.cst (.int 1))) none) (.tup (.cons (.cst (.int 1)) .nil))))) (.cons (.asg (.var 8) (.call 391 (.cons (.var 12) (.cons (.var 7) .nil)))) (.cons (.ife (.not (.call 17 (.cons (.call 100 (.cons (.var 12) (.cons (.var 7) .nil))) (.cons (.var 8) .nil)))) (.cons (.ret (.cst (.bl false))) .nil) .nil) (.cons (.for_ (.var 9) (.seq (.sl (.call 392 (.cons (.bi .len (.cons (.var 12) .nil)) (.cons (.var 13) .nil))) none (some (.cst (.int 210))))) (.cons (.asg (.var 16) (.call 15 (.cons (.tup (.cons (.var 12) (.cons (.var 13) (.cons (.var 9) .nil)))) .nil))) (.cons (.ife (.or (.call 393 (.cons (.var 16) (.cons (.var 4) .nil))) (.call 393 (.cons (.var 16) (.cons (.var 8) .nil)))) (.cons (.ret (.cst (.bl false))) .nil) .nil) .nil))) (.cons (.asg (.var 10) (.lst (.cons (.cst .non) (.cons (.bi .list (.cons (.var 7) .nil)) (.cons (.bin .add (.var 7) (.tup (.cons (.cst (.int 1)) .nil))) (.cons (.bin .mul (.tup (.cons (.cst (.int 0)) .nil)) (.bi .len (.cons (.var 12) .nil))) (.cons (.bin .add (.sl (.var 7) (some (.cst (.int 1))) none) (.tup (.cons (.neg (.cst (.int 1))) .nil))) (.cons (.cst (.int 5)) .nil)))))))) (.cons (.for_ (.var 11) (.seq (.bin .add (.var 10) (.lst (.cons (.bin .add (.sl (.var 7) (some (.cst (.int 1))) none) (.tup (.cons (.cst (.bl true)) .nil))) (.cons (.bin .add (.sl (.var 7) (some (.cst (.int 1))) none) (.tup (.cons (.bin .add (.bin .pow (.cst (.int 10)) (.cst (.int 30))) (.cst (.int 1))) .nil))) .nil))))) (.cons (.ife (.not (.call 17 (.cons (.said 0 tbSaid (.call 100 (.cons (.var 12) (.cons (.var 11) .nil)))) (.cons (.tup (.cons (.cst (.str "paper")) (.cons (.cst (.str "bar")) .nil))) .nil)))) (.cons (.ret (.cst (.bl false))) .nil) .nil) .nil)) .nil)))))))))))))))))) (.cons (.own 3 (.lst (.cons (.call 3 (.cons (.tup (.cons (.cst (.int 1)) (.cons (.cst (.int 3)) .nil))) .nil)) (.cons (.call 2 (.cons (.tup (.cons (.cst (.int 1)) (.cons (.cst (.int 3)) .nil))) .nil)) (.cons (.call 3 (.cons (.tup (.cons (.cst (.int 7)) .nil)) .nil)) (.cons (.call 2 (.cons (.tup (.cons (.cst (.int 7)) .nil)) .nil)) .nil)))))) (.cons (.frz 3) (.cons (.own 3 (.cat (.var 3) (.lst (.cons (.call 2 (.cons (.tup (.cons (.cst (.int 1)) (.cons (.cst (.int 2)) (.cons (.cst (.int 4)) .nil)))) .nil)) (.cons (.call 100 (.cons (.tup (.cons (.cst (.int 1)) (.cons (.cst (.int 3)) .nil))) (.cons (.tup (.cons (.cst (.int 2)) (.cons (.cst (.int 1)) .nil))) .nil))) .nil))))) (.cons (.asg (.var 4) (.lst (.cons (.tup (.cons (.cst (.int 3)) (.cons (.cst (.int 5)) .nil))) (.cons (.tup (.cons (.tup (.cons (.cst (.int 1)) (.cons (.cst (.int 3)) .nil))) (.cons (.cst (.int 5)) (.cons (.tup (.cons (.cst (.int 3)) (.cons (.cst (.int 5)) .nil))) .nil)))) (.cons (.tup (.cons (.cst (.int 1)) (.cons (.cst (.int 1)) .nil))) (.cons (.tup (.cons (.tup (.cons (.cst (.int 7)) .nil)) (.cons (.cst (.int 1)) (.cons (.tup (.cons (.cst (.int 1)) .nil)) .nil)))) (.cons (.tup (.cons (.tup (.cons (.cst (.int 1)) (.cons (.cst (.int 2)) (.cons (.cst (.int 4)) .nil)))) (.cons (.cst (.int 4)) (.cons (.tup (.cons (.cst (.int 2)) (.cons (.cst (.int 3)) (.cons (.cst (.int 4)) .nil)))) .nil)))) (.cons (.tup (.cons (.cst (.int 3)) (.cons (.cst (.int 5)) .nil))) .nil)))))))) (.cons (.app 3 (.call 100 (.cons (.tup (.cons (.cst (.int 1)) (.cons (.cst (.int 3)) .nil))) (.cons (.tup (.cons (.bin .pow (.cst (.int 10)) (.cst (.int 30))) (.cons (.cst (.int 0)) .nil))) .nil)))) (.cons (.app 3 (.call 100 (.cons (.tup (.cons (.cst (.int 1)) (.cons (.cst (.int 3)) .nil))) (.cons (.tup (.cons (.bin .pow (.cst (.int 10)) (.cst (.int 30))) (.cons (.bin .pow (.cst (.int 10)) (.cst (.int 30))) .nil))) .nil)))) (.cons (.frz 3) (.cons (.ret (.call 17 (.cons (.var 3) (.cons (.bin .add (.var 4) (.lst (.cons (.tup (.cons (.cst (.int 1)) (.cons (.cst (.int 1)) .nil))) (.cons (.tup (.cons (.cst (.int 3)) (.cons (.cst (.int 4)) .nil))) .nil)))) .nil)))) .nil)))))))))
def p : Pr := ⟨[(1, (.int 1000000000000000000000000000000)), (0, (.int 1000000000)), (2, (.int 4)), (3, (.int 99))], [f__law_like, f__law_best_of, f__law_value, f_best_share, f_best_plan, f_check_bar, f__law_fares, f_share_bar, f_long_share, f__law_parts, f__law_is_above, f__law_least_390, f_bar_value, f_need_fares, f_weights_of, f_common, f_is_whole, f_long_in, f_need_plan, f_fraction, f_are_fares, f_gains_by, f_lesser_share, f_are_rising, f_limits_of, f_need_room, f_limits_in, f_regret_of, f_regrets_at, f_share_of, f__law_plan, f__law_of]⟩
end Bk

set_option Elab.async false
set_option linter.all false
set_option maxRecDepth 100000
set_option maxHeartbeats 4000000
set_option pp.maxSteps 800
/-! k84: turns, end. -/
namespace Pk
open PySem Bk
instance : HP Bk.p := by constructor <;> rfl
instance : H84 Bk.p := by constructor <;> rfl
theorem lk17 : Bk.p.ds.lookup 17 = some ⟨2, 2, likeB⟩ := rfl
theorem turns_g {f : D → Gm → G → R Fl} {P : Gm → Prop} {c : Int} (hc : 0 ≤ c) (H : ∀ x Γ g, P Γ → g.spot + c + 1000 < 2 ^ 60 → ∃ Γ' g', f x Γ g = .ok (.nx Γ') g' ∧ P Γ' ∧ g'.spot ≤ g.spot + c) : ∀ (xs : List D) (Γ : Gm) (g : G), P Γ → g.spot + c * xs.length + 1000 < 2 ^ 60 → ∃ Γ' g', forR f xs Γ g = .ok (.nx Γ') g' ∧ P Γ' ∧ g'.spot ≤ g.spot + c * xs.length
  | [], Γ, g, h, _ => ⟨Γ, g, rfl, h, by simp⟩
  | x :: xs, Γ, g, h, hs => by
    simp only [List.length_cons] at hs ⊢
    push_cast at hs ⊢
    rw [Int.mul_add] at hs ⊢
    have hn : 0 ≤ c * (xs.length : Int) := Int.mul_nonneg hc (by omega)
    obtain ⟨Γ1, g1, e1, p1, s1⟩ := H x Γ g h (by omega)
    obtain ⟨Γ2, g2, e2, p2, s2⟩ := turns_g hc H xs Γ1 g1 p1 (by omega)
    refine ⟨Γ2, g2, ?_, p2, by omega⟩
    simp only [forR, e1, r_ok]
    exact e2
def b_turn : B := match b_law with
  | .cons (.for_ _ _ b) _ => b
  | _ => .nil
def b_end : B := match b_law with
  | .cons _ b => b
  | _ => .nil

def st_0 : S := (.asg (.tup [(.var 12), (.var 13)]) (.tup (.cons (.call 1 (.cons (.var 1) (.cons (.cst (.int 4)) .nil))) (.cons (.bin .add (.cst (.int 1)) (.draw (.var 1) (.cst (.int 6)))) .nil))))
def st_1 : S := (.asg (.var 4) (.call 389 (.cons (.var 12) .nil)))
def st_2 : S := (.par [(14, false), (15, false)] (.cons (.call 2 (.cons (.var 12) .nil)) (.cons (.call 99 (.cons (.var 12) .nil)) .nil)))
def st_3 : S := (.own 3 (.lst (.cons (.call 3 (.cons (.var 12) .nil)) (.cons (.call 15 (.cons (.var 14) .nil)) (.cons (.call 100 (.cons (.var 12) (.cons (.var 15) .nil))) .nil)))))
def st_4 : S := (.frz 3)
def st_5 : S := (.ife (.or (.not (.call 17 (.cons (.var 3) (.cons (.bin .mul (.lst (.cons (.var 4) .nil)) (.cst (.int 3))) .nil)))) (.not (.call 17 (.cons (.lst (.cons (.idx (.var 14) (.cst (.int 0))) (.cons (.idx (.idx (.var 14) (.cst (.int 2))) (.neg (.cst (.int 1)))) .nil))) (.cons (.lst (.cons (.var 12) (.cons (.idx (.var 14) (.cst (.int 1))) .nil))) .nil))))) (.cons (.ret (.cst (.bl false))) .nil) .nil)
def st_6 : S := (.ife (.or (.cmp .ne (.call 391 (.cons (.var 12) (.cons (.var 15) .nil))) (.var 4)) (.not (.call 17 (.cons (.lst (.cons (.call 2 (.cons (.var 12) .nil)) .nil)) (.cons (.lst (.cons (.var 14) .nil)) .nil))))) (.cons (.ret (.cst (.bl false))) .nil) .nil)
def st_7 : S := (.asg (.var 5) (.idx (.var 14) (.cst (.int 1))))
def st_8 : S := (.for_ (.var 6) (.seq (.idx (.var 14) (.cst (.int 2)))) (.cons (.asg (.var 5) (.ife (.cmp .gt (.var 6) (.cst (.int 0))) (.bin .div (.var 5) (.idx (.call 390 (.cons (.var 5) (.cons (.var 6) .nil))) (.cst (.int 0)))) (.var 5))) .nil))
def st_9 : S := (.ife (.cmp .ne (.var 5) (.cst (.int 1))) (.cons (.ret (.cst (.bl false))) .nil) .nil)
def st_10 : S := (.asg (.var 7) (.bi .tuple (.cons (.lc (.draw (.var 1) (.cst (.int 9))) (.var 17) (.seq (.var 12)) none) .nil)))
def st_11 : S := (.asg (.var 7) (.ife (.cmp .gt (.bi .sum (.cons (.var 7) .nil)) (.cst (.int 0))) (.var 7) (.bin .add (.sl (.var 7) (some (.cst (.int 1))) none) (.tup (.cons (.cst (.int 1)) .nil)))))
def st_12 : S := (.asg (.var 8) (.call 391 (.cons (.var 12) (.cons (.var 7) .nil))))
def st_13 : S := (.ife (.not (.call 17 (.cons (.call 100 (.cons (.var 12) (.cons (.var 7) .nil))) (.cons (.var 8) .nil)))) (.cons (.ret (.cst (.bl false))) .nil) .nil)
def bd_14 : B := (.cons (.asg (.var 16) (.call 15 (.cons (.tup (.cons (.var 12) (.cons (.var 13) (.cons (.var 9) .nil)))) .nil))) (.cons (.ife (.or (.call 393 (.cons (.var 16) (.cons (.var 4) .nil))) (.call 393 (.cons (.var 16) (.cons (.var 8) .nil)))) (.cons (.ret (.cst (.bl false))) .nil) .nil) .nil))
def st_14 : S := .for_ (.var 9) (.seq (.sl (.call 392 (.cons (.bi .len (.cons (.var 12) .nil)) (.cons (.var 13) .nil))) none (some (.cst (.int 210))))) bd_14
def st_15 : S := (.asg (.var 10) (.lst (.cons (.cst .non) (.cons (.bi .list (.cons (.var 7) .nil)) (.cons (.bin .add (.var 7) (.tup (.cons (.cst (.int 1)) .nil))) (.cons (.bin .mul (.tup (.cons (.cst (.int 0)) .nil)) (.bi .len (.cons (.var 12) .nil))) (.cons (.bin .add (.sl (.var 7) (some (.cst (.int 1))) none) (.tup (.cons (.neg (.cst (.int 1))) .nil))) (.cons (.cst (.int 5)) .nil))))))))
def bd_16 : B := (.cons (.ife (.not (.call 17 (.cons (.said 0 tbSaid (.call 100 (.cons (.var 12) (.cons (.var 11) .nil)))) (.cons (.tup (.cons (.cst (.str "paper")) (.cons (.cst (.str "bar")) .nil))) .nil)))) (.cons (.ret (.cst (.bl false))) .nil) .nil) .nil)
def st_16 : S := .for_ (.var 11) (.seq (.bin .add (.var 10) (.lst (.cons (.bin .add (.sl (.var 7) (some (.cst (.int 1))) none) (.tup (.cons (.cst (.bl true)) .nil))) (.cons (.bin .add (.sl (.var 7) (some (.cst (.int 1))) none) (.tup (.cons (.bin .add (.bin .pow (.cst (.int 10)) (.cst (.int 30))) (.cst (.int 1))) .nil))) .nil))))) bd_16
theorem turn_eq : b_turn = (.cons st_0 (.cons st_1 (.cons st_2 (.cons st_3 (.cons st_4 (.cons st_5 (.cons st_6 (.cons st_7 (.cons st_8 (.cons st_9 (.cons st_10 (.cons st_11 (.cons st_12 (.cons st_13 (.cons st_14 (.cons st_15 (.cons st_16 .nil))))))))))))))))) := rfl
theorem ix_last {l : List Int} {w : Int} (h : l.getLast? = some w) : idxD (ti l) (.int (-1)) = some (.int w) := by
  cases l with
  | nil => cases h
  | cons a r =>
    have e := List.getLast?_eq_getElem? (l := a :: r)
    rw [h] at e
    show atD ((a :: r).map D.int) (-1) = _
    unfold atD
    rw [if_neg (by decide), if_pos (by simp; omega)]
    have : ((-1 : Int) + (((a :: r).map D.int).length : Nat)).toNat = (a :: r).length - 1 := by simp; omega
    rw [this, List.getElem?_map, ← e]
    rfl
theorem sum_ti (l : List Int) : biD .sum [ti l] = some (.int l.sum) := by show Option.map _ (intsD _) = _; rw [ints_map]; rfl
theorem add_ti {l r : List Int} (h : l.length + r.length ≤ 1000) : opD .add (ti l) (ti r) = some (ti (l ++ r)) := by
  simp only [opD, ti, List.length_map]
  rw [if_pos (by omega), List.map_append]
theorem rep_ti {m : Nat} (h : 1 ≤ m ∧ m ≤ 4) : opD .mul (.tup [.int 0]) (.int (m : Nat)) = some (ti (List.replicate m 0)) := by
  have : m = 1 ∨ m = 2 ∨ m = 3 ∨ m = 4 := by omega
  rcases this with rfl | rfl | rfl | rfl <;> rfl
abbrev bDv : B := .cons (.asg (.var 5) (.ife (.cmp .gt (.var 6) (.cst (.int 0))) (.bin .div (.var 5) (.idx (.call 390 (.cons (.var 5) (.cons (.var 6) .nil))) (.cst (.int 0)))) (.var 5))) .nil
theorem dv_w (g : G) (ns : List Int) (s2 s3 s4 s7 s8 s9 s10 s11 s12 s13 s14 s15 s16 s17 : Slot) : ∀ (vs : List Int) (n : Nat) (s6 : Slot), (∀ v ∈ vs, 0 ≤ v ∧ v ≤ 10 ^ 60) → 1 ≤ n → n ≤ 10 ^ 60 →
    ∃ t6, forR (fun x Γ g => (lift (setT (.var 6) x Γ) g).bind fun Γ' g => evB Bk.p.cs (den Bk.p 12) bDv Γ' g) (vs.map .int) [.val (.scr ns), .val .m, s2, s3, s4, .val (.int (n : Nat)), s6, s7, s8, s9, s10, s11, s12, s13, s14, s15, s16, s17] g = .ok (.nx [.val (.scr ns), .val .m, s2, s3, s4, .val (.int (gf n vs : Nat)), t6, s7, s8, s9, s10, s11, s12, s13, s14, s15, s16, s17]) g
  | [], n, s6, _, _, _ => ⟨s6, rfl⟩
  | v :: vs, n, s6, hv, hn, hn2 => by
    have v0 := hv v List.mem_cons_self
    have gp : 1 ≤ Nat.gcd n v.toNat := Nat.gcd_pos_of_pos_left _ hn
    have gl : Nat.gcd n v.toNat ≤ n := Nat.gcd_le_left _ hn
    obtain ⟨t6, ih⟩ := dv_w g ns s2 s3 s4 s7 s8 s9 s10 s11 s12 s13 s14 s15 s16 s17 vs (Nat.gcd n v.toNat) (.val (.int v)) (fun y hy => hv y (List.mem_cons_of_mem _ hy)) gp (by omega)
    refine ⟨t6, ?_⟩
    simp only [List.map, forR, gf]
    rw [← ih]
    by_cases hz : v = 0
    · subst hz
      simp
    · have hp : 0 < v := by omega
      have el := least84_i (p := Bk.p) 11 g (a := (n : Nat)) (b := v) (by omega) (by omega) (by omega)
      have ef : fracD ((n : Nat) : Int).toNat v.toNat = .tup [.int (n / Nat.gcd n v.toNat : Nat), .int (v.toNat / Nat.gcd n v.toNat : Nat)] := by
        unfold fracD
        rw [Int.toNat_natCast, if_neg (by omega)]
      rw [ef] at el
      have q1 : 1 ≤ n / Nat.gcd n v.toNat := Nat.div_pos gl gp
      have q2 : n / Nat.gcd n v.toNat ≤ n := Nat.div_le_self _ _
      have od : opD .div (.int (n : Nat)) (.int (n / Nat.gcd n v.toNat : Nat)) = some (.int (Nat.gcd n v.toNat : Nat)) := by
        rw [o_div (divOk (by omega) (sm_of (by omega) (by omega))), ← Int.natCast_ediv, Nat.div_div_self (Nat.gcd_dvd_left _ _) (by omega)]
      generalize (n / Nat.gcd n v.toNat : Nat) = y at *
      generalize Nat.gcd n v.toNat = z at *
      simp [hp, el, od]
theorem z1_gen {cs : List (Nat × D)} {call : Nat → List D → G → R D} {F r x13 : D} {g : G} {ns : List Int} {s2 s3 s5 s6 s7 s8 s9 s10 s11 s14 s15 s16 s17 s4 : Slot} (e : call 389 [F] g = .ok r g) : evS cs call st_1 [.val (.scr ns), .val .m, s2, s3, s4, s5, s6, s7, s8, s9, s10, s11, .val F, .val x13, s14, s15, s16, s17] g = .ok (.nx [.val (.scr ns), .val .m, s2, s3, .val r, s5, s6, s7, s8, s9, s10, s11, .val F, .val x13, s14, s15, s16, s17]) g := by
  simp [st_1, e]
theorem z6_gen {cs : List (Nat × D)} {call : Nat → List D → G → R D} {F r P W : D} {g : G} {s0 s1 s2 s3 s5 s6 s7 s8 s9 s10 s11 s13 s16 s17 : Slot} (e : call 391 [F, W] g = .ok r g) (ne : cmpD .ne r r = some false) (e2 : call 2 [F] g = .ok P g) (e3 : call 17 [.lst [P], .lst [P]] g = .ok (.bl true) g) : evS cs call st_6 [s0, s1, s2, s3, .val r, s5, s6, s7, s8, s9, s10, s11, .val F, s13, .val P, .val W, s16, s17] g = .ok (.nx [s0, s1, s2, s3, .val r, s5, s6, s7, s8, s9, s10, s11, .val F, s13, .val P, .val W, s16, s17]) g := by
  simp [st_6, e, ne, e2, e3]
theorem z12_gen {cs : List (Nat × D)} {call : Nat → List D → G → R D} {F r W : D} {g : G} {s0 s1 s2 s3 s4 s5 s6 s8 s9 s10 s11 s13 s14 s15 s16 s17 : Slot} (e : call 391 [F, W] g = .ok r g) : evS cs call st_12 [s0, s1, s2, s3, s4, s5, s6, .val W, s8, s9, s10, s11, .val F, s13, s14, s15, s16, s17] g = .ok (.nx [s0, s1, s2, s3, s4, s5, s6, .val W, .val r, s9, s10, s11, .val F, s13, s14, s15, s16, s17]) g := by
  simp [st_12, e]
theorem z14_gen {cs : List (Nat × D)} {call : Nat → List D → G → R D} {F w : D} {m : Int} {rows : List D} {g : G} {X : R Fl} {s0 s1 s2 s3 s4 s5 s6 s7 s8 s9 s10 s11 s14 s15 s16 s17 : Slot} (hF : biD .len [F] = some (.int m)) (e : call 392 [.int m, w] g = .ok (.lst rows) g)
    (e2 : forR (fun x Γ g => (lift (setT (.var 9) x Γ) g).bind fun Γ' g => evB cs call bd_14 Γ' g) (cutD rows none (some 210)) [s0, s1, s2, s3, s4, s5, s6, s7, s8, s9, s10, s11, .val F, .val w, s14, s15, s16, s17] g = X) :
    evS cs call st_14 [s0, s1, s2, s3, s4, s5, s6, s7, s8, s9, s10, s11, .val F, .val w, s14, s15, s16, s17] g = X := by
  show evS cs call (.for_ (.var 9) (.seq (.sl (.call 392 (.cons (.bi .len (.cons (.var 12) .nil)) (.cons (.var 13) .nil))) none (some (.cst (.int 210))))) bd_14) _ _ = _
  rw [s_for']
  simp only [i_seq, x_sl, x_call, a_cons, a_nil, x_bi, x_var, x_cst, List.getElem?_cons_zero, List.getElem?_cons_succ, r_ok, hF, l_some, e, o_none, o_some, sl_lst, sq_lst]
  exact e2
theorem p30 : opD .pow (.int 10) (.int 30) = some (.int 1000000000000000000000000000000) := by kernel_rfl
theorem z16_gen {cs : List (Nat × D)} {call : Nat → List D → G → R D} {W T A C L : D} {odds : List D} {g : G} {X : R Fl} {s0 s1 s2 s3 s4 s5 s6 s8 s9 s11 s12 s13 s14 s15 s16 s17 : Slot} (h1 : slD W (some 1) none = some T) (h2 : opD .add T (.tup [.bl true]) = some A) (h3 : opD .add T (.tup [.int 1000000000000000000000000000001]) = some C) (h4 : opD .add L (.lst [A, C]) = some (.lst odds))
    (e2 : forR (fun x Γ g => (lift (setT (.var 11) x Γ) g).bind fun Γ' g => evB cs call bd_16 Γ' g) odds [s0, s1, s2, s3, s4, s5, s6, .val W, s8, s9, .val L, s11, s12, s13, s14, s15, s16, s17] g = X) :
    evS cs call st_16 [s0, s1, s2, s3, s4, s5, s6, .val W, s8, s9, .val L, s11, s12, s13, s14, s15, s16, s17] g = X := by
  show evS cs call (.for_ (.var 11) (.seq (.bin .add (.var 10) (.lst (.cons (.bin .add (.sl (.var 7) (some (.cst (.int 1))) none) (.tup (.cons (.cst (.bl true)) .nil))) (.cons (.bin .add (.sl (.var 7) (some (.cst (.int 1))) none) (.tup (.cons (.bin .add (.bin .pow (.cst (.int 10)) (.cst (.int 30))) (.cst (.int 1))) .nil))) .nil))))) bd_16) _ _ = _
  rw [s_for']
  have e30 : (1000000000000000000000000000000 : Int) + 1 = 1000000000000000000000000000001 := by decide
  simp only [i_seq, x_bin, x_lst, x_tup, x_sl, a_cons, a_nil, x_var, x_cst, List.getElem?_cons_zero, List.getElem?_cons_succ, r_ok, l_some, o_none, o_some, h1, h2, p30, o_add, e30, h3, h4, sq_lst]
  exact e2
theorem turn84 (ns : List Int) (g : G) (hs : g.spot + 1000 < 2 ^ 60) (s2 s3 s4 s5 s6 s7 s8 s9 s10 s11 s12 s13 s14 s15 s16 s17 : Slot) : ∃ t2 t3 t4 t5 t6 t7 t8 t9 t10 t11 t12 t13 t14 t15 t16 t17 g', evB Bk.p.cs (den Bk.p 12) b_turn [.val (.scr ns), .val .m, s2, s3, s4, s5, s6, s7, s8, s9, s10, s11, s12, s13, s14, s15, s16, s17] g = .ok (.nx [.val (.scr ns), .val .m, t2, t3, t4, t5, t6, t7, t8, t9, t10, t11, t12, t13, t14, t15, t16, t17]) g' ∧ g'.spot ≤ g.spot + 20 := by
  obtain ⟨fs, g1, e1, hf, hg1, hfl, _⟩ := fares_d (p := Bk.p) 11 (most := 4) g (by decide) (by decide) (by omega)
  obtain ⟨u, g2, e2, u0, u1, hg2⟩ := drw_ok (lim := 6) (g := g1) (by decide) (by decide) (by omega)
  obtain ⟨f0, tl, rfl⟩ : ∃ f0 tl, fs = f0 :: tl := by
    cases fs with
    | nil => simp [fsOk] at hf
    | cons a l => exact ⟨a, l, rfl⟩
  have h := FO.of hf
  have l4 := h.l4
  obtain ⟨a, b, w, ps, bp, ePl⟩ := best_plan_i (p := Bk.p) h
  have ab := bp.ab
  have po := bp.po
  have w0 := po.w0
  have w1 := po.w1
  have eSh := h.share
  rw [bp.sh] at eSh
  have eDue : ∀ g, den Bk.p 12 389 [ti (f0 :: tl)] g = .ok (.tup [.int a, .int b]) g := fun g => by rw [best_of_i (p := Bk.p) 10 g h, bp.sh]
  have eBS : ∀ g, den Bk.p 12 3 [ti (f0 :: tl)] g = .ok (.tup [.int a, .int b]) g := fun g => by rw [best_share_i (p := Bk.p) 8 g h, bp.sh]
  have eLg : ∀ g, den Bk.p 12 15 [plD (f0 :: tl) w ps] g = .ok (.tup [.int a, .int b]) g := fun g => by rw [long_i (p := Bk.p) po 7 g, bp.lg]
  have eSb : ∀ g, den Bk.p 12 99 [ti (f0 :: tl)] g = .ok (ti (wOf (f0 :: tl))) g := fun g => share_bar_i (p := Bk.p) 8 g h
  have eCb : ∀ g, den Bk.p 12 100 [ti (f0 :: tl), ti (wOf (f0 :: tl))] g = .ok (.tup [.int a, .int b]) g := fun g => by rw [check_ok (p := Bk.p) 8 g h.bo hf, eSh]
  have eVl : ∀ g, den Bk.p 12 391 [ti (f0 :: tl), ti (wOf (f0 :: tl))] g = .ok (.tup [.int a, .int b]) g := fun g => by rw [value_i (p := Bk.p) 10 g h.bo, eSh]
  have eBp : ∀ g, den Bk.p 12 2 [ti (f0 :: tl)] g = .ok (plD (f0 :: tl) w ps) g := fun g => ePl 7 g
  have szF : Sz 8000 1 (ti (f0 :: tl)) := sz_ti (by simp; omega) fun x hx => by have := h.f x hx; omega
  have szP : Sz 8000 1 (ti ps) := sz_ti (by rw [po.len]; simp; omega) fun x hx => by have := po.q x hx; omega
  have szS : Sz 4000 1 (.tup [.int a, .int b]) := sz_frac ⟨by omega, by omega⟩ ⟨by omega, by omega⟩
  have szI : Sz 1921 0 (.int w) := Sz.int (sm_of (by omega) (by omega))
  have szPl : Sz 30000 2 (plD (f0 :: tl) w ps) := (Sz.tup (n := 8000) (h := 1) (ds := [ti (f0 :: tl), .int w, ti ps]) (fun d hd => by
    simp only [List.mem_cons, List.not_mem_nil, or_false] at hd
    rcases hd with rfl | rfl | rfl
    · exact szF
    · exact szI.mono (by decide) (by decide)
    · exact szP)).mono (by simp) (by decide)
  have like1 : ∀ g, den Bk.p 12 17 [.lst [.tup [.int a, .int b], .tup [.int a, .int b], .tup [.int a, .int b]], .lst [.tup [.int a, .int b], .tup [.int a, .int b], .tup [.int a, .int b]]] g = .ok (.bl true) g := fun g => like_s lk17 11 (n := 40000) g (sz_list (n := 4000) (fun x hx => by simp at hx; rw [hx]; exact szS) (by simp) (by decide)) (by decide)
  have like2 : ∀ g, den Bk.p 12 17 [.lst [ti (f0 :: tl), .int w], .lst [ti (f0 :: tl), .int w]] g = .ok (.bl true) g := fun g => like_s lk17 11 (n := 40000) g (sz_list (n := 8000) (fun x hx => by
    simp only [List.mem_cons, List.not_mem_nil, or_false] at hx
    rcases hx with rfl | rfl
    · exact szF
    · exact szI.mono (by decide) (by decide)) (by simp) (by decide)) (by decide)
  have like3 : ∀ g, den Bk.p 12 17 [.lst [plD (f0 :: tl) w ps], .lst [plD (f0 :: tl) w ps]] g = .ok (.bl true) g := fun g => like_s lk17 11 (n := 40000) g ((Sz.lst (n := 30000) (h := 2) (ds := [plD (f0 :: tl) w ps]) (fun x hx => by simp at hx; rw [hx]; exact szPl)).mono (by simp) (by decide)) (by decide)
  have r3 : opD .mul (.lst [.tup [.int a, .int b]]) (.int 3) = some (.lst [.tup [.int a, .int b], .tup [.int a, .int b], .tup [.int a, .int b]]) := rfl
  have neS : cmpD .ne (.tup [.int a, .int b]) (.tup [.int a, .int b]) = some false := Shp.self (h := 1) (Shp.ti [a, b]) (by decide)
  have il := ix_last bp.last
  have z0 : evS Bk.p.cs (den Bk.p 12) st_0 [.val (.scr ns), .val .m, s2, s3, s4, s5, s6, s7, s8, s9, s10, s11, s12, s13, s14, s15, s16, s17] g = .ok (.nx [.val (.scr ns), .val .m, s2, s3, s4, s5, s6, s7, s8, s9, s10, s11, .val (ti (f0 :: tl)), .val (.int (1 + u)), s14, s15, s16, s17]) g2 := by
    simp [st_0, e1, x_drw, e2, -x_draw]
  have z1 : evS Bk.p.cs (den Bk.p 12) st_1 [.val (.scr ns), .val .m, s2, s3, s4, s5, s6, s7, s8, s9, s10, s11, .val (ti (f0 :: tl)), .val (.int (1 + u)), s14, s15, s16, s17] g2 = .ok (.nx [.val (.scr ns), .val .m, s2, s3, .val (.tup [.int a, .int b]), s5, s6, s7, s8, s9, s10, s11, .val (ti (f0 :: tl)), .val (.int (1 + u)), s14, s15, s16, s17]) g2 := by
    exact z1_gen (eDue g2)
  have z2 : evS Bk.p.cs (den Bk.p 12) st_2 [.val (.scr ns), .val .m, s2, s3, .val (.tup [.int a, .int b]), s5, s6, s7, s8, s9, s10, s11, .val (ti (f0 :: tl)), .val (.int (1 + u)), s14, s15, s16, s17] g2 = .ok (.nx [.val (.scr ns), .val .m, s2, s3, .val (.tup [.int a, .int b]), s5, s6, s7, s8, s9, s10, s11, .val (ti (f0 :: tl)), .val (.int (1 + u)), .val (plD (f0 :: tl) w ps), .val (ti (wOf (f0 :: tl))), s16, s17]) g2 := by
    simp [st_2, eBp, eSb, parG]
  have z3 : evS Bk.p.cs (den Bk.p 12) st_3 [.val (.scr ns), .val .m, s2, s3, .val (.tup [.int a, .int b]), s5, s6, s7, s8, s9, s10, s11, .val (ti (f0 :: tl)), .val (.int (1 + u)), .val (plD (f0 :: tl) w ps), .val (ti (wOf (f0 :: tl))), s16, s17] g2 = .ok (.nx [.val (.scr ns), .val .m, s2, .own (.lst [.tup [.int a, .int b], .tup [.int a, .int b], .tup [.int a, .int b]]), .val (.tup [.int a, .int b]), s5, s6, s7, s8, s9, s10, s11, .val (ti (f0 :: tl)), .val (.int (1 + u)), .val (plD (f0 :: tl) w ps), .val (ti (wOf (f0 :: tl))), s16, s17]) g2 := by
    simp [st_3, eBS, eLg, eCb]
  have z4 : evS Bk.p.cs (den Bk.p 12) st_4 [.val (.scr ns), .val .m, s2, .own (.lst [.tup [.int a, .int b], .tup [.int a, .int b], .tup [.int a, .int b]]), .val (.tup [.int a, .int b]), s5, s6, s7, s8, s9, s10, s11, .val (ti (f0 :: tl)), .val (.int (1 + u)), .val (plD (f0 :: tl) w ps), .val (ti (wOf (f0 :: tl))), s16, s17] g2 = .ok (.nx [.val (.scr ns), .val .m, s2, .val (.lst [.tup [.int a, .int b], .tup [.int a, .int b], .tup [.int a, .int b]]), .val (.tup [.int a, .int b]), s5, s6, s7, s8, s9, s10, s11, .val (ti (f0 :: tl)), .val (.int (1 + u)), .val (plD (f0 :: tl) w ps), .val (ti (wOf (f0 :: tl))), s16, s17]) g2 := by
    simp [st_4]
  have z5 : evS Bk.p.cs (den Bk.p 12) st_5 [.val (.scr ns), .val .m, s2, .val (.lst [.tup [.int a, .int b], .tup [.int a, .int b], .tup [.int a, .int b]]), .val (.tup [.int a, .int b]), s5, s6, s7, s8, s9, s10, s11, .val (ti (f0 :: tl)), .val (.int (1 + u)), .val (plD (f0 :: tl) w ps), .val (ti (wOf (f0 :: tl))), s16, s17] g2 = .ok (.nx [.val (.scr ns), .val .m, s2, .val (.lst [.tup [.int a, .int b], .tup [.int a, .int b], .tup [.int a, .int b]]), .val (.tup [.int a, .int b]), s5, s6, s7, s8, s9, s10, s11, .val (ti (f0 :: tl)), .val (.int (1 + u)), .val (plD (f0 :: tl) w ps), .val (ti (wOf (f0 :: tl))), s16, s17]) g2 := by
    simp [st_5, r3, like1, il, like2]
  have z6 : evS Bk.p.cs (den Bk.p 12) st_6 [.val (.scr ns), .val .m, s2, .val (.lst [.tup [.int a, .int b], .tup [.int a, .int b], .tup [.int a, .int b]]), .val (.tup [.int a, .int b]), s5, s6, s7, s8, s9, s10, s11, .val (ti (f0 :: tl)), .val (.int (1 + u)), .val (plD (f0 :: tl) w ps), .val (ti (wOf (f0 :: tl))), s16, s17] g2 = .ok (.nx [.val (.scr ns), .val .m, s2, .val (.lst [.tup [.int a, .int b], .tup [.int a, .int b], .tup [.int a, .int b]]), .val (.tup [.int a, .int b]), s5, s6, s7, s8, s9, s10, s11, .val (ti (f0 :: tl)), .val (.int (1 + u)), .val (plD (f0 :: tl) w ps), .val (ti (wOf (f0 :: tl))), s16, s17]) g2 := by
    exact z6_gen (eVl g2) neS (eBp g2) (like3 g2)
  have z7 : evS Bk.p.cs (den Bk.p 12) st_7 [.val (.scr ns), .val .m, s2, .val (.lst [.tup [.int a, .int b], .tup [.int a, .int b], .tup [.int a, .int b]]), .val (.tup [.int a, .int b]), s5, s6, s7, s8, s9, s10, s11, .val (ti (f0 :: tl)), .val (.int (1 + u)), .val (plD (f0 :: tl) w ps), .val (ti (wOf (f0 :: tl))), s16, s17] g2 = .ok (.nx [.val (.scr ns), .val .m, s2, .val (.lst [.tup [.int a, .int b], .tup [.int a, .int b], .tup [.int a, .int b]]), .val (.tup [.int a, .int b]), .val (.int w), s6, s7, s8, s9, s10, s11, .val (ti (f0 :: tl)), .val (.int (1 + u)), .val (plD (f0 :: tl) w ps), .val (ti (wOf (f0 :: tl))), s16, s17]) g2 := by
    simp [st_7]
  obtain ⟨t6, e8⟩ := dv_w g2 ns s2 (.val (.lst [.tup [.int a, .int b], .tup [.int a, .int b], .tup [.int a, .int b]])) (.val (.tup [.int a, .int b])) s7 s8 s9 s10 s11 (.val (ti (f0 :: tl))) (.val (.int (1 + u))) (.val (plD (f0 :: tl) w ps)) (.val (ti (wOf (f0 :: tl)))) s16 s17 ps w.toNat s6 (fun v hv => by have := po.q v hv; omega) (by omega) (by omega)
  rw [bp.one, Int.toNat_of_nonneg (by omega)] at e8
  have z8 : evS Bk.p.cs (den Bk.p 12) st_8 [.val (.scr ns), .val .m, s2, .val (.lst [.tup [.int a, .int b], .tup [.int a, .int b], .tup [.int a, .int b]]), .val (.tup [.int a, .int b]), .val (.int w), s6, s7, s8, s9, s10, s11, .val (ti (f0 :: tl)), .val (.int (1 + u)), .val (plD (f0 :: tl) w ps), .val (ti (wOf (f0 :: tl))), s16, s17] g2 = .ok (.nx [.val (.scr ns), .val .m, s2, .val (.lst [.tup [.int a, .int b], .tup [.int a, .int b], .tup [.int a, .int b]]), .val (.tup [.int a, .int b]), .val (.int ((1 : Nat) : Int)), t6, s7, s8, s9, s10, s11, .val (ti (f0 :: tl)), .val (.int (1 + u)), .val (plD (f0 :: tl) w ps), .val (ti (wOf (f0 :: tl))), s16, s17]) g2 := by
    show evS Bk.p.cs (den Bk.p 12) (.for_ (.var 6) (.seq (.idx (.var 14) (.cst (.int 2)))) bDv) _ _ = _
    rw [s_for']
    simp only [i_seq, x_idx, x_var, x_cst, List.getElem?_cons_zero, List.getElem?_cons_succ, r_ok, pl_2, l_some, ti_sq]
    exact e8
  have z9 : evS Bk.p.cs (den Bk.p 12) st_9 [.val (.scr ns), .val .m, s2, .val (.lst [.tup [.int a, .int b], .tup [.int a, .int b], .tup [.int a, .int b]]), .val (.tup [.int a, .int b]), .val (.int ((1 : Nat) : Int)), t6, s7, s8, s9, s10, s11, .val (ti (f0 :: tl)), .val (.int (1 + u)), .val (plD (f0 :: tl) w ps), .val (ti (wOf (f0 :: tl))), s16, s17] g2 = .ok (.nx [.val (.scr ns), .val .m, s2, .val (.lst [.tup [.int a, .int b], .tup [.int a, .int b], .tup [.int a, .int b]]), .val (.tup [.int a, .int b]), .val (.int ((1 : Nat) : Int)), t6, s7, s8, s9, s10, s11, .val (ti (f0 :: tl)), .val (.int (1 + u)), .val (plD (f0 :: tl) w ps), .val (ti (wOf (f0 :: tl))), s16, s17]) g2 := by
    simp [st_9]
  obtain ⟨vs, g3, e10, n1, n2, hg3⟩ := lc_draws (f := fun x g => (lift (setT (.var 17) x (wipeG [.val (.scr ns), .val .m, s2, .val (.lst [.tup [.int a, .int b], .tup [.int a, .int b], .tup [.int a, .int b]]), .val (.tup [.int a, .int b]), .val (.int ((1 : Nat) : Int)), t6, s7, s8, s9, s10, s11, .val (ti (f0 :: tl)), .val (.int (1 + u)), .val (plD (f0 :: tl) w ps), .val (ti (wOf (f0 :: tl))), s16, s17] (T.var 17).vars)) g).bind fun Γ' g => (evE Bk.p.cs (den Bk.p 12) (.draw (.var 1) (.cst (.int 9))) Γ' g).bind fun y g => .ok (some y) g) (lim := 9) (fun x g hs => by
    obtain ⟨v, g', e, v0, v1, hg⟩ := drw_ok (lim := 9) (g := g) (by decide) (by decide) hs
    exact ⟨v, g', by simp [x_drw, e, -x_draw], v0, v1, hg⟩) ((f0 :: tl).map .int) g2 (by simp; omega)
  have z10 : evS Bk.p.cs (den Bk.p 12) st_10 [.val (.scr ns), .val .m, s2, .val (.lst [.tup [.int a, .int b], .tup [.int a, .int b], .tup [.int a, .int b]]), .val (.tup [.int a, .int b]), .val (.int ((1 : Nat) : Int)), t6, s7, s8, s9, s10, s11, .val (ti (f0 :: tl)), .val (.int (1 + u)), .val (plD (f0 :: tl) w ps), .val (ti (wOf (f0 :: tl))), s16, s17] g2 = .ok (.nx [.val (.scr ns), .val .m, s2, .val (.lst [.tup [.int a, .int b], .tup [.int a, .int b], .tup [.int a, .int b]]), .val (.tup [.int a, .int b]), .val (.int ((1 : Nat) : Int)), t6, .val (ti vs), s8, s9, s10, s11, .val (ti (f0 :: tl)), .val (.int (1 + u)), .val (plD (f0 :: tl) w ps), .val (ti (wOf (f0 :: tl))), s16, s17]) g3 := by
    have e11 : evE Bk.p.cs (den Bk.p 12) (.lc (.draw (.var 1) (.cst (.int 9))) (.var 17) (.seq (.var 12)) none) [.val (.scr ns), .val .m, s2, .val (.lst [.tup [.int a, .int b], .tup [.int a, .int b], .tup [.int a, .int b]]), .val (.tup [.int a, .int b]), .val (.int ((1 : Nat) : Int)), t6, s7, s8, s9, s10, s11, .val (ti (f0 :: tl)), .val (.int (1 + u)), .val (plD (f0 :: tl) w ps), .val (ti (wOf (f0 :: tl))), s16, s17] g2 = .ok (li vs) g3 := by
      have ei : evI Bk.p.cs (den Bk.p 12) (.seq (.var 12)) [.val (.scr ns), .val .m, s2, .val (.lst [.tup [.int a, .int b], .tup [.int a, .int b], .tup [.int a, .int b]]), .val (.tup [.int a, .int b]), .val (.int ((1 : Nat) : Int)), t6, s7, s8, s9, s10, s11, .val (ti (f0 :: tl)), .val (.int (1 + u)), .val (plD (f0 :: tl) w ps), .val (ti (wOf (f0 :: tl))), s16, s17] g2 = .ok ((f0 :: tl).map .int) g2 := by
        simp only [i_seq, x_var, List.getElem?_cons_zero, List.getElem?_cons_succ, r_ok, ti_sq, l_some]
      rw [x_lc0, ei, r_ok, e10]
      rfl
    show evS Bk.p.cs (den Bk.p 12) (.asg (.var 7) (.bi .tuple (.cons (.lc (.draw (.var 1) (.cst (.int 9))) (.var 17) (.seq (.var 12)) none) .nil))) _ _ = _
    rw [s_asg', x_bi, a_cons, e11]
    rfl
  have vl : vs.length = tl.length + 1 := by rw [n1]; simp
  have vb : ∀ v ∈ vs, 0 ≤ v ∧ v ≤ 8 := fun v hv => by have := n2 v hv; omega
  have at1 : ∀ x : Int, opD .add (ti vs.tail) (.tup [.int x]) = some (ti (vs.tail ++ [x])) := fun x => add_ti (r := [x]) (by simp; omega)
  obtain ⟨ws, hws, hbo, hw8⟩ : ∃ ws : List Int, ws = (if 0 < vs.sum then vs else vs.tail ++ [1]) ∧ BO (f0 :: tl) ws ∧ ∀ x ∈ ws, 0 ≤ x ∧ x ≤ 8 := by
    have tb : ∀ x ∈ vs.tail, 0 ≤ x ∧ x ≤ 8 := fun x hx => vb x (List.mem_of_mem_tail hx)
    refine ⟨_, rfl, ?_⟩
    split
    · rename_i hp
      exact ⟨⟨by simp, by simp; omega, h.f, by simpa using vl, fun x hx => by have := vb x hx; omega, by omega⟩, vb⟩
    · have s0 := (sum_bd (B := 8) (by decide) tb).1
      have hb : ∀ x ∈ vs.tail ++ [1], 0 ≤ x ∧ x ≤ 8 := fun x hx => by
        rcases List.mem_append.mp hx with hx | hx
        · exact tb x hx
        · simp at hx; omega
      exact ⟨⟨by simp, by simp; omega, h.f, by simp; omega, fun x hx => by have := hb x hx; omega, by rw [List.sum_append]; simp; omega⟩, hb⟩
  have wl := hbo.len
  have z11 : evS Bk.p.cs (den Bk.p 12) st_11 [.val (.scr ns), .val .m, s2, .val (.lst [.tup [.int a, .int b], .tup [.int a, .int b], .tup [.int a, .int b]]), .val (.tup [.int a, .int b]), .val (.int ((1 : Nat) : Int)), t6, .val (ti vs), s8, s9, s10, s11, .val (ti (f0 :: tl)), .val (.int (1 + u)), .val (plD (f0 :: tl) w ps), .val (ti (wOf (f0 :: tl))), s16, s17] g3 = .ok (.nx [.val (.scr ns), .val .m, s2, .val (.lst [.tup [.int a, .int b], .tup [.int a, .int b], .tup [.int a, .int b]]), .val (.tup [.int a, .int b]), .val (.int ((1 : Nat) : Int)), t6, .val (ti ws), s8, s9, s10, s11, .val (ti (f0 :: tl)), .val (.int (1 + u)), .val (plD (f0 :: tl) w ps), .val (ti (wOf (f0 :: tl))), s16, s17]) g3 := by
    show evS Bk.p.cs (den Bk.p 12) (.asg (.var 7) (.ife (.cmp .gt (.bi .sum (.cons (.var 7) .nil)) (.cst (.int 0))) (.var 7) (.bin .add (.sl (.var 7) (some (.cst (.int 1))) none) (.tup (.cons (.cst (.int 1)) .nil))))) _ _ = _
    rw [hws]
    by_cases hp : 0 < vs.sum
    · simp [sum_ti, hp, -bi_sum]
    · simp [sum_ti, hp, at1, -bi_sum]
  obtain ⟨a2, b2, _, hV, _, _, _, a20, b21, a2l, b2l⟩ := frac_of (a := mx (tops (f0 :: tl) ws)) (b := dot (f0 :: tl) ws) hbo.mxb.1 hbo.dt.1
  have hV : barD (f0 :: tl) ws = .tup [.int a2, .int b2] := hV
  have mxb := hbo.mxb
  have dtb := hbo.dt
  have eV2 : ∀ g, den Bk.p 12 391 [ti (f0 :: tl), ti ws] g = .ok (.tup [.int a2, .int b2]) g := fun g => by rw [value_i (p := Bk.p) 10 g hbo, hV]
  have eC2 : ∀ g, den Bk.p 12 100 [ti (f0 :: tl), ti ws] g = .ok (.tup [.int a2, .int b2]) g := fun g => by rw [check_ok (p := Bk.p) 8 g hbo hf, hV]
  have szV : Sz 4000 64 (.tup [.int a2, .int b2]) := (sz_frac ⟨by omega, by omega⟩ ⟨by omega, by omega⟩).mono (by decide) (by decide)
  have like4 : ∀ g, den Bk.p 12 17 [.tup [.int a2, .int b2], .tup [.int a2, .int b2]] g = .ok (.bl true) g := fun g => like_s lk17 11 (n := 4000) g szV (by decide)
  have z12 : evS Bk.p.cs (den Bk.p 12) st_12 [.val (.scr ns), .val .m, s2, .val (.lst [.tup [.int a, .int b], .tup [.int a, .int b], .tup [.int a, .int b]]), .val (.tup [.int a, .int b]), .val (.int ((1 : Nat) : Int)), t6, .val (ti ws), s8, s9, s10, s11, .val (ti (f0 :: tl)), .val (.int (1 + u)), .val (plD (f0 :: tl) w ps), .val (ti (wOf (f0 :: tl))), s16, s17] g3 = .ok (.nx [.val (.scr ns), .val .m, s2, .val (.lst [.tup [.int a, .int b], .tup [.int a, .int b], .tup [.int a, .int b]]), .val (.tup [.int a, .int b]), .val (.int ((1 : Nat) : Int)), t6, .val (ti ws), .val (.tup [.int a2, .int b2]), s9, s10, s11, .val (ti (f0 :: tl)), .val (.int (1 + u)), .val (plD (f0 :: tl) w ps), .val (ti (wOf (f0 :: tl))), s16, s17]) g3 := by
    exact z12_gen (eV2 g3)
  have z13 : evS Bk.p.cs (den Bk.p 12) st_13 [.val (.scr ns), .val .m, s2, .val (.lst [.tup [.int a, .int b], .tup [.int a, .int b], .tup [.int a, .int b]]), .val (.tup [.int a, .int b]), .val (.int ((1 : Nat) : Int)), t6, .val (ti ws), .val (.tup [.int a2, .int b2]), s9, s10, s11, .val (ti (f0 :: tl)), .val (.int (1 + u)), .val (plD (f0 :: tl) w ps), .val (ti (wOf (f0 :: tl))), s16, s17] g3 = .ok (.nx [.val (.scr ns), .val .m, s2, .val (.lst [.tup [.int a, .int b], .tup [.int a, .int b], .tup [.int a, .int b]]), .val (.tup [.int a, .int b]), .val (.int ((1 : Nat) : Int)), t6, .val (ti ws), .val (.tup [.int a2, .int b2]), s9, s10, s11, .val (ti (f0 :: tl)), .val (.int (1 + u)), .val (plD (f0 :: tl) w ps), .val (ti (wOf (f0 :: tl))), s16, s17]) g3 := by
    simp [st_13, eC2, like4]
  obtain ⟨rows, e14, hrows⟩ := parts_i (p := Bk.p) 11 g3 (m := (f0 :: tl).length) (w := 1 + u) (by simp; omega) (by omega)
  have hcut : ∀ d ∈ cutD rows none (some 210), d ∈ rows := fun d hd => List.mem_of_mem_drop (List.mem_of_mem_take hd)
  have loop := for_nx (F := fun x Γ g => (lift (setT (.var 9) x Γ) g).bind fun Γ' g => evB Bk.p.cs (den Bk.p 12) bd_14 Γ' g) (J := fun i Γ g' => g' = g3 ∧ ∃ y9 y16, Γ = [.val (.scr ns), .val .m, s2, .val (.lst [.tup [.int a, .int b], .tup [.int a, .int b], .tup [.int a, .int b]]), .val (.tup [.int a, .int b]), .val (.int ((1 : Nat) : Int)), t6, .val (ti ws), .val (.tup [.int a2, .int b2]), y9, s10, s11, .val (ti (f0 :: tl)), .val (.int (1 + u)), .val (plD (f0 :: tl) w ps), .val (ti (wOf (f0 :: tl))), y16, s17]) (cutD rows none (some 210)) [.val (.scr ns), .val .m, s2, .val (.lst [.tup [.int a, .int b], .tup [.int a, .int b], .tup [.int a, .int b]]), .val (.tup [.int a, .int b]), .val (.int ((1 : Nat) : Int)), t6, .val (ti ws), .val (.tup [.int a2, .int b2]), s9, s10, s11, .val (ti (f0 :: tl)), .val (.int (1 + u)), .val (plD (f0 :: tl) w ps), .val (ti (wOf (f0 :: tl))), s16, s17] g3 0 ⟨rfl, s9, s16, rfl⟩ (fun i x Γ g' hx hJ => by
    obtain ⟨rfl, y9, y16, rfl⟩ := hJ
    obtain ⟨qs, rfl, ql, qu⟩ := hrows x (hcut x (List.mem_of_getElem? hx))
    obtain ⟨q1, q2⟩ := upB_up qu
    have po2 : PO (f0 :: tl) (1 + u) qs := ⟨by simp, by simp; omega, h.f, by omega, by omega, ql, q2, up_ups q1, po.upf⟩
    obtain ⟨c, d, es, le1, c0, c1, d0, d1⟩ := near_le po2 h.bo eSh
    obtain ⟨c', d', es', le2, _, _, _, _⟩ := near_le po2 hbo hV
    rw [es] at es'
    injection es' with es'
    simp only [List.cons.injEq, D.int.injEq, and_true] at es'
    obtain ⟨rfl, rfl⟩ := es'
    have eL : ∀ g, den Bk.p 12 15 [.tup [ti (f0 :: tl), .int (1 + u), ti qs]] g = .ok (.tup [.int c, .int d]) g := fun g => by
      have := long_i (p := Bk.p) po2 7 g
      rw [es] at this
      exact this
    have sm : ∀ {z : Int}, 0 ≤ z → z ≤ 10 ^ 50 → Sm z := fun h1 h2 => sm_of (by omega) (by omega)
    have ea1 : ∀ g, den Bk.p 12 393 [.tup [.int c, .int d], .tup [.int a, .int b]] g = .ok (.bl false) g := fun g => by
      rw [above_i (p := Bk.p) 11 g (sm c0 (by omega)) (sm (by omega) (by omega)) (sm (by omega) (by omega)) (sm (by omega) (by omega))]
      have : ¬ (a * d < c * b) := by omega
      simp [this]
    have ea2 : ∀ g, den Bk.p 12 393 [.tup [.int c, .int d], .tup [.int a2, .int b2]] g = .ok (.bl false) g := fun g => by
      rw [above_i (p := Bk.p) 11 g (sm c0 (by omega)) (sm (by omega) (by omega)) (sm a20 (by omega)) (sm (by omega) (by omega))]
      have : ¬ (a2 * d < c * b2) := by omega
      simp [this]
    refine ⟨_, g', ?_, rfl, .val (ti qs), .val (.tup [.int c, .int d]), rfl⟩
    simp [bd_14, eL, ea1, ea2])
  obtain ⟨Γ', g', e15, rfl, y9, y16, rfl⟩ := loop
  have z14 : evS Bk.p.cs (den Bk.p 12) st_14 [.val (.scr ns), .val .m, s2, .val (.lst [.tup [.int a, .int b], .tup [.int a, .int b], .tup [.int a, .int b]]), .val (.tup [.int a, .int b]), .val (.int ((1 : Nat) : Int)), t6, .val (ti ws), .val (.tup [.int a2, .int b2]), s9, s10, s11, .val (ti (f0 :: tl)), .val (.int (1 + u)), .val (plD (f0 :: tl) w ps), .val (ti (wOf (f0 :: tl))), s16, s17] g' = .ok (.nx [.val (.scr ns), .val .m, s2, .val (.lst [.tup [.int a, .int b], .tup [.int a, .int b], .tup [.int a, .int b]]), .val (.tup [.int a, .int b]), .val (.int ((1 : Nat) : Int)), t6, .val (ti ws), .val (.tup [.int a2, .int b2]), y9, s10, s11, .val (ti (f0 :: tl)), .val (.int (1 + u)), .val (plD (f0 :: tl) w ps), .val (ti (wOf (f0 :: tl))), y16, s17]) g' := z14_gen (ti_len _) e14 e15
  have at2 : ∀ x : Int, opD .add (ti ws) (.tup [.int x]) = some (ti (ws ++ [x])) := fun x => add_ti (r := [x]) (by simp; omega)
  have at3 : ∀ x : Int, opD .add (ti ws.tail) (.tup [.int x]) = some (ti (ws.tail ++ [x])) := fun x => add_ti (r := [x]) (by simp; omega)
  have at4 : opD .add (ti ws.tail) (.tup [.bl true]) = some (.tup (ws.tail.map .int ++ [.bl true])) := by
    simp only [opD, ti, List.length_map]
    rw [if_pos (by simp; omega)]
  have rp := rep_ti (m := tl.length + 1) (by omega)
  have bl : biD .list [ti ws] = some (li ws) := rfl
  have tb : ∀ x ∈ ws.tail, 0 ≤ x ∧ x ≤ 8 := fun x hx => hw8 x (List.mem_of_mem_tail hx)
  have z15 : evS Bk.p.cs (den Bk.p 12) st_15 [.val (.scr ns), .val .m, s2, .val (.lst [.tup [.int a, .int b], .tup [.int a, .int b], .tup [.int a, .int b]]), .val (.tup [.int a, .int b]), .val (.int ((1 : Nat) : Int)), t6, .val (ti ws), .val (.tup [.int a2, .int b2]), y9, s10, s11, .val (ti (f0 :: tl)), .val (.int (1 + u)), .val (plD (f0 :: tl) w ps), .val (ti (wOf (f0 :: tl))), y16, s17] g' = .ok (.nx [.val (.scr ns), .val .m, s2, .val (.lst [.tup [.int a, .int b], .tup [.int a, .int b], .tup [.int a, .int b]]), .val (.tup [.int a, .int b]), .val (.int ((1 : Nat) : Int)), t6, .val (ti ws), .val (.tup [.int a2, .int b2]), y9, .val (.lst [.non, li ws, ti (ws ++ [1]), ti (List.replicate (tl.length + 1) 0), ti (ws.tail ++ [-1]), .int 5]), s11, .val (ti (f0 :: tl)), .val (.int (1 + u)), .val (plD (f0 :: tl) w ps), .val (ti (wOf (f0 :: tl))), y16, s17]) g' := by
    push_cast at rp
    simp [st_15, bl, at2, at3, rp]
  have wl2 : ws.length = tl.length + 1 := by simpa using wl
  have lt : ∀ x : Int, (ws.tail ++ [x]).length = (f0 :: tl).length := fun x => by simp; omega
  have isI' : ∀ (l : List Int) (x : Int), ∀ d ∈ (l ++ [x]).map D.int, (∃ i, d = D.int i) ∨ d = .bl true := fun l x d hd => by
    obtain ⟨i, _, rfl⟩ := List.mem_map.mp hd
    exact .inl ⟨i, rfl⟩
  have hodd : ∀ d ∈ ([.non, li ws, ti (ws ++ [1]), ti (List.replicate (tl.length + 1) 0), ti (ws.tail ++ [-1]), .int 5, .tup (ws.tail.map .int ++ [.bl true]), ti (ws.tail ++ [1000000000000000000000000000001])] : List D), ∀ g, den Bk.p 12 100 [ti (f0 :: tl), d] g = .ex 7 [.str "bar"] g := fun d hd g => by
    simp only [List.mem_cons, List.not_mem_nil, or_false] at hd
    rcases hd with rfl | rfl | rfl | rfl | rfl | rfl | rfl | rfl
    · exact bad_1 (p := Bk.p) 8 g hf rfl
    · exact bad_1 (p := Bk.p) 8 g hf rfl
    · exact bad_2 (p := Bk.p) 8 g hf (by simp; simp at wl; omega)
    · refine bad_4 (p := Bk.p) 8 g hf (by simp) (fun x hx => ?_) (by simp)
      rw [List.eq_of_mem_replicate hx]
      decide
    · exact bad_3 (p := Bk.p) 8 g hf (by simpa using lt (-1)) (isI' _ _) (d := .int (-1)) (by simp) (by decide)
    · exact bad_1 (p := Bk.p) 8 g hf rfl
    · refine bad_3 (p := Bk.p) 8 g hf (by simp; omega) (fun d hd => ?_) (d := .bl true) (by simp) rfl
      rcases List.mem_append.mp hd with hd | hd
      · obtain ⟨i, _, rfl⟩ := List.mem_map.mp hd
        exact .inl ⟨i, rfl⟩
      · simp at hd
        exact .inr hd
    · exact bad_3 (p := Bk.p) 8 g hf (by simpa using lt 1000000000000000000000000000001) (isI' _ _) (d := .int 1000000000000000000000000000001) (by simp) (by decide)
  have szB : Sz 100 64 (.tup [.str "paper", .str "bar"]) := ⟨by decide, by decide, by decide, by decide +kernel⟩
  have like5 : ∀ g, den Bk.p 12 17 [.tup [.str "paper", .str "bar"], .tup [.str "paper", .str "bar"]] g = .ok (.bl true) g := fun g => like_s lk17 11 (n := 100) g szB (by decide)
  have cau : ∀ g : G, caughtR tbSaid (.ex 7 [.str "bar"] g) = .ok (.tup [.str "paper", .str "bar"]) g := fun g => rfl
  have loop2 := for_nx (F := fun x Γ g => (lift (setT (.var 11) x Γ) g).bind fun Γ' g => evB Bk.p.cs (den Bk.p 12) bd_16 Γ' g) (J := fun i Γ g2 => g2 = g' ∧ ∃ y11, Γ = [.val (.scr ns), .val .m, s2, .val (.lst [.tup [.int a, .int b], .tup [.int a, .int b], .tup [.int a, .int b]]), .val (.tup [.int a, .int b]), .val (.int ((1 : Nat) : Int)), t6, .val (ti ws), .val (.tup [.int a2, .int b2]), y9, .val (.lst [.non, li ws, ti (ws ++ [1]), ti (List.replicate (tl.length + 1) 0), ti (ws.tail ++ [-1]), .int 5]), y11, .val (ti (f0 :: tl)), .val (.int (1 + u)), .val (plD (f0 :: tl) w ps), .val (ti (wOf (f0 :: tl))), y16, s17]) [.non, li ws, ti (ws ++ [1]), ti (List.replicate (tl.length + 1) 0), ti (ws.tail ++ [-1]), .int 5, .tup (ws.tail.map .int ++ [.bl true]), ti (ws.tail ++ [1000000000000000000000000000001])] [.val (.scr ns), .val .m, s2, .val (.lst [.tup [.int a, .int b], .tup [.int a, .int b], .tup [.int a, .int b]]), .val (.tup [.int a, .int b]), .val (.int ((1 : Nat) : Int)), t6, .val (ti ws), .val (.tup [.int a2, .int b2]), y9, .val (.lst [.non, li ws, ti (ws ++ [1]), ti (List.replicate (tl.length + 1) 0), ti (ws.tail ++ [-1]), .int 5]), s11, .val (ti (f0 :: tl)), .val (.int (1 + u)), .val (plD (f0 :: tl) w ps), .val (ti (wOf (f0 :: tl))), y16, s17] g' 0 ⟨rfl, s11, rfl⟩ (fun i x Γ g2 hx hJ => by
    obtain ⟨rfl, y11, rfl⟩ := hJ
    have ho := hodd x (List.mem_of_getElem? hx)
    refine ⟨_, g2, ?_, rfl, .val x, rfl⟩
    simp [bd_16, ho, cau, like5])
  obtain ⟨Γ2, g4, e16, rfl, y11, rfl⟩ := loop2
  have ap : opD .add (.lst [.non, li ws, ti (ws ++ [1]), ti (List.replicate (tl.length + 1) 0), ti (ws.tail ++ [-1]), .int 5]) (.lst [.tup (ws.tail.map .int ++ [.bl true]), ti (ws.tail ++ [1000000000000000000000000000001])]) = some (.lst [.non, li ws, ti (ws ++ [1]), ti (List.replicate (tl.length + 1) 0), ti (ws.tail ++ [-1]), .int 5, .tup (ws.tail.map .int ++ [.bl true]), ti (ws.tail ++ [1000000000000000000000000000001])]) := by
    simp only [opD]
    rw [if_pos (by simp)]
    rfl
  have z16 : evS Bk.p.cs (den Bk.p 12) st_16 [.val (.scr ns), .val .m, s2, .val (.lst [.tup [.int a, .int b], .tup [.int a, .int b], .tup [.int a, .int b]]), .val (.tup [.int a, .int b]), .val (.int ((1 : Nat) : Int)), t6, .val (ti ws), .val (.tup [.int a2, .int b2]), y9, .val (.lst [.non, li ws, ti (ws ++ [1]), ti (List.replicate (tl.length + 1) 0), ti (ws.tail ++ [-1]), .int 5]), s11, .val (ti (f0 :: tl)), .val (.int (1 + u)), .val (plD (f0 :: tl) w ps), .val (ti (wOf (f0 :: tl))), y16, s17] g4 = .ok (.nx [.val (.scr ns), .val .m, s2, .val (.lst [.tup [.int a, .int b], .tup [.int a, .int b], .tup [.int a, .int b]]), .val (.tup [.int a, .int b]), .val (.int ((1 : Nat) : Int)), t6, .val (ti ws), .val (.tup [.int a2, .int b2]), y9, .val (.lst [.non, li ws, ti (ws ++ [1]), ti (List.replicate (tl.length + 1) 0), ti (ws.tail ++ [-1]), .int 5]), y11, .val (ti (f0 :: tl)), .val (.int (1 + u)), .val (plD (f0 :: tl) w ps), .val (ti (wOf (f0 :: tl))), y16, s17]) g4 := z16_gen (ti_sl _) at4 (at3 _) ap e16
  rw [turn_eq]
  exact ⟨_, _, _, _, _, _, _, _, _, _, _, _, _, _, _, _, _, step_nx z0 (step_nx z1 (step_nx z2 (step_nx z3 (step_nx z4 (step_nx z5 (step_nx z6 (step_nx z7 (step_nx z8 (step_nx z9 (step_nx z10 (step_nx z11 (step_nx z12 (step_nx z13 (step_nx z14 (step_nx z15 (step_nx z16 (b_nil ..))))))))))))))))), by simp at hg3; omega⟩
def P84 (ns : List Int) (Γ : Gm) : Prop := ∃ s2 s3 s4 s5 s6 s7 s8 s9 s10 s11 s12 s13 s14 s15 s16 s17, Γ = [.val (.scr ns), .val .m, s2, s3, s4, s5, s6, s7, s8, s9, s10, s11, s12, s13, s14, s15, s16, s17]
theorem end84 (ns : List Int) (s2 s3 s4 s5 s6 s7 s8 s9 s10 s11 s12 s13 s14 s15 s16 s17 : Slot) (g : G) : evB Bk.p.cs (den Bk.p 12) b_end [.val (.scr ns), .val .m, s2, s3, s4, s5, s6, s7, s8, s9, s10, s11, s12, s13, s14, s15, s16, s17] g = .ok (.rt (.bl true)) g := by
  kernel_rfl
theorem law_eq : b_law = .cons (.for_ (.var 2) (.rng1 (.bin .add (.cst (.int 2)) (.bi .min2 (.cons (.cst (.int 5)) (.cons (.bi .len (.cons (.var 0) .nil)) .nil))))) b_turn) b_end := rfl
theorem law_ok (ns : List Int) (g : G) (hl : ns.length ≤ 63) (hs : g.spot = 0) : ∃ g', evB Bk.p.cs (den Bk.p 12) b_law (.val (.scr ns) :: .val .m :: List.replicate 16 .no) g = .ok (.rt (.bl true)) g' := by
  have bm : biD .min2 [.int 5, .int (ns.length : Int)] = some (.int (if (ns.length : Int) < 5 then (ns.length : Int) else 5)) := rfl
  have hr : (-1000000 : Int) ≤ 2 + (if (ns.length : Int) < 5 then (ns.length : Int) else 5) ∧ 2 + (if (ns.length : Int) < 5 then (ns.length : Int) else 5) ≤ 1000000 := by split <;> omega
  generalize hM : 2 + (if (ns.length : Int) < 5 then (ns.length : Int) else 5) = M at *
  have hM2 : M ≤ 10 := by rw [← hM]; split <;> omega
  obtain ⟨Γ1, g1, e1, ⟨s2, s3, s4, s5, s6, s7, s8, s9, s10, s11, s12, s13, s14, s15, s16, s17, rfl⟩, _⟩ := turns_g (f := fun x Γ g => (lift (setT (.var 2) x Γ) g).bind fun Γ' g => evB Bk.p.cs (den Bk.p 12) b_turn Γ' g) (P := P84 ns) (c := 20) (by decide) (fun x Γ g hP hsp => by
    obtain ⟨s2, s3, s4, s5, s6, s7, s8, s9, s10, s11, s12, s13, s14, s15, s16, s17, rfl⟩ := hP
    obtain ⟨t2, t3, t4, t5, t6, t7, t8, t9, t10, t11, t12, t13, t14, t15, t16, t17, g', e, hg⟩ := turn84 ns g (by omega) (.val x) s3 s4 s5 s6 s7 s8 s9 s10 s11 s12 s13 s14 s15 s16 s17
    refine ⟨_, g', ?_, ⟨t2, t3, t4, t5, t6, t7, t8, t9, t10, t11, t12, t13, t14, t15, t16, t17, rfl⟩, by omega⟩
    rw [← e]
    simp) (rngD 0 M.toNat) (.val (.scr ns) :: .val .m :: List.replicate 16 .no) g ⟨_, _, _, _, _, _, _, _, _, _, _, _, _, _, _, _, rfl⟩ (by rw [rngD_len]; omega)
  refine ⟨g1, ?_⟩
  rw [law_eq]
  have hi := rng1_i (cs := Bk.p.cs) (call := den Bk.p 12) (Γ := .val (.scr ns) :: .val .m :: List.replicate 16 .no) (g := g) (a := .bin .add (.cst (.int 2)) (.bi .min2 (.cons (.cst (.int 5)) (.cons (.bi .len (.cons (.var 0) .nil)) .nil)))) (i := M) (by simp [bm, hM]) hr
  exact step_nx (by rw [s_for', hi, r_ok]; exact e1) (end84 ns s2 s3 s4 s5 s6 s7 s8 s9 s10 s11 s12 s13 s14 s15 s16 s17 g1)
end Pk

set_option Elab.async false
set_option linter.all false
set_option maxRecDepth 100000
set_option maxHeartbeats 4000000
/-! sorted(t), t a tuple of ints. -/
namespace L2
open PySem PySem.Spec PyProof.Rows
section
variable {prog : Program} {w : World} {A : Around} {E : Value → Shared → Prop} {s : Shared}
theorem col_tup {t : Addr} {its : List Value} {Q : List Value → Shared → Prop} (ht : s.heap.IsTuple t its.toArray) (hz : its.length ≤ sizeLine)
    (q : Q its { s with heap := (s.heap.push (seqObj "list" #[] 0)).update s.heap.objs.size (Obj.mapSeq (· ++ its.toArray)) }) : wpAny (model prog w) A (collect (.ref t)) Q E s := by
  obtain ⟨ob, h1, h2, k, h3⟩ := id ht
  have nw : (s.heap.push (seqObj "list" #[] 0)).get? s.heap.objs.size = some (seqObj "list" #[] 0) := Heap.get?_push_size _ rfl
  have old : (s.heap.push (seqObj "list" #[] 0)).get? t = some ob := Heap.get?_push_of_some _ h1
  have e0 : ((#[] : Array Value) ++ its.toArray).toList = its := by simp
  unfold collect
  refine wpAny_bind (wpAny_runValue (codeAny_builtin entry_proto_collect' ?_))
  refine wpAny_bind (m := newList []) (wpAny_newList (wpAny_pure ⟨Code.quiet_builtin _ (by decide +kernel), codeAny_builtin entry_list_iadd' ?_⟩))
  show wpAny _ _ (Builtin.List.listExtendWith (.ref s.heap.objs.size) (.ref t) (.ref s.heap.objs.size)) _ _ _
  unfold Builtin.List.listExtendWith
  refine wpAny_bind (wpAny_typeOf (T := "tuple") ⟨ob, old, h2⟩ ?_)
  have hb : (Builtin.List.listSameRef (.ref s.heap.objs.size) (.ref t) || (Value.type "tuple" == Value.type "list") || (Value.type "tuple" == Value.type "tuple")) = true := by
    have : (Value.type "tuple" == Value.type "tuple") = true := rfl
    rw [this, Bool.or_true]
  rw [if_pos hb]
  refine wpAny_bind (listItems_at old h3 (wpAny_bind (listItems_at nw rfl ?_)))
  have hne : ¬ ((!(#[] : Array Value).isEmpty && Builtin.List.listTooLong ((#[] : Array Value).size + its.toArray.size)) = true) := by simp
  rw [if_neg hne]
  have z2 : ((#[] : Array Value) ++ its.toArray).size ≤ sizeLine + 1 := by simp; omega
  refine wpAny_bind (listUpdate_at (f := (· ++ its.toArray)) nw rfl (wpAny_pure ?_) (Nat.zero_le _) z2)
  refine wpAny_bind (m := load s.heap.objs.size) (wpAny_load (get?_update_seq nw _) ?_)
  dsimp only
  rw [e0]
  exact wpAny_pure q
theorem srt_tup {t : Addr} {its : List Value} {lt : Value → Value → Bool} {Q : Value → Shared → Prop} (O : SrtO.Swo lt) (ht : s.heap.IsTuple t its.toArray) (hz : its.length ≤ sizeLine)
    (hS : 2 ≤ its.length → ∀ (h₁ : Heap) (a : Addr), h₁.get? a = some (seqObj "list" its.toArray 0) → (∀ b o, s.heap.get? b = some o → b ≠ a ∧ h₁.get? b = some o) → SrtO.SortableO prog w A.in1.in1 { s with heap := h₁ } a its lt)
    (q : ∀ out : List Value, SrtO.Srtd lt out → SrtO.Stb lt out its → Q (.ref (s.heap.objs.size + 1)) { s with heap := sortedAll s.heap its out.toArray }) : wpAny (model prog w) A (call (.builtin "sorted") [.ref t]) Q E s := by
  refine Calls.call_function_entry kind_sorted plain_sorted entry_sorted (args_sorted1 _) ?_
  unfold Builtin.«sorted»
  refine wpAny_bind (m := checkCount "sorted" 1 1 _) (wpAny_pure (wpAny_bind (col_tup ht hz (wpAny_bind (wpAny_newList ?_ hz)))))
  generalize eH : (s.heap.push (seqObj "list" #[] 0)).update s.heap.objs.size (Obj.mapSeq (· ++ its.toArray)) = H1
  have e1 : H1.objs.size = s.heap.objs.size + 1 := by rw [← eH, Heap.size_update, size_push']
  have stay : ∀ b o, s.heap.get? b = some o → H1.get? b = some o := fun b o hb => by
    rw [← eH, Heap.get?_update_ne _ _ _ _ (Nat.ne_of_lt (Heap.lt_size hb))]
    exact Heap.get?_push_of_some _ hb
  have nw : (H1.push (seqObj "list" its.toArray 0)).get? (s.heap.objs.size + 1) = some (seqObj "list" its.toArray 0) := by
    rw [← e1]; exact Heap.get?_push_size _ rfl
  have keep : ∀ b o, s.heap.get? b = some o → b ≠ s.heap.objs.size + 1 ∧ (H1.push (seqObj "list" its.toArray 0)).get? b = some o := fun b o hb =>
    ⟨Nat.ne_of_lt (Nat.lt_succ_of_lt (Heap.lt_size hb)), Heap.get?_push_of_some _ (stay b o hb)⟩
  show wpAny _ _ _ _ _ { s with heap := H1.push (seqObj "list" its.toArray 0) }
  rw [e1]
  refine wpAny_bind (wpAny_holding (wpAny_call_entry slot_list_sort ⟨_, nw, rfl⟩ entry_list_sort (SrtO.list_sort_ord O nw hz (fun h2 => hS h2 _ _ nw keep) fun out a1 a2 => ⟨_, rfl, wpAny_pure ⟨_, rfl, ?_⟩⟩) (args_list_sort _)))
  have := q out a1 a2
  unfold sortedAll at this
  rw [eH] at this
  exact this
end
def rSortT (K : PySem.W.Frag) : List V → Hp → VK → Prop := fun vs H Q => ∃ (a : Addr) (ns : List Int), vs = [V.ref a] ∧ SqT K H a (ns.map V.int) ∧
  ∀ (ns' : List Int) (p : Addr), ns'.Perm ns → ns'.Pairwise (· ≤ ·) → H p = none → Q (.ref p) (upd H p (.lst (ns'.map V.int)))
section
variable {X : Cx}
theorem cr_sortT : CallR X (.builtin "sorted") (rSortT X.K) := by
  intro pins s σ H vs us Q I r h
  obtain ⟨a, ns, rfl, ht, q⟩ := h
  obtain ⟨its, rv, hl, hz⟩ := I.tuple ht
  have hi := rv.ints
  rw [Vals.ref1 r]
  refine srt_tup SrtO.swo_int hl (rv.length ▸ hz) (fun h2 h₁ a' _ _ => SrtO.ints_sortable hi h2) fun out a1 a2 => ?_
  obtain ⟨k1, k2, k3⟩ := SrtO.ints_out hi a1 a2
  obtain ⟨ep, he⟩ := PyProof.Rows.sortedAll_at s.heap its out.toArray
  have len : ((out.map SrtO.iv).map V.int).length ≤ sizeLine := by
    have := hz
    rw [List.length_map] at this ⊢
    rwa [k2.length_eq]
  refine ⟨.ref _, upd H (s.heap.objs.size + 1) (.lst ((out.map SrtO.iv).map V.int)), ?_, rfl, q _ _ k2 k3 (I.hok.fresh (Nat.le_succ _))⟩
  exact I.laid (t' := s.toks) (fun _ _ => PyProof.Rows.sortedAll_old) (Nat.le_succ _) ⟨len, out, ep, vals_of_ints k1, he⟩
end
end L2

set_option Elab.async false
set_option linter.all false
set_option maxRecDepth 100000
set_option maxHeartbeats 1000000
/-! Dicts whose keys are tuples of any depth: over the abstract heap. -/
namespace Bk
open PySem L2
open Evl (Ex ex_l ex_t)
section
variable {X : Cx} {W : Wd} {pins : List (Addr × Obj)} {σ : L2.St} {Hk H : Hp} {s : Shared}
mutual
theorem rp_key (I : L2.Inv X pins σ H s) (ex : Ex Hk H) : ∀ {d : D} {v : V} {u : Value}, Rp X.K W Hk d v → okP d = true → RelV v u → NestedIs s.heap (keyD d) u
  | .non, v, u, r, _, ru => by
    rw [show v = .non from r] at ru
    rw [show u = Value.none from ru]
    exact .none
  | .bl b, v, u, r, _, ru => by
    rw [show v = .bl b from r] at ru
    rw [show u = Value.bool b from ru]
    exact .bool rfl
  | .int i, v, u, r, _, ru => by
    rw [show v = .int i from r] at ru
    obtain ⟨t, e⟩ := (show ∃ t, u = Value.int i t from ru)
    subst e
    exact .int i t
  | .str x, v, u, r, _, ru => by
    rw [show v = .str x from r] at ru
    obtain ⟨t, e⟩ := (show ∃ t, u = Value.str x t from ru)
    subst e
    exact .text x t
  | .tup ds, v, u, r, ok, ru => by
    obtain ⟨a, xs, e1, h1, h2⟩ := r
    subst e1
    rw [show u = Value.ref a from ru]
    obtain ⟨its, rv, ⟨o, q1, q2, n, q3⟩, hz⟩ := I.tuple (ex_t ex h1)
    exact .tup q1 q2 q3 (rp_keys I ex h2 ok rv)
  | .lst _, _, _, _, ok, _ => by cases ok
  | .m, _, _, _, ok, _ => by cases ok
  | .scr _, _, _, _, ok, _ => by cases ok
  | .dct _ _, _, _, _, ok, _ => by cases ok
theorem rp_keys (I : L2.Inv X pins σ H s) (ex : Ex Hk H) : ∀ {ds : List D} {vs : List V} {us : List Value}, RpL X.K W Hk ds vs → okPs ds = true → Vals vs us → NestedAll s.heap (keysD ds) us
  | [], vs, us, r, _, ru => by
    rw [show vs = [] from r] at ru
    cases ru
    exact .nil
  | d :: ds, vs, us, r, ok, ru => by
    obtain ⟨y, ys, e, r1, r2⟩ := r
    subst e
    simp only [okPs, Bool.and_eq_true] at ok
    cases ru with
    | cons q1 q2 => exact .cons (rp_key I ex r1 ok.1 q1) (rp_keys I ex r2 ok.2 q2)
end
theorem okK_P {d : D} (h : okK d = true) : okP d = true ∧ (keyD d).depth ≤ 8 := by
  cases d <;> (try (cases h; done))
  simp only [okK, Bool.and_eq_true, decide_eq_true_eq] at h
  exact h
/-- a key, as the heap's kind has it -/
theorem rp_is (I : L2.Inv X pins σ H s) (ex : Ex Hk H) {d : D} {v : V} {u : Value} (r : Rp X.K W Hk d v) (ok : okK d = true) (ru : RelV v u) : ∃ a, v = .ref a ∧ u = .ref a ∧ (nestedKind X.prog X.w).is s.heap (keyD d) a := by
  obtain ⟨o1, o2⟩ := okK_P ok
  have k := rp_key I ex r o1 ru
  cases d <;> (try (cases ok; done))
  obtain ⟨a, xs, e1, h1, h2⟩ := id r
  subst e1
  have e : u = Value.ref a := ru
  subst e
  exact ⟨a, rfl, rfl, k, o2⟩
abbrev Trip (xs : List (NestedKey × Addr × V)) (ys : List (NestedKey × Addr × Value)) : Prop :=
  Paired (fun (p : NestedKey × Addr × V) (q : NestedKey × Addr × Value) => p.1 = q.1 ∧ p.2.1 = q.2.1 ∧ RelV p.2.2 q.2.2) xs ys
theorem keys_is (I : L2.Inv X pins σ H s) (ex : Ex Hk H) : ∀ {ks : List D} {xs : List (NestedKey × Addr × V)} {ys : List (NestedKey × Addr × Value)}, Trip xs ys → xs.map (·.1) = keysD ks → ks.all okK = true →
    RpL X.K W Hk ks (xs.map fun x => V.ref x.2.1) → ∀ y ∈ ys, (nestedKind X.prog X.w).is s.heap y.1 y.2.1
  | [], xs, ys, t, e, _, _ => by
    cases t with
    | nil => intro y hy; cases hy
    | cons q t => simp [keysD] at e
  | k :: ks, xs, ys, t, e, ok, r => by
    cases t with
    | nil => intro y hy; cases hy
    | @cons x y xs ys q t =>
      simp only [List.map_cons, keysD, List.cons.injEq] at e
      simp only [List.all_cons, Bool.and_eq_true] at ok
      obtain ⟨v0, vs0, e0, r1, r2⟩ := r
      simp only [List.map_cons, List.cons.injEq] at e0
      obtain ⟨e1, e2⟩ := e0
      intro z hz
      rcases List.mem_cons.mp hz with e3 | hz
      · subst e3
        rw [← e1] at r1
        obtain ⟨a, q1, q2, q3⟩ := rp_is (u := .ref x.2.1) I ex r1 ok.1 rfl
        cases q1
        rw [← q.1, ← q.2.1, e.1]
        exact q3
      · rw [← e2] at r2
        exact keys_is I ex t e.2 ok.2 r2 z hz
/-- the dict in the machine's heap -/
theorem dict_of (I : L2.Inv X pins σ H s) (ex : Ex Hk H) (hw : W.w = X.w) {p : Addr} {o : Obj} {xs : List (NestedKey × Addr × V)} {ks : List D} (h1 : H p = some (ObX p o)) (h3 : DcIs W.w o xs) (h4 : xs.map (·.1) = keysD ks) (h5 : ks.all okK = true)
    (h6 : RpL X.K W Hk ks (xs.map fun x => V.ref x.2.1)) : ∃ ys, Trip xs ys ∧ s.heap.DictOfH (nestedKind X.prog X.w) p ys := by
  obtain ⟨ys, t, q1, q2, es, ep, q3, q4⟩ := h3
  refine ⟨ys, t, o, es, ep, obX_at I.hok h1, q1, q3, ?_, keys_is I ex t h4 h5 h6, q2⟩
  rw [q4, hw]
  rfl
theorem atKey_cons {y : NestedKey × Addr × Value} {ys : List (NestedKey × Addr × Value)} {k : NestedKey} : atKey (y :: ys) k = if y.1 = k then some y.2 else atKey ys k := by
  by_cases e : y.1 = k
  · simp [atKey, e]
  · simp [atKey, List.find?_cons, e]
/-- what is found -/
theorem get_rel {K : PySem.W.Frag} (k : NestedKey) : ∀ {ks vs : List D} {xs : List (NestedKey × Addr × V)} {ys : List (NestedKey × Addr × Value)}, Trip xs ys → xs.map (·.1) = keysD ks → RpL K W Hk vs (xs.map fun x => x.2.2) →
    (∃ d v u a, getK k ks vs = some d ∧ atKey ys k = some (a, u) ∧ RelV v u ∧ Rp K W Hk d v) ∨ (getK k ks vs = none ∧ atKey ys k = none)
  | [], vs, xs, ys, t, e, r => by
    cases t with
    | nil => exact .inr ⟨by simp [getK], rfl⟩
    | cons q t => simp [keysD] at e
  | a :: ks, vs, xs, ys, t, e, r => by
    cases t with
    | nil => simp [keysD] at e
    | @cons x y xs ys q t =>
      simp only [List.map_cons, keysD, List.cons.injEq] at e
      cases vs with
      | nil => exact absurd (show (_ :: _ : List V) = [] from r) (by simp)
      | cons w vs =>
        obtain ⟨v0, vs0, e0, r1, r2⟩ := r
        simp only [List.map_cons, List.cons.injEq] at e0
        obtain ⟨e1, e2⟩ := e0
        rw [atKey_cons]
        simp only [getK]
        by_cases hk : keyD a = k
        · rw [if_pos hk, if_pos (by rw [← q.1, e.1]; exact hk)]
          exact .inl ⟨w, x.2.2, y.2.2, y.2.1, rfl, rfl, q.2.2, by rw [e1]; exact r1⟩
        · rw [if_neg hk, if_neg (by rw [← q.1, e.1]; exact hk)]
          rw [← e2] at r2
          exact get_rel k t e.2 r2
theorem get_isSome {K : PySem.W.Frag} (k : NestedKey) {ks vs : List D} {xs : List (NestedKey × Addr × V)} {ys : List (NestedKey × Addr × Value)} (t : Trip xs ys) (e : xs.map (·.1) = keysD ks) (r : RpL K W Hk vs (xs.map fun x => x.2.2)) : (atKey ys k).isSome = (getK k ks vs).isSome := by
  rcases get_rel k t e r with ⟨d, v, u, a, h1, h2, _, _⟩ | ⟨h1, h2⟩ <;> rw [h1, h2] <;> rfl
/-- what is stored -/
def putX (k : NestedKey) (v : V) (x : NestedKey × Addr × V) : NestedKey × Addr × V := if x.1 = k then (x.1, x.2.1, v) else x
theorem putX_rel {k : NestedKey} {v : V} {u : Value} (ru : RelV v u) : ∀ {xs : List (NestedKey × Addr × V)} {ys : List (NestedKey × Addr × Value)}, Trip xs ys → Trip (xs.map (putX k v)) (ys.map (putAt k u))
  | _, _, .nil => .nil
  | _, _, @Paired.cons _ _ _ x y xs ys q t => by
    refine .cons ?_ (putX_rel ru t)
    unfold putX putAt
    by_cases h : x.1 = k
    · rw [if_pos h, if_pos (by rw [← q.1]; exact h)]
      exact ⟨q.1, q.2.1, ru⟩
    · rw [if_neg h, if_neg (by rw [← q.1]; exact h)]
      exact q
theorem putX_keys (k : NestedKey) (v : V) (xs : List (NestedKey × Addr × V)) : (xs.map (putX k v)).map (·.1) = xs.map (·.1) := by
  rw [List.map_map]
  refine List.map_congr_left fun x _ => ?_
  simp only [Function.comp_def, putX]
  split <;> rfl
theorem putX_refs (k : NestedKey) (v : V) (xs : List (NestedKey × Addr × V)) : ((xs.map (putX k v)).map fun x => V.ref x.2.1) = xs.map fun x => V.ref x.2.1 := by
  rw [List.map_map]
  refine List.map_congr_left fun x _ => ?_
  simp only [Function.comp_def, putX]
  split <;> rfl
theorem putX_none {k : NestedKey} {v : V} : ∀ {xs : List (NestedKey × Addr × V)}, k ∉ xs.map (·.1) → xs.map (putX k v) = xs
  | [], _ => rfl
  | x :: xs, h => by
    simp only [List.map_cons, List.mem_cons, not_or] at h
    rw [List.map_cons, putX_none h.2, putX, if_neg (fun e => h.1 e.symm)]
theorem setK_rel {K : PySem.W.Frag} {k : NestedKey} {y : D} {v : V} (ry : Rp K W Hk y v) : ∀ {ks vs : List D} {xs : List (NestedKey × Addr × V)}, xs.map (·.1) = keysD ks → (xs.map (·.1)).Nodup → RpL K W Hk vs (xs.map fun x => x.2.2) →
    RpL K W Hk (setK k y ks vs) ((xs.map (putX k v)).map fun x => x.2.2)
  | [], vs, [], _, _, r => by
    cases vs with
    | nil => exact rfl
    | cons w vs => exact absurd r (by rintro ⟨_, _, e, _⟩; simp at e)
  | [], _, x :: xs, e, _, _ => by simp [keysD] at e
  | a :: ks, _, [], e, _, _ => by simp [keysD] at e
  | a :: ks, vs, x :: xs, e, nd, r => by
    simp only [List.map_cons, keysD, List.cons.injEq] at e
    cases vs with
    | nil => exact absurd (show (_ :: _ : List V) = [] from r) (by simp)
    | cons w vs =>
      obtain ⟨v0, vs0, e0, r1, r2⟩ := r
      simp only [List.map_cons, List.cons.injEq] at e0
      obtain ⟨e1, e2⟩ := e0
      simp only [List.map_cons, List.nodup_cons] at nd
      simp only [setK]
      by_cases hk : keyD a = k
      · have hx : x.1 = k := by rw [e.1]; exact hk
        rw [if_pos hk, List.map_cons, List.map_cons, putX_none (by rw [← hx]; exact nd.1)]
        refine ⟨v, _, ?_, ry, by rw [← e2] at r2; exact r2⟩
        rw [putX, if_pos hx]
      · have hx : ¬ x.1 = k := by rw [e.1]; exact hk
        rw [if_neg hk, List.map_cons, List.map_cons]
        refine ⟨x.2.2, _, ?_, by rw [e1]; exact r1, setK_rel ry e.2 nd.2 (by rw [e2]; exact r2)⟩
        rw [putX, if_neg hx]
theorem keysD_append : ∀ (as bs : List D), keysD (as ++ bs) = keysD as ++ keysD bs
  | [], _ => rfl
  | a :: as, bs => by simp only [List.cons_append, keysD, keysD_append as bs]
theorem trip_len {xs : List (NestedKey × Addr × V)} {ys : List (NestedKey × Addr × Value)} (t : Trip xs ys) : xs.length = ys.length := Paired.length t
theorem trip_keys : ∀ {xs : List (NestedKey × Addr × V)} {ys : List (NestedKey × Addr × Value)}, Trip xs ys → ys.map (·.1) = xs.map (·.1)
  | _, _, .nil => rfl
  | _, _, .cons q t => by rw [List.map_cons, List.map_cons, trip_keys t, q.1]
theorem trip_snoc {x : NestedKey × Addr × V} {y : NestedKey × Addr × Value} (q : x.1 = y.1 ∧ x.2.1 = y.2.1 ∧ RelV x.2.2 y.2.2) : ∀ {xs : List (NestedKey × Addr × V)} {ys : List (NestedKey × Addr × Value)}, Trip xs ys → Trip (xs ++ [x]) (ys ++ [y])
  | _, _, .nil => .cons q .nil
  | _, _, .cons q' t => .cons q' (trip_snoc q t)
theorem keysD_len : ∀ (ks : List D), (keysD ks).length = ks.length
  | [] => rfl
  | k :: ks => by simp only [keysD, List.length_cons, keysD_len ks]
/-- d[k] = y: what stands there behind it -/
theorem put_ob (hw : W.w = X.w) {p a : Addr} {xs : List (NestedKey × Addr × V)} {ys : List (NestedKey × Addr × Value)} {ks vs : List D} {k y : D} {v : V} {u : Value} {h' : Heap} (hp : (p == sysModules) = false) (t : Trip xs ys) (e : xs.map (·.1) = keysD ks) (ok : ks.all okK = true)
    (r1 : RpL X.K W Hk ks (xs.map fun x => V.ref x.2.1)) (r2 : RpL X.K W Hk vs (xs.map fun x => x.2.2)) (okk : okK k = true) (rk : Rp X.K W Hk k (.ref a)) (ry : Rp X.K W Hk y v) (ru : RelV v u) (nd : (ys.map (·.1)).Nodup)
    (hd : h'.DictOfH (nestedKind X.prog X.w) p (storedH ys (keyD k) a u)) : ∃ o, h'.get? p = some o ∧ Ob X.K W Hk (putD ks vs k y) p (ObX p o) := by
  obtain ⟨o, es, ep, q1, q2, q3, q4, _, q5⟩ := hd
  have nd' : (xs.map (·.1)).Nodup := by rw [← trip_keys t]; exact nd
  refine ⟨o, q1, ?_⟩
  unfold putD
  rcases get_rel (keyD k) t e r2 with ⟨d, v', u', a', g1, g2, _, _⟩ | ⟨g1, g2⟩
  · rw [g1]
    rw [storedH_old g2] at q4 q5
    refine ⟨o, xs.map (putX (keyD k) v), rfl, hp, ⟨_, putX_rel ru t, q2, q5, es, ep, q3, ?_⟩, by rw [putX_keys]; exact e, ok, by rw [putX_refs]; exact r1, setK_rel ry e nd' r2⟩
    rw [q4, hw]
    rfl
  · rw [g1]
    rw [storedH_new g2] at q4 q5
    refine ⟨o, xs ++ [(keyD k, a, v)], rfl, hp, ⟨_, trip_snoc ⟨rfl, rfl, ru⟩ t, q2, q5, es, ep, q3, ?_⟩, ?_, ?_, ?_, ?_⟩
    · rw [q4, hw]
      rfl
    · rw [List.map_append, keysD_append, e]; rfl
    · rw [List.all_append, ok]; simp [okk]
    · rw [List.map_append]; exact r1.append (.cons rk .nil)
    · rw [List.map_append]; exact r2.append (.cons ry .nil)
/-! ### the operations -/
/-- d stands at p, read -/
def DAt (K : PySem.W.Frag) (W : Wd) (Hk H : Hp) (p : Addr) (ks vs : List D) : Prop := ∃ (o : Obj) (xs : List (NestedKey × Addr × V)), H p = some (ObX p o) ∧ (p == sysModules) = false ∧ DcIs W.w o xs ∧ xs.map (·.1) = keysD ks ∧ ks.all okK = true ∧
  RpL K W Hk ks (xs.map fun x => V.ref x.2.1) ∧ RpL K W Hk vs (xs.map fun x => x.2.2)
variable {E : Value → Shared → Prop} {A : Around}
theorem DAt.typ {p : Addr} {ks vs : List D} (h : DAt X.K W Hk H p ks vs) (I : L2.Inv X pins σ H s) : s.TypeIs (.ref p) "dict" := by
  obtain ⟨o, xs, h1, h2, ⟨ys, t, q1, _⟩, _⟩ := h
  exact ⟨o, obX_at I.hok h1, q1.1⟩
theorem n_in {p : Addr} {ks vs : List D} {k : D} {v : V} {u : Value} {Q : Value → Shared → Prop} (hu : A.units + 64 < cLine) (I : L2.Inv X pins σ H s) (ex : Ex Hk H) (hw : W.w = X.w) (h : DAt X.K W Hk H p ks vs) (rk : Rp X.K W Hk k v) (ok : okK k = true) (ru : RelV v u)
    (q : ∀ s', L2.Inv X pins σ H s' → Q (.bool (getK (keyD k) ks vs).isSome) s') : wpAny (model X.prog X.w) A (compareOp .In u (.ref p)) Q E s := by
  obtain ⟨o, xs, h1, h2, h3, h4, h5, h6, h7⟩ := h
  obtain ⟨ys, t, dd⟩ := dict_of I ex hw h1 h3 h4 h5 h6
  obtain ⟨a, e1, e2, hk⟩ := rp_is I ex rk ok ru
  subst e2
  refine wpAny_in_heap (knd := nestedKind X.prog X.w) (show A.in1.units + 8 < cLine by rw [Around.in1_units]; omega) hk h2 dd ?_
  rw [get_isSome (keyD k) t h4 h7]
  exact q _ (I.tok _)
theorem n_notIn {p : Addr} {ks vs : List D} {k : D} {v : V} {u : Value} {Q : Value → Shared → Prop} (hu : A.units + 64 < cLine) (I : L2.Inv X pins σ H s) (ex : Ex Hk H) (hw : W.w = X.w) (h : DAt X.K W Hk H p ks vs) (rk : Rp X.K W Hk k v) (ok : okK k = true) (ru : RelV v u)
    (q : ∀ s', L2.Inv X pins σ H s' → Q (.bool (!(getK (keyD k) ks vs).isSome)) s') : wpAny (model X.prog X.w) A (compareOp .NotIn u (.ref p)) Q E s := by
  obtain ⟨o, xs, h1, h2, h3, h4, h5, h6, h7⟩ := h
  obtain ⟨ys, t, dd⟩ := dict_of I ex hw h1 h3 h4 h5 h6
  obtain ⟨a, e1, e2, hk⟩ := rp_is I ex rk ok ru
  subst e2
  refine notIn_keyed (knd := nestedKind X.prog X.w) (show A.in1.units + 8 < cLine by rw [Around.in1_units]; omega) hk h2 ⟨ys, dd, rfl⟩ ?_
  rw [valueAt_pairsH, Option.isSome_map, get_isSome (keyD k) t h4 h7]
  exact q _ (I.tok _)
theorem n_get {p : Addr} {ks vs : List D} {k d : D} {v : V} {u : Value} {Q : Value → Shared → Prop} (hu : A.units + 64 < cLine) (I : L2.Inv X pins σ H s) (ex : Ex Hk H) (hw : W.w = X.w) (h : DAt X.K W Hk H p ks vs) (rk : Rp X.K W Hk k v) (ok : okK k = true) (ru : RelV v u) (hg : getK (keyD k) ks vs = some d)
    (q : ∀ v' w' s', L2.Inv X pins σ H s' → Rp X.K W Hk d v' → RelV v' w' → Q w' s') : wpAny (model X.prog X.w) A (getItem (.ref p) u) Q E s := by
  obtain ⟨o, xs, h1, h2, h3, h4, h5, h6, h7⟩ := h
  obtain ⟨ys, t, dd⟩ := dict_of I ex hw h1 h3 h4 h5 h6
  obtain ⟨a, e1, e2, hk⟩ := rp_is I ex rk ok ru
  subst e2
  rcases get_rel (keyD k) t h4 h7 with ⟨d', v', u', a', g1, g2, g3, g4⟩ | ⟨g1, g2⟩
  · rw [hg] at g1
    cases g1
    exact wpAny_getItem_heap (knd := nestedKind X.prog X.w) (show A.in1.units + 8 < cLine by rw [Around.in1_units]; omega) hk dd g2 (q v' u' _ (I.tok _) g4 g3)
  · rw [hg] at g1; cases g1
theorem n_set {p : Addr} {ks vs : List D} {k y : D} {v z : V} {u r : Value} {Q : Unit → Shared → Prop} (hu : A.units + 64 < cLine) (I : L2.Inv X pins σ H s) (ex : Ex Hk H) (hw : W.w = X.w) (h : DAt X.K W Hk H p ks vs) (rk : Rp X.K W Hk k v) (ok : okK k = true) (ru : RelV v u) (ry : Rp X.K W Hk y z) (rz : RelV z r) (hl : ks.length < 1000000)
    (q : ∀ ob s', Ob X.K W Hk (putD ks vs k y) p ob → L2.Inv X pins σ (upd H p ob) s' → Q () s') : wpAny (model X.prog X.w) A (setItem (.ref p) u r) Q E s := by
  obtain ⟨o, xs, h1, h2, h3, h4, h5, h6, h7⟩ := h
  obtain ⟨ys, t, dd⟩ := dict_of I ex hw h1 h3 h4 h5 h6
  obtain ⟨a, e1, e2, hk⟩ := rp_is I ex rk ok ru
  subst e2 e1
  obtain ⟨_, _, _, _, _, _, _, _, nd⟩ := id dd
  have hl' : ys.length ≤ sizeLine := by
    rw [← trip_len t, ← List.length_map (f := fun x : NestedKey × Addr × V => x.1), h4, keysD_len, sizeLine_eq]; omega
  refine wpAny_setItem_heap (knd := nestedKind X.prog X.w) (hsz := hl') (show A.in1.units + 8 < cLine by rw [Around.in1_units]; omega) hk dd fun h' dd' hs => ?_
  obtain ⟨o', g1, g2⟩ := put_ob hw h2 t h4 h5 h6 h7 ok rk ry rz nd dd'
  exact q _ _ g2 (d_write I (by rw [h1]; exact True.intro) hs ⟨o', g1⟩ (obX_ok g1))
end
end Bk

set_option Elab.async false
set_option linter.all false
set_option maxRecDepth 100000
set_option maxHeartbeats 2000000
/-! Dicts walked, list(d), sorted(list of data), list(range). -/
namespace Bk
open PySem L2
open Evl (Ex ex_l ex_t)
theorem trip_get : ∀ {xs : List (NestedKey × Addr × V)} {ys : List (NestedKey × Addr × Value)} {i : Nat} {x : NestedKey × Addr × V}, Trip xs ys → xs[i]? = some x → ∃ y, ys[i]? = some y ∧ x.1 = y.1 ∧ x.2.1 = y.2.1 ∧ RelV x.2.2 y.2.2
  | _, _, _, _, .nil, e => by simp at e
  | _, _, 0, _, .cons q _, e => by
    simp at e
    subst e
    exact ⟨_, rfl, q⟩
  | _, _, i + 1, x, .cons _ t, e => by
    obtain ⟨y, h1, h2⟩ := trip_get (i := i) t (by simpa using e)
    exact ⟨y, by simpa using h1, h2⟩
/-- the entries -/
theorem dc_entries {w : World} {o : Obj} {xs : List (NestedKey × Addr × V)} (h : DcIs w o xs) : o.ExactDict ∧ ∃ es ep, o.data = .dict es ep ∧ es.size = xs.length ∧ ∀ (i : Nat) (x : NestedKey × Addr × V), xs[i]? = some x → ∃ en : DictEntry, es[i]? = some en ∧ en.key = .ref x.2.1 ∧ RelV x.2.2 en.val := by
  obtain ⟨ys, t, h1, _, es, ep, h2, h3⟩ := h
  refine ⟨h1, es, ep, h2, ?_, fun i x hx => ?_⟩
  · rw [← Array.length_toList, h3, List.length_map]
    exact (trip_len t).symm
  · obtain ⟨y, q1, q2, q3, q4⟩ := trip_get t hx
    refine ⟨⟨y.1.hash w, .ref y.2.1, y.2.2⟩, ?_, by rw [q3], q4⟩
    rw [← Array.getElem?_toList, h3, List.getElem?_map, q1]
    rfl
/-- list(d) -/
theorem call_listX {X : Cx} (hc : X.calm = true) {pins : List (Addr × Obj)} {s : Shared} {σ : L2.St} {H : Hp} {d : Addr} {o : Obj} {xs : List (NestedKey × Addr × V)} {w : World} {Q : VK} (I : L2.Inv X pins σ H s) (hs : (d == sysModules) = false) (hd : H d = some (ObX d o)) (dc : DcIs w o xs) (hz : xs.length ≤ sizeLine)
    (q : ∀ p, H p = none → Q (.ref p) (upd H p (.lst (xs.map fun x => V.ref x.2.1)))) : wpAny (model X.prog X.w) X.A (call (.type "list") [.ref d]) (EP X pins σ Q) X.xe s := by
  obtain ⟨h1, es, ep, h2, h3, h4⟩ := dc_entries dc
  refine PySem.W.kdl_call (KdlSrc.rawDict (es := es) (ep := ep) hs) (I.ok.hd hc) ⟨o, obX_at I.hok hd, h1, h2⟩ (by rw [h3]; exact hz) fun h' tk acc c hk hn hi => ?_
  refine ⟨.ref s.heap.objs.size, upd H s.heap.objs.size (.lst (xs.map fun x => V.ref x.2.1)), I.laid hk (Nat.le_refl _) (show ObjOk X.prog X.w _ _ _ (.lst (xs.map fun x => V.ref x.2.1)) from ⟨by rw [List.length_map]; exact hz, acc.toList, c, ?_, by rw [Array.toArray_toList]; exact hn⟩), rfl, q _ (I.hok.fresh (Nat.le_refl _))⟩
  refine vals_of_at (by rw [List.length_map, ← h3, ← hi.1]; exact (Array.length_toList (xs := acc)).symm) fun j x u hx hu => ?_
  rw [List.getElem?_map, Option.map_eq_some_iff] at hx
  obtain ⟨z, hz1, hz2⟩ := hx
  obtain ⟨hj, e⟩ := hi.2 j u (by rw [← hu, Array.getElem?_toList])
  obtain ⟨en, he, hk1, _⟩ := h4 j z hz1
  have : es[j]? = some es[j] := Array.getElem?_eq_getElem hj
  rw [this] at he
  cases he
  rw [e, hk1, ← hz2]
  rfl
/-! ### sorted data -/
theorem each_of {X : Cx} {W : Wd} {Hk : Hp} : ∀ {ds : List D} {vs : List V} {us : List Value}, RpL X.K W Hk ds vs → Vals vs us → PySem.W.EachIs (fun (u : Value) (d : D) => ∃ y, Rp X.K W Hk d y ∧ RelV y u) us ds
  | [], vs, us, r, ru => by
    rw [show vs = [] from r] at ru
    cases ru
    exact .nil
  | d :: ds, vs, us, r, ru => by
    obtain ⟨y, ys, e, r1, r2⟩ := r
    subst e
    cases ru with
    | cons q1 q2 => exact .cons ⟨y, r1, q1⟩ (each_of r2 q2)
theorem of_each {X : Cx} {W : Wd} {Hk : Hp} : ∀ {ds : List D} {us : List Value}, PySem.W.EachIs (fun (u : Value) (d : D) => ∃ y, Rp X.K W Hk d y ∧ RelV y u) us ds → ∃ vs, RpL X.K W Hk ds vs ∧ Vals vs us
  | [], us, h => by
    cases h
    exact ⟨[], rfl, .nil⟩
  | d :: ds, us, h => by
    cases h with
    | cons q1 q2 =>
      obtain ⟨y, r1, r2⟩ := q1
      obtain ⟨vs, r3, r4⟩ := of_each q2
      exact ⟨y :: vs, .cons r1 r3, .cons r2 r4⟩
theorem depth_le : ∀ (ds : List D) (d : D), d ∈ ds → d.py.depth ≤ PyData.depthAll (pys ds)
  | [], d, h => by cases h
  | e :: ds, d, h => by
    simp only [pys, PyData.depthAll]
    rcases List.mem_cons.mp h with z | z
    · subst z; exact Nat.le_max_left _ _
    · exact Nat.le_trans (depth_le ds d z) (Nat.le_max_right _ _)
theorem call_sortd {X : Cx} {W : Wd} (hu : X.A.units + 66 < cLine) {pins : List (Addr × Obj)} {s : Shared} {σ : L2.St} {Hk H : Hp} {xs : List D} {ys : List V} {a : Addr} {Q : VK} (I : L2.Inv X pins σ H s) (ex : Ex Hk H) (hs : SqL X.K H a ys) (h : RpL X.K W Hk xs ys)
    (hk : alkD xs = true) (ht : xs.all (fun x => match x with | .tup (_ :: _) => true | _ => false) = true) (q : ∀ p acc, H p = none → RpL X.K W Hk (sortDD xs) acc → Q (.ref p) (upd H p (.lst acc))) : wpAny (model X.prog X.w) X.A (call (.builtin "sorted") [.ref a]) (EP X pins σ Q) X.xe s := by
  obtain ⟨hp, ha, hd⟩ := alkD_ok hk
  obtain ⟨its, rv, hl, hz⟩ := I.list hs
  have el : its.length = xs.length := by rw [← rv.length, h.len]
  have hpl : ∀ d ∈ xs, d.pl = true := fun d hd => pls_mem hp d hd
  have er : PySem.W.EachIs (fun v (b : D) => ∃ as, Reads s.heap v b.py as) its xs := by
    have key : ∀ {ds : List D} {us : List Value}, (∀ d ∈ ds, d.pl = true) → PySem.W.EachIs (fun (u : Value) (d : D) => ∃ y, Rp X.K W Hk d y ∧ RelV y u) us ds → PySem.W.EachIs (fun v (b : D) => ∃ as, Reads s.heap v b.py as) us ds := by
      intro ds
      induction ds with
      | nil => intro us _ z; cases z; exact .nil
      | cons d ds ih =>
        intro us hh z
        cases z with
        | cons q1 q2 =>
          obtain ⟨y, r1, r2⟩ := q1
          exact .cons (Dp.reads I d.py y _ ((r1.mono ex).dp (hh d List.mem_cons_self)) r2) (ih (fun e he => hh e (List.mem_cons_of_mem _ he)) q2)
    exact key hpl (each_of h rv)
  have hal : PySem.W.AllAlike (xs.map D.py) := fun d hd d' hd' => by
    obtain ⟨b, hb, rfl⟩ := List.mem_map.mp hd
    obtain ⟨b', hb', rfl⟩ := List.mem_map.mp hd'
    simp only [alkD, Bool.and_eq_true, List.all_eq_true] at hk
    exact hk.1.1.2 b hb b' hb'
  have hso : PySem.W.Sortable (xs.map D.py) := .inl fun d hd => by
    obtain ⟨b, hb, rfl⟩ := List.mem_map.mp hd
    have := List.all_eq_true.mp ht b hb
    cases b <;> (try (cases this; done))
    rename_i zs
    cases zs with
    | nil => cases this
    | cons z zs => exact ⟨z.py, pys zs, rfl⟩
  rw [show [Value.ref a] = [Value.ref a] from rfl]
  refine PySem.W.sorted_data (enc := D.py) hl.isList (each_of h rv) er hal hso (by rw [← h.len]; exact hz) (fun b hb => ?_) fun out ho e => ?_
  · have := depth_le xs b hb
    simp only [alkD, Bool.and_eq_true, decide_eq_true_eq] at hk
    have := hk.2
    omega
  · obtain ⟨acc, r1, r2⟩ := of_each e
    obtain ⟨ep, he⟩ := PyProof.Rows.sortedAll_at s.heap its out.toArray
    have len : acc.length ≤ sizeLine := by rw [r2.length, ho, ← h.len]; exact hz
    exact ⟨.ref _, upd H (s.heap.objs.size + 1) (.lst acc), I.laid (t' := s.toks) (fun _ _ => PyProof.Rows.sortedAll_old) (Nat.le_succ _) ⟨len, out, ep, r2, he⟩, rfl, q _ acc (I.hok.fresh (Nat.le_succ _)) r1⟩
/-! ### list(range) -/
theorem rg_rel {K : PySem.W.Frag} {W : Wd} {H : Hp} : ∀ (n : Nat) (a : Int), RpL K W H (rngD a n) ((List.range n).map fun i => V.int (a + (i : Nat)))
  | 0, _ => rfl
  | n + 1, a => by
    rw [List.range_succ_eq_map, List.map_cons, List.map_map]
    refine ⟨V.int a, _, ?_, rfl, rg_rel n (a + 1)⟩
    congr 1
    · simp
    · refine List.map_congr_left fun i _ => ?_
      simp only [Function.comp_def, V.int.injEq]
      omega
end Bk

set_option Elab.async false
set_option linter.all false
set_option maxRecDepth 100000
set_option maxHeartbeats 1000000
/-! The operations on plain data, by the layer's rules. -/
namespace Bk
open PySem L2
open Evl (Ex ex_l ex_t)

def rD (K : PySem.W.Frag) (W : Wd) (f : D → D → Option D) : R2 := fun x y H Q => ∃ g Hk dx dy d, Wk W g Hk H ∧ Rp K W Hk dx x ∧ Rp K W Hk dy y ∧ f dx dy = some d ∧
  ∀ v Hk' H', Step W Hk H Hk' H' → DrawAt W g H' → Rp K W Hk' d v → Q v H'
def rBi (K : PySem.W.Frag) (W : Wd) (f : List D → Option D) : List V → Hp → VK → Prop := fun vs H Q => ∃ g Hk ds d, Wk W g Hk H ∧ RpL K W Hk ds vs ∧ f ds = some d ∧
  ∀ v Hk' H', Step W Hk H Hk' H' → DrawAt W g H' → Rp K W Hk' d v → Q v H'
section
variable {K : PySem.W.Frag} {W : Wd} {Hk H : Hp} {g : G}
theorem size_le {n : Nat} (h : n ≤ 1000000) : n ≤ sizeLine := Nat.le_trans h (by decide)
theorem size_lt {n : Nat} (h : n < 1000000) : n < sizeLine := Nat.lt_of_lt_of_le h (by decide)
/-- a result that is new -/
theorem new_tup {Q : VK} {ds : List D} {xs : List V} (w : Wk W g Hk H) (r : RpL K W Hk ds xs) (q : ∀ v Hk' H', Step W Hk H Hk' H' → DrawAt W g H' → Rp K W Hk' (.tup ds) v → Q v H') :
    ∀ p, H p = none → Q (.ref p) (upd H p (.tup xs)) := fun p hp => by
  have s : Step W Hk H (upd Hk p (.tup xs)) (upd H p (.tup xs)) := Step.new w.ex hp
  exact q _ _ _ s (w.dr.new hp) ⟨p, xs, rfl, SqT.of upd_same, r.mono s.k⟩
theorem new_lst {Q : VK} {ds : List D} {xs : List V} (w : Wk W g Hk H) (r : RpL K W Hk ds xs) (q : ∀ v Hk' H', Step W Hk H Hk' H' → DrawAt W g H' → Rp K W Hk' (.lst ds) v → Q v H') :
    ∀ p, H p = none → Q (.ref p) (upd H p (.lst xs)) := fun p hp => by
  have s : Step W Hk H (upd Hk p (.lst xs)) (upd H p (.lst xs)) := Step.new w.ex hp
  exact q _ _ _ s (w.dr.new hp) ⟨p, xs, rfl, upd_same, r.mono s.k⟩
theorem same {Q : VK} {d : D} {v : V} (w : Wk W g Hk H) (r : Rp K W Hk d v) (q : ∀ v Hk' H', Step W Hk H Hk' H' → DrawAt W g H' → Rp K W Hk' d v → Q v H') : Q v H := q v Hk H (Step.refl w.ex) w.dr r
theorem sameI {Q : VK} {i : Int} (w : Wk W g Hk H) (q : ∀ v Hk' H', Step W Hk H Hk' H' → DrawAt W g H' → Rp K W Hk' (.int i) v → Q v H') : Q (.int i) H := same (d := .int i) w rfl q
theorem sameB {Q : VK} {i : Bool} (w : Wk W g Hk H) (q : ∀ v Hk' H', Step W Hk H Hk' H' → DrawAt W g H' → Rp K W Hk' (.bl i) v → Q v H') : Q (.bl i) H := same (d := .bl i) w rfl q
theorem sameS {Q : VK} {i : Str} (w : Wk W g Hk H) (q : ∀ v Hk' H', Step W Hk H Hk' H' → DrawAt W g H' → Rp K W Hk' (.str i) v → Q v H') : Q (.str i) H := same (d := .str i) w rfl q

theorem ixN_at (xs : List D) (vs : List V) (hl : vs.length = xs.length) (i : Int) : ∀ d, atD xs i = some d → ∃ j, ixN vs.length i = some j ∧ xs[j]? = some d := by
  intro d h
  unfold atD at h
  unfold ixN
  rw [hl]
  by_cases h0 : 0 ≤ i
  · rw [if_pos h0] at h ⊢
    obtain ⟨h1, _⟩ := List.getElem?_eq_some_iff.mp h
    have : i < (xs.length : Int) := by omega
    rw [if_pos this]
    exact ⟨_, rfl, h⟩
  · rw [if_neg h0] at h ⊢
    by_cases h1 : 0 ≤ i + xs.length
    · rw [if_pos h1] at h
      first
        | (rw [if_pos (by omega)]; exact ⟨_, rfl, by first | exact h | (rw [← h]; congr 1; omega)⟩)
        | (simp only [h1]; exact ⟨_, rfl, h⟩)
    · rw [if_neg h1] at h; cases h
theorem at_rel {ds : List D} {vs : List V} {i : Int} {d : D} (r : RpL K W H ds vs) (h : atD ds i = some d) : ∃ v, atI vs i = some v ∧ Rp K W H d v := by
  obtain ⟨j, e, hj⟩ := ixN_at ds vs r.len i d h
  obtain ⟨v, e2, r2⟩ := r.get hj
  exact ⟨v, by unfold atI; rw [e]; exact e2, r2⟩
theorem sIx_eq (n d : Nat) (o : Option Int) : HT.sIx n d o = sIxD n d o := by cases o <;> rfl
theorem cut_rel {ds : List D} {vs : List V} {lo hi : Option Int} (r : RpL K W H ds vs) : RpL K W H (cutD ds lo hi) (cutV vs lo hi) := by
  unfold cutD cutV
  rw [r.len, sIx_eq, sIx_eq]
  exact (r.drop _).take _
theorem cutD_whole {ds : List D} {lo hi : Option Int} (h : sIxD ds.length 0 lo = 0 ∧ sIxD ds.length ds.length hi = ds.length) : cutD ds lo hi = ds := by
  unfold cutD
  rw [h.1, h.2]
  simp
end
section
variable {X : Cx} {W : Wd}
/-! ### operators -/
def opOf : Op → Operator
  | .add => .Add
  | .sub => .Sub
  | .mul => .Mult
  | .div => .FloorDiv
  | .mod => .Mod
  | .pow => .Pow
theorem int_of {K : PySem.W.Frag} {Hk : Hp} {i : Int} {v : V} (h : Rp K W Hk (.int i) v) : v = .int i := h
theorem op_D (o : Op) : OpR X (binaryOp (opOf o)) (rD X.K W (opD o)) := by
  intro pins s σ H x y v u Q I rx ry h
  obtain ⟨g, Hk, dx, dy, d, w, r1, r2, e, q⟩ := h
  cases o <;> cases dx <;> cases dy <;> (try (simp only [opD] at e; cases e; done)) <;> simp only [opD] at e
  case add.int.int i j =>
    cases e
    rw [int_of r1] at rx
    rw [int_of r2] at ry
    exact op_add pins s σ H _ _ v u Q I rx ry ⟨i, j, rfl, rfl, sameI w q⟩
  case sub.int.int i j =>
    cases e
    rw [int_of r1] at rx
    rw [int_of r2] at ry
    exact op_sub pins s σ H _ _ v u Q I rx ry ⟨i, j, rfl, rfl, sameI w q⟩
  case mul.int.int i j =>
    by_cases hm : MulOk i j = true
    · rw [if_pos hm] at e
      cases e
      rw [int_of r1] at rx
      rw [int_of r2] at ry
      exact op_mulW pins s σ H _ _ v u Q I rx ry ⟨i, j, rfl, rfl, (show i.natAbs.log2 + j.natAbs.log2 < 1000000 from of_decide_eq_true hm), sameI w q⟩
    · rw [if_neg hm] at e; cases e
  case div.int.int i j =>
    by_cases hm : DivOk j = true
    · rw [if_pos hm] at e
      cases e
      rw [int_of r1] at rx
      rw [int_of r2] at ry
      unfold DivOk at hm
      simp only [Bool.and_eq_true, decide_eq_true_eq] at hm
      exact op_fdivW pins s σ H _ _ v u Q I rx ry ⟨i, j, rfl, rfl, hm, sameI w q⟩
    · rw [if_neg hm] at e; cases e
  case mod.int.int i j =>
    by_cases hm : 0 < j
    · rw [if_pos hm] at e
      cases e
      rw [int_of r1] at rx
      rw [int_of r2] at ry
      exact op_mod pins s σ H _ _ v u Q I rx ry ⟨i, j, rfl, rfl, hm, sameI w q⟩
    · rw [if_neg hm] at e; cases e
  case pow.int.int i j =>
    split at e
    · rename_i hm
      cases e
      rw [int_of r1] at rx
      rw [int_of r2] at ry
      exact op_pow pins s σ H _ _ v u Q I rx ry ⟨i, j, rfl, rfl, ⟨hm.1, Int.le_trans hm.2.1 (by decide), hm.2.2⟩, sameI w q⟩
    · cases e
  case add.tup.tup xs ys =>
    split at e
    · rename_i hz
      cases e
      obtain ⟨a, vs, rfl, h1, h2⟩ := r1
      obtain ⟨b, us, rfl, h3, h4⟩ := r2
      refine op_catA pins s σ H _ _ v u Q I rx ry ⟨a, b, vs, us, rfl, rfl, ex_t w.ex h1, ex_t w.ex h3, size_le (by rw [h2.len, h4.len]; exact hz), fun z => ?_, fun _ z => ?_, fun _ _ => new_tup w (h2.append h4) q⟩
      · subst z
        have : xs = [] := by
          have := h2.len
          cases xs with
          | nil => rfl
          | cons _ _ => simp at this
        subst this
        exact same (d := .tup ys) w ⟨b, us, rfl, h3, h4⟩ q
      · subst z
        have : ys = [] := by
          have := h4.len
          cases ys with
          | nil => rfl
          | cons _ _ => simp at this
        subst this
        rw [List.append_nil] at q
        exact same (d := .tup xs) w ⟨a, vs, rfl, h1, h2⟩ q
    · cases e
  case add.lst.lst xs ys =>
    split at e
    · rename_i hz
      cases e
      obtain ⟨a, vs, rfl, h1, h2⟩ := r1
      obtain ⟨b, us, rfl, h3, h4⟩ := r2
      exact op_cat pins s σ H _ _ v u Q I rx ry ⟨a, b, vs, us, rfl, rfl, w.ex _ _ h1, w.ex _ _ h3, size_le (by rw [h2.len, h4.len]; exact hz), new_lst w (h2.append h4) q⟩
    · cases e
  case mul.lst.int xs k =>
    split at e
    · rename_i hz
      cases e
      obtain ⟨a, vs, rfl, h1, h2⟩ := r1
      rw [int_of r2] at ry
      refine op_rep pins s σ H _ _ v u Q I rx ry ⟨a, k, vs, rfl, rfl, w.ex _ _ h1, by have := hz.2.2; omega, by have := hz.2.1; omega, size_le (by rw [h2.len]; exact hz.1), new_lst w (h2.rep _) q⟩
    · cases e
  case mul.tup.int xs k =>
    split at e
    · rename_i hz
      cases e
      obtain ⟨a, vs, rfl, h1, h2⟩ := r1
      rw [int_of r2] at ry
      by_cases hk : k = 1
      · subst hk
        refine op_repT1 pins s σ H _ _ v u Q I rx ry ⟨a, vs, rfl, rfl, ex_t w.ex h1, ?_⟩
        have e1 : (List.replicate (1 : Int).toNat xs).flatten = xs := by simp
        rw [e1] at q
        exact same (d := .tup xs) w ⟨a, vs, rfl, h1, h2⟩ q
      refine op_repT pins s σ H _ _ v u Q I rx ry ⟨a, k, vs, rfl, rfl, ex_t w.ex h1, fun z => hz.1 ?_, by have := hz.2.1; omega, hz.2.2.1, by rw [h2.len]; exact hz.2.2.2, new_tup w (h2.rep _) q⟩
      have := h2.len
      rw [z] at this
      exact List.eq_nil_of_length_eq_zero this.symm
    · cases e
  case add.str.str a b =>
    split at e
    · rename_i hz
      cases e
      rw [show x = .str a from r1] at rx
      rw [show y = .str b from r2] at ry
      exact op_add_str pins s σ H _ _ v u Q I rx ry ⟨a, b, rfl, rfl, size_le hz, sameS w q⟩
    · cases e
def cmOf : Cm → CmpOp
  | .eq => .Eq
  | .ne => .NotEq
  | .lt => .Lt
  | .le => .LtE
  | .gt => .Gt
  | .ge => .GtE
  | .isin => .In
  | .notin => .NotIn
  | .isN => .Is
  | .notN => .IsNot
theorem eqv_ints (i j : Int) : PyData.eqv (.int i) (.int j) = decide (i = j) := by
  simp only [PyData.eqv]
  exact Bool.beq_eq_decide_eq i j
theorem in_of {x y : D} {b : Bool} (h : cmpD .isin x y = some b) : (∃ ys, (y = .tup ys ∨ y = .lst ys) ∧ (flatD x && ys.all flatD) = true ∧ b = inF x ys) ∨ ∃ ks vs, y = .dct ks vs ∧ okK x = true ∧ b = (getK (keyD x) ks vs).isSome := by
  cases y with
  | tup ys =>
    refine .inl ?_
    cases x <;> (simp only [cmpD] at h; split at h <;> first | (rename_i c; cases h; exact ⟨ys, .inl rfl, c, rfl⟩) | cases h)
  | lst ys =>
    refine .inl ?_
    cases x <;> (simp only [cmpD] at h; split at h <;> first | (rename_i c; cases h; exact ⟨ys, .inr rfl, c, rfl⟩) | cases h)
  | dct ks vs =>
    refine .inr ?_
    cases x <;> (simp only [cmpD] at h; split at h <;> first | (rename_i c; cases h; exact ⟨ks, vs, rfl, c, rfl⟩) | cases h)
  | _ => cases x <;> (simp only [cmpD] at h; cases h)
theorem notin_of {x y : D} {b : Bool} (h : cmpD .notin x y = some b) : (∃ ys, (y = .tup ys ∨ y = .lst ys) ∧ (flatD x && ys.all flatD) = true ∧ b = !inF x ys) ∨ ∃ ks vs, y = .dct ks vs ∧ okK x = true ∧ b = !(getK (keyD x) ks vs).isSome := by
  cases y with
  | tup ys =>
    refine .inl ?_
    cases x <;> (simp only [cmpD] at h; split at h <;> first | (rename_i c; cases h; exact ⟨ys, .inl rfl, c, rfl⟩) | cases h)
  | lst ys =>
    refine .inl ?_
    cases x <;> (simp only [cmpD] at h; split at h <;> first | (rename_i c; cases h; exact ⟨ys, .inr rfl, c, rfl⟩) | cases h)
  | dct ks vs =>
    refine .inr ?_
    cases x <;> (simp only [cmpD] at h; split at h <;> first | (rename_i c; cases h; exact ⟨ks, vs, rfl, c, rfl⟩) | cases h)
  | _ => cases x <;> (simp only [cmpD] at h; cases h)
theorem flat_one {K : PySem.W.Frag} {Hk : Hp} {d : D} {v : V} (h : flatD d = true) (r : Rp K W Hk d v) : flatV v = true ∧ ∀ e u, flatD e = true → Rp K W Hk e u → eqV u v = eqF e d := by
  cases d with
  | non => rw [show v = .non from r]; exact ⟨rfl, fun e u he re => by cases e <;> first | (rw [show u = _ from re]; rfl) | cases he⟩
  | bl b => rw [show v = .bl b from r]; exact ⟨rfl, fun e u he re => by cases e <;> first | (rw [show u = _ from re]; rfl) | cases he⟩
  | int b => rw [show v = .int b from r]; exact ⟨rfl, fun e u he re => by cases e <;> first | (rw [show u = _ from re]; rfl) | cases he⟩
  | str b => rw [show v = .str b from r]; exact ⟨rfl, fun e u he re => by cases e <;> first | (rw [show u = _ from re]; rfl) | cases he⟩
  | _ => cases h
theorem flat_all {K : PySem.W.Frag} {Hk : Hp} : ∀ {ds : List D} {vs : List V}, ds.all flatD = true → RpL K W Hk ds vs → vs.all flatV = true ∧ True
  | [], vs, _, r => by rw [show vs = [] from r]; exact ⟨rfl, trivial⟩
  | d :: ds, vs, h, r => by
    obtain ⟨y, ys, rfl, r1, r2⟩ := r
    simp only [List.all_cons, Bool.and_eq_true] at h ⊢
    exact ⟨⟨(flat_one h.1 r1).1, (flat_all h.2 r2).1⟩, trivial⟩
theorem inF_eq {K : PySem.W.Frag} {Hk : Hp} {d : D} {v : V} (h : flatD d = true) : ∀ {ds : List D} {vs : List V}, ds.all flatD = true → Rp K W Hk d v → RpL K W Hk ds vs → inF d ds = inV v vs
  | [], vs, _, r, rs => by rw [show vs = [] from rs]; rfl
  | e :: ds, vs, hs, r, rs => by
    obtain ⟨y, ys, rfl, r1, r2⟩ := rs
    simp only [List.all_cons, Bool.and_eq_true] at hs
    have ih := inF_eq h hs.2 r r2
    unfold inF inV at ih ⊢
    simp only [List.any_cons]
    rw [ih, (flat_one h r).2 e y hs.1 r1]
theorem cmp_D (hu : X.A.units + 64 < cLine) (hw : W.w = X.w) (o : Cm) : OpR X (compareOp (cmOf o)) (rD X.K W fun a b => (cmpD o a b).map .bl) := by
  intro pins s σ H x y v u Q I rx ry h
  obtain ⟨g, Hk, dx, dy, d, w, r1, r2, e, q⟩ := h
  have eqc : ∀ b, (if dx.pl && dy.pl && SeqAt.shaped dx.py && SeqAt.shaped dy.py then some (PyData.eqv dx.py dy.py) else none) = some b → wpAny (model X.prog X.w) X.A (compareOp .Eq v u) (EP X pins σ (fun z H' => z = .bl b ∧ H' = H)) X.xe s := by
    intro b hb
    split at hb
    · rename_i hc
      simp only [Bool.and_eq_true] at hc
      cases hb
      exact op_eqD hu pins s σ H _ _ v u _ I rx ry ⟨_, _, (r1.mono w.ex).dp hc.1.1.1, (r2.mono w.ex).dp hc.1.1.2, hc.1.2, hc.2, rfl, rfl⟩
    · cases hb
  have nec : ∀ b, (if dx.pl && dy.pl && SeqAt.shaped dx.py && SeqAt.shaped dy.py then some (!PyData.eqv dx.py dy.py) else none) = some b → wpAny (model X.prog X.w) X.A (compareOp .NotEq v u) (EP X pins σ (fun z H' => z = .bl b ∧ H' = H)) X.xe s := by
    intro b hb
    split at hb
    · rename_i hc
      simp only [Bool.and_eq_true] at hc
      cases hb
      exact op_neD hu pins s σ H _ _ v u _ I rx ry ⟨_, _, (r1.mono w.ex).dp hc.1.1.1, (r2.mono w.ex).dp hc.1.1.2, hc.1.2, hc.2, rfl, rfl⟩
    · cases hb
  obtain ⟨b, eb, rfl⟩ := Option.map_eq_some_iff.mp e
  have fin : Q (.bl b) H := sameB w q
  have go : ∀ {op : CmpOp}, wpAny (model X.prog X.w) X.A (compareOp op v u) (EP X pins σ (fun z H' => z = .bl b ∧ H' = H)) X.xe s → wpAny (model X.prog X.w) X.A (compareOp op v u) (EP X pins σ Q) X.xe s := fun h =>
    thn h fun z s' ⟨zv, H', I', r', e1, e2⟩ => ⟨zv, H', I', r', by rw [e1, e2]; exact fin⟩
  have fin' : (fun (z : V) (H' : Hp) => z = V.bl b ∧ H' = H) (.bl b) H := ⟨rfl, rfl⟩
  cases o with
  | eq =>
    refine go ?_
    cases dx with
    | int i =>
      cases dy with
      | int j =>
        simp only [cmpD, Option.some.injEq] at eb
        subst eb
        rw [int_of r1] at rx
        rw [int_of r2] at ry
        exact op_eq pins s σ H _ _ v u _ I rx ry ⟨rfl, by simp, rfl⟩
      | _ => exact eqc b eb
    | str i =>
      cases dy with
      | str j =>
        simp only [cmpD, Option.some.injEq] at eb
        subst eb
        have r1 : x = .str i := r1
        have r2 : y = .str j := r2
        rw [r1] at rx
        rw [r2] at ry
        exact op_eq pins s σ H _ _ v u _ I rx ry ⟨rfl, by simp, rfl⟩
      | _ => exact eqc b eb
    | _ => exact eqc b eb
  | ne =>
    refine go ?_
    cases dx with
    | int i =>
      cases dy with
      | int j =>
        simp only [cmpD, Option.some.injEq] at eb
        subst eb
        rw [int_of r1] at rx
        rw [int_of r2] at ry
        exact op_ne pins s σ H _ _ v u _ I rx ry ⟨rfl, by simp, rfl⟩
      | _ => exact nec b eb
    | str i =>
      cases dy with
      | str j =>
        simp only [cmpD, Option.some.injEq] at eb
        subst eb
        have r1 : x = .str i := r1
        have r2 : y = .str j := r2
        rw [r1] at rx
        rw [r2] at ry
        exact op_ne pins s σ H _ _ v u _ I rx ry ⟨rfl, by simp, rfl⟩
      | _ => exact nec b eb
    | _ => exact nec b eb
  | lt =>
    cases dx <;> cases dy <;> (try (simp only [cmpD] at eb; cases eb; done))
    rw [int_of r1] at rx
    rw [int_of r2] at ry
    simp only [cmpD, Option.some.injEq] at eb
    subst eb
    exact op_lt pins s σ H _ _ v u Q I rx ry ⟨_, _, rfl, rfl, fin⟩
  | le =>
    cases dx <;> cases dy <;> (try (simp only [cmpD] at eb; cases eb; done))
    rw [int_of r1] at rx
    rw [int_of r2] at ry
    simp only [cmpD, Option.some.injEq] at eb
    subst eb
    exact op_le pins s σ H _ _ v u Q I rx ry ⟨_, _, rfl, rfl, fin⟩
  | gt =>
    cases dx <;> cases dy <;> (try (simp only [cmpD] at eb; cases eb; done))
    rw [int_of r1] at rx
    rw [int_of r2] at ry
    simp only [cmpD, Option.some.injEq] at eb
    subst eb
    exact op_gt pins s σ H _ _ v u Q I rx ry ⟨_, _, rfl, rfl, fin⟩
  | ge =>
    cases dx <;> cases dy <;> (try (simp only [cmpD] at eb; cases eb; done))
    rw [int_of r1] at rx
    rw [int_of r2] at ry
    simp only [cmpD, Option.some.injEq] at eb
    subst eb
    exact op_ge pins s σ H _ _ v u Q I rx ry ⟨_, _, rfl, rfl, fin⟩
  | isin =>
    rcases in_of (show cmpD .isin dx dy = some b from eb) with ⟨ys, hy, hc, rfl⟩ | ⟨ks, vs, hy, hc, rfl⟩
    rotate_left
    · subst hy
      obtain ⟨a, o, xs, rfl, h1, h2⟩ := r2
      have e2 : u = Value.ref a := ry
      subst e2
      exact n_in hu I w.ex hw ⟨o, xs, w.ex _ _ h1, h2⟩ r1 hc rx fun s' I' => ⟨.bl _, _, I', rfl, fin⟩
    rcases hy with hy | hy
    · subst hy
      obtain ⟨a, us, rfl, h1, h2⟩ := r2
      simp only [Bool.and_eq_true] at hc
      obtain ⟨f1, f2⟩ := flat_all hc.2 h2
      obtain ⟨f3, f4⟩ := flat_one hc.1 r1
      refine op_in_seq pins s σ H _ _ v u Q I rx ry ⟨a, us, rfl, .inr (ex_t w.ex h1), f3, f1, ?_⟩
      simp only [Bool.false_eq_true, if_false]
      rw [← inF_eq hc.1 hc.2 r1 h2]
      exact fin
    · subst hy
      obtain ⟨a, us, rfl, h1, h2⟩ := r2
      simp only [Bool.and_eq_true] at hc
      obtain ⟨f1, f2⟩ := flat_all hc.2 h2
      obtain ⟨f3, f4⟩ := flat_one hc.1 r1
      refine op_in_seq pins s σ H _ _ v u Q I rx ry ⟨a, us, rfl, .inl (SqL.of (w.ex _ _ h1)), f3, f1, ?_⟩
      simp only [Bool.false_eq_true, if_false]
      rw [← inF_eq hc.1 hc.2 r1 h2]
      exact fin
  | notin =>
    rcases notin_of (show cmpD .notin dx dy = some b from eb) with ⟨ys, hy, hc, rfl⟩ | ⟨ks, vs, hy, hc, rfl⟩
    rotate_left
    · subst hy
      obtain ⟨a, o, xs, rfl, h1, h2⟩ := r2
      have e2 : u = Value.ref a := ry
      subst e2
      exact n_notIn hu I w.ex hw ⟨o, xs, w.ex _ _ h1, h2⟩ r1 hc rx fun s' I' => ⟨.bl _, _, I', rfl, fin⟩
    rcases hy with hy | hy
    · subst hy
      obtain ⟨a, us, rfl, h1, h2⟩ := r2
      simp only [Bool.and_eq_true] at hc
      obtain ⟨f1, f2⟩ := flat_all hc.2 h2
      obtain ⟨f3, f4⟩ := flat_one hc.1 r1
      refine op_notIn_seq pins s σ H _ _ v u Q I rx ry ⟨a, us, rfl, .inr (ex_t w.ex h1), f3, f1, ?_⟩
      simp only [if_true]
      rw [← inF_eq hc.1 hc.2 r1 h2]
      exact fin
    · subst hy
      obtain ⟨a, us, rfl, h1, h2⟩ := r2
      simp only [Bool.and_eq_true] at hc
      obtain ⟨f1, f2⟩ := flat_all hc.2 h2
      obtain ⟨f3, f4⟩ := flat_one hc.1 r1
      refine op_notIn_seq pins s σ H _ _ v u Q I rx ry ⟨a, us, rfl, .inl (SqL.of (w.ex _ _ h1)), f3, f1, ?_⟩
      simp only [if_true]
      rw [← inF_eq hc.1 hc.2 r1 h2]
      exact fin
  | isN =>
    have hy : y = .non := by
      cases dy with
      | non => exact r2
      | _ => cases dx <;> (simp only [cmpD] at eb; cases eb)
    have hb : b = decide (x = .non) := by
      cases dy with
      | non =>
        cases dx with
        | non => simp only [cmpD, Option.some.injEq] at eb; rw [← eb, show x = .non from r1]; rfl
        | bl _ => simp only [cmpD, Option.some.injEq] at eb; rw [← eb, show x = _ from r1]; rfl
        | int _ => simp only [cmpD, Option.some.injEq] at eb; rw [← eb, show x = _ from r1]; rfl
        | str _ => simp only [cmpD, Option.some.injEq] at eb; rw [← eb, show x = _ from r1]; rfl
        | tup _ => obtain ⟨a, _, rfl, _⟩ := r1; simp only [cmpD, Option.some.injEq] at eb; rw [← eb]; rfl
        | lst _ => obtain ⟨a, _, rfl, _⟩ := r1; simp only [cmpD, Option.some.injEq] at eb; rw [← eb]; rfl
        | m => simp only [cmpD] at eb; cases eb
        | scr _ => simp only [cmpD] at eb; cases eb
        | dct _ _ => simp only [cmpD] at eb; cases eb
      | _ => cases dx <;> (simp only [cmpD] at eb; cases eb)
    rw [hb] at fin
    exact op_isN pins s σ H _ _ v u Q I rx ry ⟨hy, fin⟩
  | notN =>
    have hy : y = .non := by
      cases dy with
      | non => exact r2
      | _ => cases dx <;> (simp only [cmpD] at eb; cases eb)
    have hb : b = !decide (x = .non) := by
      cases dy with
      | non =>
        cases dx with
        | non => simp only [cmpD, Option.some.injEq] at eb; rw [← eb, show x = .non from r1]; rfl
        | bl _ => simp only [cmpD, Option.some.injEq] at eb; rw [← eb, show x = _ from r1]; rfl
        | int _ => simp only [cmpD, Option.some.injEq] at eb; rw [← eb, show x = _ from r1]; rfl
        | str _ => simp only [cmpD, Option.some.injEq] at eb; rw [← eb, show x = _ from r1]; rfl
        | tup _ => obtain ⟨a, _, rfl, _⟩ := r1; simp only [cmpD, Option.some.injEq] at eb; rw [← eb]; rfl
        | lst _ => obtain ⟨a, _, rfl, _⟩ := r1; simp only [cmpD, Option.some.injEq] at eb; rw [← eb]; rfl
        | m => simp only [cmpD] at eb; cases eb
        | scr _ => simp only [cmpD] at eb; cases eb
        | dct _ _ => simp only [cmpD] at eb; cases eb
      | _ => cases dx <;> (simp only [cmpD] at eb; cases eb)
    rw [hb] at fin
    exact op_notN pins s σ H _ _ v u Q I rx ry ⟨hy, fin⟩
/-- d[k] -/
theorem ix_dct (hu : X.A.units + 64 < cLine) (hw : W.w = X.w) {value slice : Expr} {pins : List (Addr × Obj)} {s : Shared} {σ : L2.St} {Hk H : Hp} {p : Addr} {ks vs : List D} {k d : D} {y : V} {u : Value} {Q : Value → Shared → Prop} (I : L2.Inv X pins σ H s) (ex : Ex Hk H) (h : DAt X.K W Hk H p ks vs) (rk : Rp X.K W Hk k y) (ok : okK k = true) (ru : RelV y u) (hg : getK (keyD k) ks vs = some d)
    (hs : subscripted slice false (.ref p) u = operate [.ref p, u] (getItem (.ref p) u)) (q : ∀ v' w' s', L2.Inv X pins σ H s' → Rp X.K W Hk d v' → RelV v' w' → Q w' s') : wpAny (model X.prog X.w) X.A (PyProof.Rows.subscriptTail value slice (.ref p) u) Q X.xe s := by
  have hT := h.typ I
  unfold PyProof.Rows.subscriptTail
  refine wpAny_bind ?_
  rw [getitemInPython_of_ne hT.not_modules]
  refine wpAny_bind (wpAny_specialOf hT PySem.F.slot_dict_getitem.lookup ?_)
  have fin : wpAny (model X.prog X.w) X.A (subscripted slice false (.ref p) u) (fun r s₃ => wpAny (model X.prog X.w) X.A (letTemporaryGo value (.ref p) r >>= fun _ => pure r) Q X.xe s₃) X.xe s := by
    rw [hs]
    exact wpAny_operating (n_get hu I ex hw h rk ok ru hg fun v' w' s' I' r1 r2 => wpAny_bind (wpAny_letTemporaryGo (wpAny_pure (q v' w' s' I' r1 r2))))
  first
    | exact wpAny_pure (wpAny_bind fin)
    | exact wpAny_bind (wpAny_pure (wpAny_bind fin))
    | exact wpAny_bind fin
theorem idxD_dct {ks vs : List D} {k d : D} (e : idxD (.dct ks vs) k = some d) : okK k = true ∧ getK (keyD k) ks vs = some d := by
  cases k <;> (simp only [idxD] at e; split at e <;> first | exact ⟨by assumption, e⟩ | cases e)
/-- xs[i] -/
theorem ix_D (hu : X.A.units + 64 < cLine) (hw : W.w = X.w) : IxR X (rD X.K W idxD) := by
  intro value slice pins s σ H x y v u Q I rx ry h hs
  obtain ⟨g, Hk, dx, dy, d, w, r1, r2, e, q⟩ := h
  cases dx with
  | tup xs =>
    cases dy <;> (try (simp only [idxD] at e; cases e; done))
    rename_i i
    obtain ⟨a, vs, rfl, h1, h2⟩ := r1
    obtain ⟨z, e2, r3⟩ := at_rel h2 e
    exact ix_tup value slice pins s σ H _ _ v u Q I rx ry ⟨a, vs, i, z, rfl, r2, ex_t w.ex h1, e2, same w r3 q⟩ hs
  | lst xs =>
    cases dy <;> (try (simp only [idxD] at e; cases e; done))
    rename_i i
    obtain ⟨a, vs, rfl, h1, h2⟩ := r1
    obtain ⟨z, e2, r3⟩ := at_rel h2 e
    exact ix_list value slice pins s σ H _ _ v u Q I rx ry ⟨a, vs, i, z, rfl, r2, SqL.of (w.ex _ _ h1), e2, same w r3 q⟩ hs
  | dct ks vs =>
    obtain ⟨ok, hg⟩ := idxD_dct e
    obtain ⟨a, o, xs, rfl, h1, h2⟩ := r1
    have e2 : v = Value.ref a := rx
    subst e2
    exact ix_dct hu hw I w.ex ⟨o, xs, w.ex _ _ h1, h2⟩ r2 ok ry hg hs fun v' w' s' I' q1 q2 => ⟨v', H, I', q2, same w q1 q⟩
  | _ => cases dy <;> (simp only [idxD] at e; cases e)
/-- xs[lo:hi] -/
def rSlD (K : PySem.W.Frag) (W : Wd) : V → Option Int → Option Int → Hp → VK → Prop := fun x lo hi H Q => ∃ g Hk dx d, Wk W g Hk H ∧ Rp K W Hk dx x ∧ slD dx lo hi = some d ∧
  ∀ v Hk' H', Step W Hk H Hk' H' → DrawAt W g H' → Rp K W Hk' d v → Q v H'
theorem sl_D : SlR X (rSlD X.K W) := by
  intro pins s σ H x v vl vu lo hi sl Q I rx hs pl pu h
  obtain ⟨g, Hk, dx, d, w, r1, e, q⟩ := h
  cases dx <;> (try (simp only [slD] at e; cases e; done))
  · rename_i ds
    simp only [slD, Option.some.injEq] at e
    subst e
    obtain ⟨a, vs, rfl, h1, h2⟩ := r1
    refine sl_tupA pins s σ H _ v vl vu lo hi sl Q I rx hs pl pu ⟨a, vs, rfl, ex_t w.ex h1, fun z => ?_, fun _ => new_tup w (cut_rel h2) q⟩
    rw [h2.len, sIx_eq, sIx_eq] at z
    rw [cutD_whole z] at q
    exact same (d := .tup ds) w ⟨a, vs, rfl, h1, h2⟩ q
  · rename_i ds
    simp only [slD, Option.some.injEq] at e
    subst e
    obtain ⟨a, vs, rfl, h1, h2⟩ := r1
    exact sl_list pins s σ H _ v vl vu lo hi sl Q I rx hs pl pu ⟨a, vs, rfl, SqL.of (w.ex _ _ h1), new_lst w (cut_rel h2) q⟩
end
end Bk

set_option Elab.async false
set_option linter.all false
set_option maxRecDepth 100000
set_option maxHeartbeats 1000000
/-! Built-in functions on plain data. -/
namespace Bk
open PySem L2
open Evl (Ex ex_l ex_t)

theorem maxI_mem : ∀ (l : List Int) (a : Int), maxI a l ∈ a :: l ∧ ∀ y ∈ a :: l, y ≤ maxI a l
  | [], a => ⟨List.mem_cons_self, fun y hy => by simp at hy; subst hy; exact Int.le_refl _⟩
  | b :: l, a => by
    have ih := maxI_mem l (if a < b then b else a)
    have e : maxI a (b :: l) = maxI (if a < b then b else a) l := rfl
    rw [e]
    refine ⟨?_, fun y hy => ?_⟩
    · rcases List.mem_cons.mp ih.1 with h | h
      · rw [h]; split <;> simp
      · exact List.mem_cons_of_mem _ (List.mem_cons_of_mem _ h)
    · have h0 := ih.2 _ List.mem_cons_self
      rcases List.mem_cons.mp hy with rfl | hy
      · exact Int.le_trans (by split <;> omega) h0
      · rcases List.mem_cons.mp hy with rfl | hy
        · exact Int.le_trans (by split <;> omega) h0
        · exact ih.2 y (List.mem_cons_of_mem _ hy)
theorem minI_mem : ∀ (l : List Int) (a : Int), minI a l ∈ a :: l ∧ ∀ y ∈ a :: l, minI a l ≤ y
  | [], a => ⟨List.mem_cons_self, fun y hy => by simp at hy; subst hy; exact Int.le_refl _⟩
  | b :: l, a => by
    have ih := minI_mem l (if b < a then b else a)
    have e : minI a (b :: l) = minI (if b < a then b else a) l := rfl
    rw [e]
    refine ⟨?_, fun y hy => ?_⟩
    · rcases List.mem_cons.mp ih.1 with h | h
      · rw [h]; split <;> simp
      · exact List.mem_cons_of_mem _ (List.mem_cons_of_mem _ h)
    · have h0 := ih.2 _ List.mem_cons_self
      rcases List.mem_cons.mp hy with rfl | hy
      · exact Int.le_trans h0 (by split <;> omega)
      · rcases List.mem_cons.mp hy with rfl | hy
        · exact Int.le_trans h0 (by split <;> omega)
        · exact ih.2 y (List.mem_cons_of_mem _ hy)
theorem insI_perm (i : Int) : ∀ l : List Int, (insI i l).Perm (i :: l)
  | [] => List.Perm.refl _
  | j :: r => by
    unfold insI
    split
    · exact List.Perm.refl _
    · exact ((insI_perm i r).cons j).trans (List.Perm.swap i j r)
theorem insI_sorted (i : Int) : ∀ l : List Int, l.Pairwise (· ≤ ·) → (insI i l).Pairwise (· ≤ ·)
  | [], _ => by simp [insI]
  | j :: r, h => by
    unfold insI
    split
    · rename_i hij
      refine List.pairwise_cons.mpr ⟨fun y hy => ?_, h⟩
      rcases List.mem_cons.mp hy with rfl | hy
      · exact hij
      · exact Int.le_trans hij ((List.pairwise_cons.mp h).1 y hy)
    · rename_i hij
      refine List.pairwise_cons.mpr ⟨fun y hy => ?_, insI_sorted i r (List.pairwise_cons.mp h).2⟩
      rcases List.mem_cons.mp ((insI_perm i r).mem_iff.mp hy) with rfl | hy
      · omega
      · exact (List.pairwise_cons.mp h).1 y hy
theorem sortI_perm : ∀ l : List Int, (sortI l).Perm l
  | [] => List.Perm.refl _
  | i :: l => (insI_perm i _).trans ((sortI_perm l).cons i)
theorem sortI_sorted : ∀ l : List Int, (sortI l).Pairwise (· ≤ ·)
  | [] => List.Pairwise.nil
  | i :: l => insI_sorted i _ (sortI_sorted l)

def biV : Bi → Value
  | .len => .builtin "len"
  | .all => .builtin "all"
  | .any => .builtin "any"
  | .sum => .builtin "sum"
  | .min => .builtin "min"
  | .max => .builtin "max"
  | .min2 => .builtin "min"
  | .max2 => .builtin "max"
  | .sorted => .builtin "sorted"
  | .tuple => .type "tuple"
  | .list => .type "list"
  | .int => .type "int"
  | .repr => .builtin "repr"
  | .maxd => .builtin "max"
  | .mind => .builtin "min"
  | .sortd => .builtin "sorted"
section
variable {X : Cx} {W : Wd}
theorem len1 {K : PySem.W.Frag} {Hk : Hp} {d : D} {vs : List V} (h : RpL K W Hk [d] vs) : ∃ v, vs = [v] ∧ Rp K W Hk d v := by
  obtain ⟨y, ys, rfl, h1, h2⟩ := h
  rw [show ys = [] from h2]
  exact ⟨y, rfl, h1⟩
theorem len2 {K : PySem.W.Frag} {Hk : Hp} {d e : D} {vs : List V} (h : RpL K W Hk [d, e] vs) : ∃ v u, vs = [v, u] ∧ Rp K W Hk d v ∧ Rp K W Hk e u := by
  obtain ⟨y, ys, rfl, h1, h2⟩ := h
  obtain ⟨u, rfl, h3⟩ := len1 h2
  exact ⟨y, u, rfl, h1, h3⟩
theorem call_repr_D (hg : X.A.guards = some []) (hu : X.A.units + 66 < cLine) {pins : List (Addr × Obj)} {s : Shared} {σ : St} {H : Hp} {d : PyData} {x : V} {u : Value} {Q : VK} (I : L2.Inv X pins σ H s) (hd : Dp X.K H x d) (rx : RelV x u)
    (h1 : d.showable = true) (h2 : d.depth ≤ 64) (h3 : d.shown.length ≤ 1000000) (q : Q (.str d.shown) H) : wpAny (model X.prog X.w) X.A (call (.builtin "repr") [u]) (EP X pins σ Q) X.xe s := by
  cases hd with
  | non =>
    cases rx
    refine PySem.P.repr_of_none ⟨.str _, H, I.tok _, ⟨_, rfl⟩, ?_⟩
    simpa only [PyData.shown] using q
  | bl b =>
    cases rx
    refine PySem.P.repr_of_bool ⟨.str _, H, I.tok _, ⟨_, rfl⟩, ?_⟩
    simpa only [PyData.shown] using q
  | int i =>
    obtain ⟨t, rfl⟩ := rx
    refine PySem.P.repr_of_int (by simpa [PyData.showable] using h1) ⟨.str _, H, I.tok _, ⟨_, rfl⟩, ?_⟩
    simpa only [PyData.shown] using q
  | str y =>
    obtain ⟨t, rfl⟩ := rx
    refine PySem.P.repr_of_str ⟨.str _, H, I.tok _, ⟨_, rfl⟩, ?_⟩ (by simpa only [PyData.shown] using size_le h3)
    simpa only [PyData.shown] using q
  | @lst a xs ds hs ha =>
    cases rx
    obtain ⟨as, r⟩ := Dp.reads I (.list ds) (.ref a) (.ref a) (.lst hs ha) rfl
    refine repr_of_reads' r h1 (fun hx => ?_) hg (by omega) (fun _ _ e => e) (fun h' u tk hk => ⟨.str _, H, I.kept hk, ⟨_, rfl⟩, q⟩) (size_le h3)
    exact absurd hx (by rw [dp_noDict (.lst hs ha)]; decide)
  | @tup a xs ds hs ha =>
    cases rx
    obtain ⟨as, r⟩ := Dp.reads I (.tuple ds) (.ref a) (.ref a) (.tup hs ha) rfl
    refine repr_of_reads' r h1 (fun hx => ?_) hg (by omega) (fun _ _ e => e) (fun h' u tk hk => ⟨.str _, H, I.kept hk, ⟨_, rfl⟩, q⟩) (size_le h3)
    exact absurd hx (by rw [dp_noDict (.tup hs ha)]; decide)
where
  dp_noDict {K : PySem.W.Frag} {H : Hp} : ∀ {d : PyData} {v : V}, Dp K H v d → d.hasDict = false
    | _, _, .non => by simp [PyData.hasDict]
    | _, _, .bl b => by simp [PyData.hasDict]
    | _, _, .int i => by simp [PyData.hasDict]
    | _, _, .str x => by simp [PyData.hasDict]
    | _, _, .lst _ h => by simp only [PyData.hasDict]; exact dps_noDict h
    | _, _, .tup _ h => by simp only [PyData.hasDict]; exact dps_noDict h
  dps_noDict {K : PySem.W.Frag} {H : Hp} : ∀ {ds : List PyData} {vs : List V}, DpAll K H vs ds → PyData.hasDictAll ds = false
    | _, _, .nil => by simp [PyData.hasDictAll]
    | _, _, .cons h t => by simp only [PyData.hasDictAll, dp_noDict h, dps_noDict t, Bool.or_self]
theorem call_D (hc : X.calm = true) (hg : X.A.guards = some []) (hu : X.A.units + 66 < cLine) (b : Bi) : CallR X (biV b) (rBi X.K W (biD b)) := by
  intro pins s σ H vs us Q I rv h
  obtain ⟨g, Hk, ds, d, w, r, e, q⟩ := h
  cases b with
  | len =>
    match ds, e with
    | [.tup xs], e =>
      obtain ⟨x, rfl, a, ys, rfl, h1, h2⟩ := len1 r
      simp only [biD, Option.some.injEq] at e
      subst e
      refine call_len_seq pins s σ H _ us Q I rv ⟨a, ys, rfl, .inr (ex_t w.ex h1), ?_⟩
      rw [h2.len]; exact sameI w q
    | [.lst xs], e =>
      obtain ⟨x, rfl, a, ys, rfl, h1, h2⟩ := len1 r
      simp only [biD, Option.some.injEq] at e
      subst e
      refine call_len_seq pins s σ H _ us Q I rv ⟨a, ys, rfl, .inl (SqL.of (w.ex _ _ h1)), ?_⟩
      rw [h2.len]; exact sameI w q
    | [.scr ns], e =>
      obtain ⟨x, rfl, a, rfl, h1⟩ := len1 r
      simp only [biD, Option.some.injEq] at e
      subst e
      refine call_len_seq pins s σ H _ us Q I rv ⟨a, _, rfl, .inl (ex_l w.ex h1), ?_⟩
      rw [List.length_map]; exact sameI w q
    | [.str x], e =>
      obtain ⟨y, rfl, h1⟩ := len1 r
      rw [show y = .str x from h1] at rv
      simp only [biD] at e
      split at e
      · rename_i hz
        cases e
        exact call_len_str pins s σ H _ us Q I rv ⟨x, rfl, size_le hz, sameI w q⟩
      · cases e
    | [.non], e => simp [biD] at e
    | [.bl _], e => simp [biD] at e
    | [.int _], e => simp [biD] at e
    | [.m], e => simp [biD] at e
    | [], e => simp [biD] at e
    | _ :: _ :: _, e => simp [biD] at e
  | all =>
    match ds, e with
    | [.lst xs], e =>
      obtain ⟨x, rfl, a, ys, rfl, h1, h2⟩ := len1 r
      simp only [biD, Option.map_eq_some_iff] at e
      obtain ⟨bs, eb, rfl⟩ := e
      rw [h2.bls eb] at h1
      exact cr_all hc pins s σ H _ us Q I rv ⟨a, bs, rfl, SqL.of (w.ex _ _ h1), sameB w q⟩
    | [.tup _], e => simp [biD] at e
    | [.str _], e => simp [biD] at e
    | [.non], e => simp [biD] at e
    | [.bl _], e => simp [biD] at e
    | [.int _], e => simp [biD] at e
    | [.m], e => simp [biD] at e
    | [.scr _], e => simp [biD] at e
    | [], e => simp [biD] at e
    | _ :: _ :: _, e => simp [biD] at e
  | any =>
    match ds, e with
    | [.lst xs], e =>
      obtain ⟨x, rfl, a, ys, rfl, h1, h2⟩ := len1 r
      simp only [biD, Option.map_eq_some_iff] at e
      obtain ⟨bs, eb, rfl⟩ := e
      rw [h2.bls eb] at h1
      exact cr_any hc pins s σ H _ us Q I rv ⟨a, bs, rfl, SqL.of (w.ex _ _ h1), sameB w q⟩
    | [.tup _], e => simp [biD] at e
    | [.str _], e => simp [biD] at e
    | [.non], e => simp [biD] at e
    | [.bl _], e => simp [biD] at e
    | [.int _], e => simp [biD] at e
    | [.m], e => simp [biD] at e
    | [.scr _], e => simp [biD] at e
    | [], e => simp [biD] at e
    | _ :: _ :: _, e => simp [biD] at e
  | sum =>
    match ds, e with
    | [.lst xs], e =>
      obtain ⟨x, rfl, a, ys, rfl, h1, h2⟩ := len1 r
      simp only [biD, Option.map_eq_some_iff] at e
      obtain ⟨ns, en, rfl⟩ := e
      rw [h2.ints en] at h1
      exact cr_sum hc pins s σ H _ us Q I rv ⟨a, ns, rfl, SqL.of (w.ex _ _ h1), sameI w q⟩
    | [.tup xs], e =>
      obtain ⟨x, rfl, a, ys, rfl, h1, h2⟩ := len1 r
      simp only [biD, Option.map_eq_some_iff] at e
      obtain ⟨ns, en, rfl⟩ := e
      rw [h2.ints en] at h1
      exact cr_sumT hc pins s σ H _ us Q I rv ⟨a, ns, rfl, ex_t w.ex h1, sameI w q⟩
    | [.str _], e => simp [biD] at e
    | [.non], e => simp [biD] at e
    | [.bl _], e => simp [biD] at e
    | [.int _], e => simp [biD] at e
    | [.m], e => simp [biD] at e
    | [.scr _], e => simp [biD] at e
    | [], e => simp [biD] at e
    | _ :: _ :: _, e => simp [biD] at e
  | max =>
    match ds, e with
    | [.lst xs], e =>
      obtain ⟨x, rfl, a, ys, rfl, h1, h2⟩ := len1 r
      simp only [biD, Option.bind_eq_some_iff] at e
      obtain ⟨ns, en, e⟩ := e
      rw [h2.ints en] at h1
      cases ns with
      | nil => cases e
      | cons n ns =>
        cases e
        refine cr_max hc pins s σ H _ us Q I rv ⟨a, n :: ns, rfl, SqL.of (w.ex _ _ h1), by simp, fun m hm hy => ?_⟩
        have e : m = maxI n ns := Int.le_antisymm ((maxI_mem ns n).2 m hm) (hy _ (maxI_mem ns n).1)
        rw [e]; exact sameI w q
    | [.tup _], e => simp [biD] at e
    | [.str _], e => simp [biD] at e
    | [.non], e => simp [biD] at e
    | [.bl _], e => simp [biD] at e
    | [.int _], e => simp [biD] at e
    | [.m], e => simp [biD] at e
    | [.scr _], e => simp [biD] at e
    | [], e => simp [biD] at e
    | _ :: _ :: _, e => simp [biD] at e
  | min =>
    match ds, e with
    | [.lst xs], e =>
      obtain ⟨x, rfl, a, ys, rfl, h1, h2⟩ := len1 r
      simp only [biD, Option.bind_eq_some_iff] at e
      obtain ⟨ns, en, e⟩ := e
      rw [h2.ints en] at h1
      cases ns with
      | nil => cases e
      | cons n ns =>
        cases e
        refine cr_min hc pins s σ H _ us Q I rv ⟨a, n :: ns, rfl, SqL.of (w.ex _ _ h1), by simp, fun m hm hy => ?_⟩
        have e : m = minI n ns := Int.le_antisymm (hy _ (minI_mem ns n).1) ((minI_mem ns n).2 m hm)
        rw [e]; exact sameI w q
    | [.tup _], e => simp [biD] at e
    | [.str _], e => simp [biD] at e
    | [.non], e => simp [biD] at e
    | [.bl _], e => simp [biD] at e
    | [.int _], e => simp [biD] at e
    | [.m], e => simp [biD] at e
    | [.scr _], e => simp [biD] at e
    | [], e => simp [biD] at e
    | _ :: _ :: _, e => simp [biD] at e
  | max2 =>
    have hh : ∃ i j, ds = [.int i, .int j] ∧ d = .int (if i < j then j else i) := by
      match ds, e with
      | [.int i, .int j], e => simp only [biD, Option.some.injEq] at e; exact ⟨i, j, rfl, e.symm⟩
      | [], e => simp [biD] at e
      | [_], e => simp [biD] at e
      | [.int _, .non], e => simp [biD] at e
      | [.int _, .bl _], e => simp [biD] at e
      | [.int _, .str _], e => simp [biD] at e
      | [.int _, .tup _], e => simp [biD] at e
      | [.int _, .lst _], e => simp [biD] at e
      | [.int _, .m], e => simp [biD] at e
      | [.int _, .scr _], e => simp [biD] at e
      | [.non, _], e => simp [biD] at e
      | [.bl _, _], e => simp [biD] at e
      | [.str _, _], e => simp [biD] at e
      | [.tup _, _], e => simp [biD] at e
      | [.lst _, _], e => simp [biD] at e
      | [.m, _], e => simp [biD] at e
      | [.scr _, _], e => simp [biD] at e
      | _ :: _ :: _ :: _, e => simp [biD] at e
    obtain ⟨i, j, rfl, rfl⟩ := hh
    obtain ⟨x, y, rfl, h1, h2⟩ := len2 r
    rw [show x = .int i from h1, show y = .int j from h2] at rv
    exact call_max2 hc pins s σ H _ us Q I rv ⟨i, j, rfl, sameI w q⟩
  | min2 =>
    have hh : ∃ i j, ds = [.int i, .int j] ∧ d = .int (if j < i then j else i) := by
      match ds, e with
      | [.int i, .int j], e => simp only [biD, Option.some.injEq] at e; exact ⟨i, j, rfl, e.symm⟩
      | [], e => simp [biD] at e
      | [_], e => simp [biD] at e
      | [.int _, .non], e => simp [biD] at e
      | [.int _, .bl _], e => simp [biD] at e
      | [.int _, .str _], e => simp [biD] at e
      | [.int _, .tup _], e => simp [biD] at e
      | [.int _, .lst _], e => simp [biD] at e
      | [.int _, .m], e => simp [biD] at e
      | [.int _, .scr _], e => simp [biD] at e
      | [.non, _], e => simp [biD] at e
      | [.bl _, _], e => simp [biD] at e
      | [.str _, _], e => simp [biD] at e
      | [.tup _, _], e => simp [biD] at e
      | [.lst _, _], e => simp [biD] at e
      | [.m, _], e => simp [biD] at e
      | [.scr _, _], e => simp [biD] at e
      | _ :: _ :: _ :: _, e => simp [biD] at e
    obtain ⟨i, j, rfl, rfl⟩ := hh
    obtain ⟨x, y, rfl, h1, h2⟩ := len2 r
    rw [show x = .int i from h1, show y = .int j from h2] at rv
    exact call_min2 hc pins s σ H _ us Q I rv ⟨i, j, rfl, sameI w q⟩
  | maxd =>
    match ds, e with
    | [.lst xs], e =>
      obtain ⟨x, rfl, a, ys, rfl, h1, h2⟩ := len1 r
      simp only [biD] at e
      split at e
      · rename_i hk
        cases xs with
        | nil => cases e
        | cons n ns =>
          cases e
          rw [Vals.ref1 rv]
          exact call_maxd hc hu I w.ex (SqL.of (w.ex _ _ h1)) h2 hk fun v hv => same w hv q
      · cases e
    | [.tup _], e => simp [biD] at e
    | [.str _], e => simp [biD] at e
    | [.non], e => simp [biD] at e
    | [.bl _], e => simp [biD] at e
    | [.int _], e => simp [biD] at e
    | [.m], e => simp [biD] at e
    | [.scr _], e => simp [biD] at e
    | [], e => simp [biD] at e
    | _ :: _ :: _, e => simp [biD] at e
  | mind =>
    match ds, e with
    | [.lst xs], e =>
      obtain ⟨x, rfl, a, ys, rfl, h1, h2⟩ := len1 r
      simp only [biD] at e
      split at e
      · rename_i hk
        cases xs with
        | nil => cases e
        | cons n ns =>
          cases e
          rw [Vals.ref1 rv]
          exact call_mind hc hu I w.ex (SqL.of (w.ex _ _ h1)) h2 hk fun v hv => same w hv q
      · cases e
    | [.tup _], e => simp [biD] at e
    | [.str _], e => simp [biD] at e
    | [.non], e => simp [biD] at e
    | [.bl _], e => simp [biD] at e
    | [.int _], e => simp [biD] at e
    | [.m], e => simp [biD] at e
    | [.scr _], e => simp [biD] at e
    | [], e => simp [biD] at e
    | _ :: _ :: _, e => simp [biD] at e
  | sorted =>
    match ds, e with
    | [.lst xs], e =>
      obtain ⟨x, rfl, a, ys, rfl, h1, h2⟩ := len1 r
      simp only [biD, Option.map_eq_some_iff] at e
      obtain ⟨ns, en, rfl⟩ := e
      rw [h2.ints en] at h1
      refine cr_sortedI pins s σ H _ us Q I rv ⟨a, ns, rfl, SqL.of (w.ex _ _ h1), fun ns' p hp hs hn => ?_⟩
      have e : ns' = sortI ns := PySem.W.ksm_same (hp.trans (sortI_perm ns).symm) hs (sortI_sorted ns)
      rw [e]
      exact new_lst w (RpL.ofInts _) q p hn
    | [.tup xs], e =>
      obtain ⟨x, rfl, a, ys, rfl, h1, h2⟩ := len1 r
      simp only [biD, Option.map_eq_some_iff] at e
      obtain ⟨ns, en, rfl⟩ := e
      rw [h2.ints en] at h1
      refine cr_sortT pins s σ H _ us Q I rv ⟨a, ns, rfl, ex_t w.ex h1, fun ns' p hp hs hn => ?_⟩
      have e : ns' = sortI ns := PySem.W.ksm_same (hp.trans (sortI_perm ns).symm) hs (sortI_sorted ns)
      rw [e]
      exact new_lst w (RpL.ofInts _) q p hn
    | [.str _], e => simp [biD] at e
    | [.non], e => simp [biD] at e
    | [.bl _], e => simp [biD] at e
    | [.int _], e => simp [biD] at e
    | [.m], e => simp [biD] at e
    | [.scr _], e => simp [biD] at e
    | [], e => simp [biD] at e
    | _ :: _ :: _, e => simp [biD] at e
  | tuple =>
    match ds, e with
    | [.lst xs], e =>
      obtain ⟨x, rfl, a, ys, rfl, h1, h2⟩ := len1 r
      simp only [biD, Option.some.injEq] at e
      subst e
      exact call_tuple_of pins s σ H _ us Q I rv ⟨a, ys, rfl, .inl ⟨SqL.of (w.ex _ _ h1), new_tup w h2 q⟩⟩
    | [.tup xs], e =>
      obtain ⟨x, rfl, a, ys, rfl, h1, h2⟩ := len1 r
      simp only [biD, Option.some.injEq] at e
      subst e
      exact call_tuple_of pins s σ H _ us Q I rv ⟨a, ys, rfl, .inr ⟨ex_t w.ex h1, same (d := .tup xs) w ⟨a, ys, rfl, h1, h2⟩ q⟩⟩
    | [.str _], e => simp [biD] at e
    | [.non], e => simp [biD] at e
    | [.bl _], e => simp [biD] at e
    | [.int _], e => simp [biD] at e
    | [.m], e => simp [biD] at e
    | [.scr _], e => simp [biD] at e
    | [], e => simp [biD] at e
    | _ :: _ :: _, e => simp [biD] at e
  | list =>
    match ds, e with
    | [.lst xs], e =>
      obtain ⟨x, rfl, a, ys, rfl, h1, h2⟩ := len1 r
      simp only [biD, Option.some.injEq] at e
      subst e
      exact call_list_of pins s σ H _ us Q I rv ⟨a, ys, rfl, .inl (SqL.of (w.ex _ _ h1)), new_lst w h2 q⟩
    | [.tup xs], e =>
      obtain ⟨x, rfl, a, ys, rfl, h1, h2⟩ := len1 r
      simp only [biD, Option.some.injEq] at e
      subst e
      exact call_list_of pins s σ H _ us Q I rv ⟨a, ys, rfl, .inr (ex_t w.ex h1), new_lst w h2 q⟩
    | [.dct ks ws], e =>
      obtain ⟨x, rfl, a, o, xs, rfl, h1, h2, h3, h4, h5, h6, h7⟩ := len1 r
      simp only [biD] at e
      split at e
      · rename_i hz
        cases e
        rw [Vals.ref1 rv]
        have hl : xs.length = ks.length := by rw [← h6.len, List.length_map]
        exact call_listX hc I h2 (w.ex _ _ h1) h3 (size_le (by rw [hl]; exact hz)) (new_lst w h6 q)
      · cases e
    | [.str _], e => simp [biD] at e
    | [.non], e => simp [biD] at e
    | [.bl _], e => simp [biD] at e
    | [.int _], e => simp [biD] at e
    | [.m], e => simp [biD] at e
    | [.scr _], e => simp [biD] at e
    | [], e => simp [biD] at e
    | _ :: _ :: _, e => simp [biD] at e
  | sortd =>
    match ds, e with
    | [.lst xs], e =>
      obtain ⟨x, rfl, a, ys, rfl, h1, h2⟩ := len1 r
      simp only [biD] at e
      split at e
      · rename_i hk
        simp only [Bool.and_eq_true] at hk
        cases e
        rw [Vals.ref1 rv]
        exact call_sortd hu I w.ex (SqL.of (w.ex _ _ h1)) h2 hk.1 hk.2 fun p acc hp ra => new_lst w ra q p hp
      · cases e
    | [.str _], e => simp [biD] at e
    | [.non], e => simp [biD] at e
    | [.bl _], e => simp [biD] at e
    | [.int _], e => simp [biD] at e
    | [.m], e => simp [biD] at e
    | [.scr _], e => simp [biD] at e
    | [.tup _], e => simp [biD] at e
    | [.dct _ _], e => simp [biD] at e
    | [], e => simp [biD] at e
    | _ :: _ :: _, e => simp [biD] at e
  | int =>
    match ds, e with
    | [.int i], e =>
      obtain ⟨x, rfl, h1⟩ := len1 r
      rw [show x = .int i from h1] at rv
      simp only [biD, Option.some.injEq] at e
      subst e
      exact call_int1 pins s σ H _ us Q I rv (.inl ⟨i, rfl, sameI w q⟩)
    | [.bl b], e =>
      obtain ⟨x, rfl, h1⟩ := len1 r
      rw [show x = .bl b from h1] at rv
      simp only [biD, Option.some.injEq] at e
      subst e
      exact call_int1 pins s σ H _ us Q I rv (.inr ⟨b, rfl, sameI w q⟩)
    | [.tup _], e => simp [biD] at e
    | [.str _], e => simp [biD] at e
    | [.non], e => simp [biD] at e
    | [.lst _], e => simp [biD] at e
    | [.m], e => simp [biD] at e
    | [.scr _], e => simp [biD] at e
    | [], e => simp [biD] at e
    | _ :: _ :: _, e => simp [biD] at e
  | repr =>
    match ds, e with
    | [], e => simp [biD] at e
    | _ :: _ :: _, e => simp [biD] at e
    | [x], e =>
      simp only [biD] at e
      split at e
      · rename_i hh
        simp only [Bool.and_eq_true, decide_eq_true_eq] at hh
        cases e
        obtain ⟨v, rfl, h1⟩ := len1 r
        obtain ⟨u, rfl, ru⟩ := vals1 rv
        exact call_repr_D hg hu I ((h1.mono w.ex).dp hh.1.1.1) ru hh.1.1.2 hh.1.2 hh.2 (sameS w q)
      · cases e
end
end Bk

set_option Elab.async false
set_option linter.all false
set_option maxRecDepth 100000
set_option maxHeartbeats 1000000
/-! What loops walk: lists, tuples, ranges, zip and enumerate over lists and tuples in any mix. -/
namespace PySem
open Sem (wp)
set_option maxHeartbeats 1000000 in
theorem bk_enum_new1 {v : Value} {o : Obj} {H : Heap → Prop} (B : Begins v o H) :
    Meets (Builtin.«enumerate.__new__» ⟨[.type "enumerate", v], []⟩) (fun _ R s => H s.heap ∧
      R (.ok (.ret (.ref (s.heap.push o).objs.size))) { s with heap := (s.heap.push o).push { cls := .type "enumerate", data := .fields #[.none, .bool false, .ref s.heap.objs.size, rawInt 0, .none, .none] } }) :=
  .of_wp fun prog w A R s h => by
    obtain ⟨hp, g, d, tk, os⟩ := s; obtain ⟨h1, h⟩ := h
    have hsub := sub_enumerate
    have q1 : ∀ {A' : Around} {E : Value → Shared → Prop} {Q : Value → Shared → Prop}, Q (.ref hp.objs.size) ⟨hp.push o, g, d, tk, os⟩ → wpAny (model prog w) A' (pyIter v) Q E ⟨hp, g, d, tk, os⟩ :=
      fun q => B.iter prog w _ _ ⟨hp, g, d, tk, os⟩ _ h1 q
    wp_walk using q1
    refine wpAny_stack_any fun st => wpAny_pure ?_
    split
    · rename_i c _ _ _ _ _
      cases (c == Value.type "enumerate")
      · wp_walk using q1
        exact ⟨_, rfl, h⟩
      · wp_walk using q1
        exact ⟨_, rfl, h⟩
    · wp_walk using q1
      exact ⟨_, rfl, h⟩
theorem bk_enum_begins1 {prog : Program} {w : World} {A : Around} {E : Value → Shared → Prop} {s : Shared} {v : Value} {o : Obj} {H : Heap → Prop} {Q : Value → Shared → Prop} (B : Begins v o H) (h1 : H s.heap)
    (h : ∀ h', IsEnum h' (s.heap.objs.size + 1) s.heap.objs.size 0 .none → h'.get? s.heap.objs.size = some o → h'.objs.size = s.heap.objs.size + 2 →
      (∀ b o, s.heap.get? b = some o → h'.get? b = some o) → Q (.ref (s.heap.objs.size + 1)) { s with heap := h' }) :
    wpAny (model prog w) A (call (.type "enumerate") [v]) Q E s := by
  refine callType_new F.called_enumerate (by decide) (F.typeCall_enumerate_1 _) (F.newCall_enumerate_1 _) (fun obj => F.args_object_init_2 obj _) F.entry_enumerate_new
    (bk_enum_new1 B) ⟨h1, ?_⟩
  have hz : (s.heap.push o).objs.size = s.heap.objs.size + 1 := Heap.size_push ..
  show _ ∧ _
  rw [hz]
  have he : IsEnum ((s.heap.push o).push { cls := .type "enumerate", data := .fields #[.none, .bool false, .ref s.heap.objs.size, rawInt 0, .none, .none] }) (s.heap.objs.size + 1) s.heap.objs.size 0 .none := by
    have := Heap.get?_push_size (s.heap.push o) (o := { cls := .type "enumerate", data := .fields #[.none, .bool false, .ref s.heap.objs.size, rawInt 0, .none, .none] }) rfl
    rw [hz] at this; exact this
  refine ⟨⟨_, he, rfl⟩, h _ he (Heap.get?_push_of_some _ (Heap.get?_push_size _ B.free)) (by rw [Heap.size_push, hz]) fun b o x => Heap.get?_push_of_some _ (Heap.get?_push_of_some _ x)⟩
end PySem
namespace Bk
open PySem L2
open Evl (Ex ex_l ex_t)
/-! ### a list (true) or a tuple (false) -/
def qI : Bool → Heap → Addr → Addr → Nat → Prop
  | true, h, it, a, i => h.IsListIter it a i
  | false, h, it, a, i => h.IsTupleIter it a i
def qS : Bool → Heap → Addr → Array Value → Prop
  | true, h, a, its => h.IsList a its
  | false, h, a, its => h.IsTuple a its
def SqB (K : PySem.W.Frag) : Bool → Hp → Addr → List V → Prop
  | true, H, a, xs => SqL K H a xs
  | false, H, a, xs => SqT K H a xs
def itO : Bool → Addr → Obj
  | true, a => { cls := .type "list_iterator", data := .fields #[.ref a, .int 0 0] }
  | false, a => { cls := .type "tuple_iterator", data := .fields #[.ref a, .int 0 0] }
theorem qI.at : ∀ {b : Bool} {h h' : Heap} {it a : Addr} {i : Nat}, qI b h it a i → (∀ o, h.get? it = some o → h'.get? it = some o) → qI b h' it a i
  | true, _, _, _, _, _, q, k => Heap.IsListIter.at q k
  | false, _, _, _, _, _, q, k => Heap.IsTupleIter.at q k
theorem qI.obj : ∀ {b : Bool} {h : Heap} {it a : Addr} {i : Nat}, qI b h it a i → ∃ o, h.get? it = some o ∧ ∀ v, o.data ≠ .cell v
  | true, _, _, _, _, ⟨o, e, _, d⟩ => ⟨o, e, fun v z => by rw [d] at z; cases z⟩
  | false, _, _, _, _, ⟨o, e, _, d⟩ => ⟨o, e, fun v z => by rw [d] at z; cases z⟩
theorem qI_new : ∀ (b : Bool) {h : Heap} {it a : Addr}, h.get? it = some (itO b a) → qI b h it a 0
  | true, _, _, _, e => ⟨_, e, rfl, rfl⟩
  | false, _, _, _, e => ⟨_, e, rfl, rfl⟩
theorem qS_lt : ∀ {b : Bool} {h : Heap} {a : Addr} {its : Array Value}, qS b h a its → a < h.objs.size
  | true, _, _, _, q => by obtain ⟨_, e, _⟩ := q; exact Heap.lt_size e
  | false, _, _, _, q => by obtain ⟨_, e, _⟩ := q; exact Heap.lt_size e
theorem begins_B : ∀ (b : Bool) (a : Addr) (its : Array Value), Begins (.ref a) (itO b a) (fun h => qS b h a its)
  | true, a, its => begins_list a its
  | false, a, its => begins_tuple a its
theorem draws_B {prog : Program} {w : World} {A : Around} (hh : A.handled = none) : ∀ (b : Bool) (it a : Addr) (hne : a ≠ it) (its : Array Value),
    Draws prog w A it [it, a] its.size (fun i v => its[i]? = some v) (fun i h => qI b h it a i ∧ qS b h a its)
  | true, it, a, hne, its => Draws.list hh it a hne its
  | false, it, a, hne, its => Draws.tuple hh it a hne its
section
variable {X : Cx} {pins : List (Addr × Obj)} {σ : St} {H : Hp} {s : Shared}
theorem inv_seqB (I : L2.Inv X pins σ H s) : ∀ {b : Bool} {a : Addr} {xs : List V}, SqB X.K b H a xs → ∃ its : List Value, Vals xs its ∧ qS b s.heap a its.toArray ∧ xs.length ≤ sizeLine
  | true, a, xs, h => by obtain ⟨its, r, p, z⟩ := I.list h; exact ⟨its, r, p.isList, z⟩
  | false, a, xs, h => by obtain ⟨its, r, p, z⟩ := I.tuple h; exact ⟨its, r, p, z⟩
theorem inv_seqB_inj (I : L2.Inv X pins σ H s) : ∀ {b : Bool} {a : Addr} {xs ys : List V}, SqB X.K b H a xs → SqB X.K b H a ys → xs = ys
  | true, _, _, _, h, h' => I.list_inj h h'
  | false, _, _, _, h, h' => I.tuple_inj h h'
end
/-! ### zip -/
def ItzB (K : PySem.W.Frag) (b1 b2 : Bool) (a b : Addr) : It :=
  ⟨fun i H => ∃ (xs ys : List V) (x y : V), SqB K b1 H a xs ∧ SqB K b2 H b ys ∧ xs[i]? = some x ∧ ys[i]? = some y,
    fun i H v H' => ∃ T x y, v = .ref T ∧ H T = none ∧ H' = upd H T (.tup [x, y]) ∧ (∀ xs, SqB K b1 H a xs → xs[i]? = some x) ∧ ∀ ys, SqB K b2 H b ys → ys[i]? = some y,
    fun i H => ∃ xs ys : List V, SqB K b1 H a xs ∧ SqB K b2 H b ys ∧ i = min xs.length ys.length⟩
theorem turn_zipB {P : Program} {w : World} {K : PySem.W.Frag} {elts : List Expr} {kk : Nat} {tpos : Pos} {b1 b2 : Bool} {a b z TI TO i1 i2 : Addr} (S : ZipSep2 z TI TO i1 i2 [i1, a] [i2, b]) (h1 : a ≠ i1) (h2 : b ≠ i2) :
    Turn P w K (.Tuple elts kk tpos) (ItzB K b1 b2 a b) [z, TI, TO, i1, i2] z
      (fun i h => IsZip h z TI TO .none ∧ IsTupOf2 h TI (.ref i1) (.ref i2) ∧ (∃ x y, IsTupOf2 h TO x y) ∧ qI b1 h i1 a i ∧ qI b2 h i2 b i) where
  mem := by simp
  obj := fun i h st c hc => by
    obtain ⟨hz, hTI, ⟨x, y, hTO⟩, q1, q2⟩ := st
    have e' : c = z ∨ c = TI ∨ c = TO ∨ c = i1 ∨ c = i2 := by simpa using hc
    rcases e' with q | q | q | q | q
    · rw [q]; exact ⟨_, hz, fun v r => nomatch r⟩
    · rw [q]; exact ⟨_, hTI, fun v r => nomatch r⟩
    · rw [q]; exact ⟨_, hTO, fun v r => nomatch r⟩
    · rw [q]; exact q1.obj
    · rw [q]; exact q2.obj
  keep := fun i h h' st k => by
    obtain ⟨hz, hTI, ⟨x, y, hTO⟩, q1, q2⟩ := st
    exact ⟨k z (by simp) _ hz, k TI (by simp) _ hTI, ⟨x, y, k TO (by simp) _ hTO⟩, q1.at fun o e => k i1 (by simp) o e, q2.at fun o e => k i2 (by simp) o e⟩
  item := by
    intro X hP hw hK hc i pins s σ H E I hf st hg
    subst hP hw hK
    obtain ⟨hz, hTI, hTO, q1, q2⟩ := st
    obtain ⟨xs, ys, x, y, hx, hy, ex, ey⟩ := hg
    obtain ⟨its1, r1, s1, z1⟩ := inv_seqB I hx
    obtain ⟨its2, r2, s2, z2⟩ := inv_seqB I hy
    have hh := I.ok.hd hc
    have WT := WalksT.zipD2 (prog := X.prog) (w := X.w) (A := X.A) S (draws_B (A := X.A.in1) hh b1 i1 a h1 its1.toArray) (draws_B (A := X.A.in1) hh b2 i2 b h2 its2.toArray)
    have l1 : i < its1.toArray.size := by rw [List.size_toArray, ← r1.length]; exact (List.getElem?_eq_some_iff.mp ex).1
    have l2 : i < its2.toArray.size := by rw [List.size_toArray, ← r2.length]; exact (List.getElem?_eq_some_iff.mp ey).1
    refine WT.item i s _ E (by omega) ⟨hz, hTI, hTO, ⟨q1, s1⟩, ⟨q2, s2⟩⟩ fun T vals h' tk hp hsz hT hm hk => ⟨_, rfl, ?_⟩
    refine WT.go elts kk tpos i T { s with heap := h', toks := tk } _ E hm fun h'' st'' hk'' => ?_
    obtain ⟨v1, v2, e1, e2, rfl⟩ := hp
    obtain ⟨u1, f1, ru1⟩ := r1.get ex
    obtain ⟨u2, f2, ru2⟩ := r2.get ey
    have g1 : u1 = v1 := by rw [List.getElem?_toArray, f1] at e1; exact Option.some.inj e1
    have g2 : u2 = v2 := by rw [List.getElem?_toArray, f2] at e2; exact Option.some.inj e2
    subst g1 g2
    obtain ⟨oT, hoT, cT, nT, dT⟩ := hT
    have hT2 : h''.get? T = some oT := hk'' T oT (WT.apart _ _ _ hm) hoT
    have new : ObjOk X.prog X.w (upd H T (.tup [x, y])) h'' T (.tup [x, y]) := ⟨by show 2 ≤ sizeLine; decide, [u1, u2], .cons ru1 (.cons ru2 .nil), ⟨_, hT2, cT, nT, dT⟩⟩
    have sub : ∀ c, c ∉ [z, TI, TO, i1, i2] → c ∉ [z, TO, i1, i2] := fun c hc hm => hc (by
      have e' : c = z ∨ c = TO ∨ c = i1 ∨ c = i2 := by simpa using hm
      rcases e' with q | q | q | q <;> simp [q])
    have I1 : L2.Inv X pins σ (upd H T (.tup [x, y])) { s with heap := h'', toks := tk } :=
      I.turnedNew (ch := [z, TI, TO, i1, i2]) (fun c o hc e => hk'' c o (sub c hc) (hk c o (sub c hc) e)) hf hsz new
    obtain ⟨w1, w2, w3, w4, w5⟩ := st''
    refine ⟨.ref T, _, I1, rfl, ⟨T, x, y, rfl, I.hok.fresh hsz, rfl, fun zs hz => by rw [inv_seqB_inj I hz hx]; exact ex, fun zs hz => by rw [inv_seqB_inj I hz hy]; exact ey⟩, ⟨w1, w2, w3, w4.1, w5.1⟩, fun c hc => ?_⟩
    obtain ⟨o, ho, _⟩ : ∃ o, s.heap.get? c = some o ∧ True := by
      have e' : c = z ∨ c = TI ∨ c = TO ∨ c = i1 ∨ c = i2 := by simpa using hc
      obtain ⟨x0, y0, hTO⟩ := hTO
      rcases e' with q | q | q | q | q
      · rw [q]; exact ⟨_, hz, trivial⟩
      · rw [q]; exact ⟨_, hTI, trivial⟩
      · rw [q]; exact ⟨_, hTO, trivial⟩
      · rw [q]; obtain ⟨o, e, _⟩ := q1.obj; exact ⟨o, e, trivial⟩
      · rw [q]; obtain ⟨o, e, _⟩ := q2.obj; exact ⟨o, e, trivial⟩
    rw [upd_ne (Nat.ne_of_lt (Nat.lt_of_lt_of_le (Heap.lt_size ho) hsz))]
    exact (hf c hc).1
  done := by
    intro X hP hw hK hc i pins s σ H E I hf st hg
    subst hP hw hK
    obtain ⟨hz, hTI, hTO, q1, q2⟩ := st
    obtain ⟨xs, ys, hx, hy, hi⟩ := hg
    obtain ⟨its1, r1, s1, z1⟩ := inv_seqB I hx
    obtain ⟨its2, r2, s2, z2⟩ := inv_seqB I hy
    have hh := I.ok.hd hc
    have WT := WalksT.zipD2 (prog := X.prog) (w := X.w) (A := X.A) S (draws_B (A := X.A.in1) hh b1 i1 a h1 its1.toArray) (draws_B (A := X.A.in1) hh b2 i2 b h2 its2.toArray)
    have hl : i = min its1.toArray.size its2.toArray.size := by rw [List.size_toArray, List.size_toArray, ← r1.length, ← r2.length]; exact hi
    subst hl
    refine WT.done s _ E ⟨hz, hTI, hTO, ⟨q1, s1⟩, ⟨q2, s2⟩⟩ fun h' tk hk => ⟨rfl, I.turnedL (ch := [z, TI, TO, i1, i2]) (fun c o hc e => hk c o (fun hm => hc ?_) e) hf⟩
    have e' : c = z ∨ c = TO ∨ c = i1 ∨ c = i2 := by simpa using hm
    rcases e' with q | q | q | q <;> simp [q]
  self := fun A i s Q E st h => wpAny_pyIter_zip st.1 h
def iZipB (K : PySem.W.Frag) (ta : TA) : TI := fun σ H R => ta σ H fun vs H1 => ∃ b1 b2 a b xs ys, vs = [.ref a, .ref b] ∧ SqB K b1 H1 a xs ∧ SqB K b2 H1 b ys ∧ R (ItzB K b1 b2 a b) H1
theorem pi_zipB {X : Cx} {e e2 : Expr} {ta : TA} {p pos tpos : Pos} {elts : List Expr} {kk : Nat} (hg : Gl X "zip") (hm : X.mg "zip" = none) (ha : PA X [e, e2] ta)
    (hs : starEach [e, e2] X.env = (false, eval e X.env) :: starEach [e2] X.env) (hpl : (backTo pos (starEach [e2] X.env)).any (·.1) = false) :
    PI X (.Tuple elts kk tpos) (.Call (.Name "zip" p) [e, e2] [] pos) (iZipB X.K ta) := by
  refine ⟨fun pins s σ H R I h => ?_⟩
  refine PyProof.Rows.Call_ (ld_blt I hg hm PyProof.Rows.boot_zip (PyProof.Rows.callWith_type1 (thn (ha.run pos pins s σ H _ I h) fun us s1 ⟨vs, H1, I1, r1, q1⟩ => ?_) hs hpl))
  obtain ⟨b1, b2, a, b, xs, ys, ex, hqx, hqy, q⟩ := q1
  subst ex
  obtain ⟨u1, u2, rfl, ru1, ru2⟩ := vals2 r1
  cases ru1
  cases ru2
  obtain ⟨its1, rv1, p1, _⟩ := inv_seqB I1 hqx
  obtain ⟨its2, rv2, p2, _⟩ := inv_seqB I1 hqy
  have la := qS_lt p1
  have lb := qS_lt p2
  refine zip_begins2 (begins_B b1 a its1.toArray) (begins_B b2 b its2.toArray) p1 p2 fun h' hz hTI hTO h1 h2 hsz hk => wpAny_pyIter_zip hz ?_
  have I2 : L2.Inv X pins σ H1 { s1 with heap := h' } := I1.kept (t' := s1.toks) hk
  refine ⟨s1.heap.objs.size + 4, [s1.heap.objs.size + 4, s1.heap.objs.size + 2, s1.heap.objs.size + 3, s1.heap.objs.size, s1.heap.objs.size + 1], _, _, H1, rfl, I2,
    turn_zipB (zip_sep2 (fun c hc => by simp at hc; rw [hc]; exact la) (fun c hc => by simp at hc; rw [hc]; exact lb)) (Nat.ne_of_lt la) (Nat.ne_of_lt (Nat.lt_succ_of_lt lb)), ⟨hz, hTI, ⟨_, _, hTO⟩, qI_new _ h1, qI_new _ h2⟩, fun c hcm => ?_, q⟩
  have e' : c = s1.heap.objs.size + 4 ∨ c = s1.heap.objs.size + 2 ∨ c = s1.heap.objs.size + 3 ∨ c = s1.heap.objs.size ∨ c = s1.heap.objs.size + 1 := by simpa using hcm
  have hle : s1.heap.objs.size ≤ c := by
    rcases e' with z | z | z | z | z
    · rw [z]; exact Nat.le_add_right _ _
    · rw [z]; exact Nat.le_add_right _ _
    · rw [z]; exact Nat.le_add_right _ _
    · rw [z]; exact Nat.le_refl _
    · rw [z]; exact Nat.le_add_right _ _
  exact I1.fpOk hle (I1.hok.fresh hle)
/-! ### enumerate -/
def IteB (K : PySem.W.Frag) (b : Bool) (a : Addr) : It :=
  ⟨fun i H => ∃ (xs : List V) (x : V), SqB K b H a xs ∧ xs[i]? = some x, fun i H v H' => ∃ T x, v = .ref T ∧ H T = none ∧ H' = upd H T (.tup [.int (i : Nat), x]) ∧ ∀ xs, SqB K b H a xs → xs[i]? = some x, fun i H => ∃ xs : List V, SqB K b H a xs ∧ xs.length = i⟩
theorem turn_enumB {P : Program} {w : World} {K : PySem.W.Frag} {elts : List Expr} {kk : Nat} {tpos : Pos} {b : Bool} {a e it : Addr} (hae : a ≠ e) (hai : a ≠ it) (hei : e ≠ it) :
    Turn P w K (.Tuple elts kk tpos) (IteB K b a) [e, it] e (fun i h => (∃ old, IsEnum h e it (0 + ((i : Nat) : Int)) old) ∧ qI b h it a i) where
  mem := by simp
  obj := fun i h st c hc => by
    obtain ⟨⟨old, he⟩, q⟩ := st
    have e' : c = e ∨ c = it := by simpa using hc
    rcases e' with z | z
    · rw [z]; exact ⟨_, he, fun v q => nomatch q⟩
    · rw [z]; exact q.obj
  keep := fun i h h' st k => let ⟨⟨old, he⟩, q⟩ := st; ⟨⟨old, k e (by simp) _ he⟩, q.at fun o z => k it (by simp) o z⟩
  item := by
    intro X hP hw hK hc i pins s σ H E I hf st hg
    subst hP hw hK
    obtain ⟨he, q⟩ := st
    obtain ⟨xs, x, hx, ex⟩ := hg
    obtain ⟨its, r, p, hz⟩ := inv_seqB I hx
    have hh := I.ok.hd hc
    have WT := WalksT.enumFrom (prog := X.prog) (w := X.w) (A := X.A) 0 (draws_B (A := X.A.in1) hh b it a hai its.toArray) e hei (by simp [hei, Ne.symm hae]) (by simp)
    have l1 : i < its.toArray.size := by rw [List.size_toArray, ← r.length]; exact (List.getElem?_eq_some_iff.mp ex).1
    refine WT.item i s _ E l1 ⟨he, q, p⟩ fun T vals h' tk hp hsz hT hm hk => ⟨_, rfl, ?_⟩
    refine WT.go elts kk tpos i T { s with heap := h', toks := tk } _ E hm fun h'' st'' hk'' => ?_
    obtain ⟨t0, v1, e1, rfl⟩ := hp
    obtain ⟨u1, f1, ru1⟩ := r.get ex
    have g1 : u1 = v1 := by rw [List.getElem?_toArray, f1] at e1; exact Option.some.inj e1
    subst g1
    obtain ⟨oT, hoT, cT, nT, dT⟩ := hT
    have hT2 : h''.get? T = some oT := hk'' T oT (WT.apart _ _ _ hm) hoT
    have e0 : (0 : Int) + (i : Int) = ((i : Nat) : Int) := Int.zero_add _
    rw [e0] at dT
    have new : ObjOk X.prog X.w (upd H T (.tup [.int (i : Nat), x])) h'' T (.tup [.int (i : Nat), x]) := ⟨by show 2 ≤ sizeLine; decide, [.int i t0, u1], .cons ⟨_, rfl⟩ (.cons ru1 .nil), ⟨_, hT2, cT, nT, dT⟩⟩
    have I1 : L2.Inv X pins σ (upd H T (.tup [.int (i : Nat), x])) { s with heap := h'', toks := tk } :=
      I.turnedNew (ch := [e, it]) (fun c o hc z => hk'' c o hc (hk c o hc z)) hf hsz new
    refine ⟨.ref T, _, I1, rfl, ⟨T, x, rfl, I.hok.fresh hsz, rfl, fun zs hz => by rw [inv_seqB_inj I hz hx]; exact ex⟩, ⟨st''.1, st''.2.1⟩, fun c hc => ?_⟩
    obtain ⟨o, ho, _⟩ : ∃ o, s.heap.get? c = some o ∧ True := by
      have e' : c = e ∨ c = it := by simpa using hc
      obtain ⟨old, he⟩ := he
      rcases e' with z | z
      · rw [z]; exact ⟨_, he, trivial⟩
      · rw [z]; obtain ⟨o, e, _⟩ := q.obj; exact ⟨o, e, trivial⟩
    rw [upd_ne (Nat.ne_of_lt (Nat.lt_of_lt_of_le (Heap.lt_size ho) hsz))]
    exact (hf c hc).1
  done := by
    intro X hP hw hK hc i pins s σ H E I hf st hg
    subst hP hw hK
    obtain ⟨he, q⟩ := st
    obtain ⟨xs, hx, hi⟩ := hg
    obtain ⟨its, r, p, hz⟩ := inv_seqB I hx
    have hh := I.ok.hd hc
    have WT := WalksT.enumFrom (prog := X.prog) (w := X.w) (A := X.A) 0 (draws_B (A := X.A.in1) hh b it a hai its.toArray) e hei (by simp [hei, Ne.symm hae]) (by simp)
    have hl : i = its.toArray.size := by rw [List.size_toArray, ← r.length]; exact hi.symm
    subst hl
    exact WT.done s _ E ⟨he, q, p⟩ fun h' tk hk => ⟨rfl, I.turnedL (ch := [e, it]) (fun c o hc z => hk c o hc z) hf⟩
  self := fun A i s Q E st h => let ⟨⟨_, he⟩, _⟩ := st; wpAny_pyIter_enum he h
def iEnumB (K : PySem.W.Frag) (ta : TA) : TI := fun σ H R => ta σ H fun vs H1 => ∃ b a xs, vs = [.ref a] ∧ SqB K b H1 a xs ∧ R (IteB K b a) H1
theorem pi_enumB {X : Cx} {e : Expr} {ta : TA} {p pos tpos : Pos} {elts : List Expr} {kk : Nat} (hg : Gl X "enumerate") (hm : X.mg "enumerate" = none) (ha : PA X [e] ta) (hs : starEach [e] X.env = [(false, eval e X.env)]) :
    PI X (.Tuple elts kk tpos) (.Call (.Name "enumerate" p) [e] [] pos) (iEnumB X.K ta) := by
  refine ⟨fun pins s σ H R I h => ?_⟩
  refine PyProof.Rows.Call_ (ld_blt I hg hm PyProof.Rows.boot_enumerate (PyProof.Rows.callWith_type1 (thn (ha.run pos pins s σ H _ I h) fun us s1 ⟨vs, H1, I1, r1, q1⟩ => ?_) hs rfl))
  obtain ⟨b, a, xs, ex, hq, q⟩ := q1
  subst ex
  obtain ⟨u, rfl, ru⟩ := vals1 r1
  cases ru
  obtain ⟨its, rv, p', hz⟩ := inv_seqB I1 hq
  have la := qS_lt p'
  refine bk_enum_begins1 (begins_B b a its.toArray) p' fun h' he hit hsz hk => wpAny_pyIter_enum he ?_
  have I2 : L2.Inv X pins σ H1 { s1 with heap := h' } := I1.kept (t' := s1.toks) hk
  refine ⟨s1.heap.objs.size + 1, [s1.heap.objs.size + 1, s1.heap.objs.size], _, _, H1, rfl, I2, turn_enumB (Nat.ne_of_lt (Nat.lt_succ_of_lt la)) (Nat.ne_of_lt la) (Nat.succ_ne_self _), ⟨⟨.none, he⟩, qI_new _ hit⟩, fun c hc => ?_, q⟩
  have e' : c = s1.heap.objs.size + 1 ∨ c = s1.heap.objs.size := by simpa using hc
  have hle : s1.heap.objs.size ≤ c := by
    rcases e' with z | z
    · rw [z]; exact Nat.le_add_right _ _
    · rw [z]; exact Nat.le_refl _
  exact I1.fpOk hle (I1.hok.fresh hle)

/-! ### what is walked, as plain data -/
structure ItOk (K : PySem.W.Frag) (W : Wd) (J : It) (ds : List D) (Hk0 : Hp) : Prop where
  len : ds.length ≤ sizeLine
  go : ∀ i Hk H g, i < ds.length → Ex Hk0 Hk → Wk W g Hk H → J.go i H
  yld : ∀ i Hk H g x H' d, ds[i]? = some d → Ex Hk0 Hk → Wk W g Hk H → J.yld i H x H' → ∃ Hk', Step W Hk H Hk' H' ∧ DrawAt W g H' ∧ Rp K W Hk' d x
  stop : ∀ i Hk H g, i = ds.length → Ex Hk0 Hk → Wk W g Hk H → J.stop i H
section
variable {K : PySem.W.Frag} {W : Wd} {Hk0 : Hp}
theorem itOk_list {a : Addr} {xs : List V} {ds : List D} (hz : xs.length ≤ sizeLine) (h : Hk0 a = some (.lst xs)) (r : RpL K W Hk0 ds xs) : ItOk K W (Itl K a) ds Hk0 where
  len := by rw [← r.len]; exact hz
  go := fun i Hk H g hi e w => by
    have : i < xs.length := by rw [r.len]; exact hi
    exact ⟨xs, xs[i], SqL.of (w.ex _ _ (e _ _ h)), by simp [this]⟩
  yld := fun i Hk H g x H' d hd e w y => by
    obtain ⟨e1, hx⟩ := y
    subst e1
    obtain ⟨v, ev, rv⟩ := (r.mono e).get hd
    have e2 := hx xs (SqL.of (w.ex _ _ (e _ _ h)))
    rw [ev] at e2
    cases e2
    exact ⟨Hk, Step.refl w.ex, w.dr, rv⟩
  stop := fun i Hk H g hi e w => ⟨xs, SqL.of (w.ex _ _ (e _ _ h)), by rw [r.len, hi]; exact Nat.le_refl _⟩
theorem itOk_tup {a : Addr} {xs : List V} {ds : List D} (hz : xs.length ≤ sizeLine) (h : SqT K Hk0 a xs) (r : RpL K W Hk0 ds xs) : ItOk K W (Itt K a) ds Hk0 where
  len := by rw [← r.len]; exact hz
  go := fun i Hk H g hi e w => by
    have : i < xs.length := by rw [r.len]; exact hi
    exact ⟨xs, xs[i], ex_t w.ex (ex_t e h), by simp [this]⟩
  yld := fun i Hk H g x H' d hd e w y => by
    obtain ⟨e1, hx⟩ := y
    subst e1
    obtain ⟨v, ev, rv⟩ := (r.mono e).get hd
    have e2 := hx xs (ex_t w.ex (ex_t e h))
    rw [ev] at e2
    cases e2
    exact ⟨Hk, Step.refl w.ex, w.dr, rv⟩
  stop := fun i Hk H g hi e w => ⟨xs, ex_t w.ex (ex_t e h), by rw [r.len, hi]; exact Nat.le_refl _⟩
theorem rngD_len : ∀ (n : Nat) (a : Int), (rngD a n).length = n
  | 0, _ => rfl
  | n + 1, a => by rw [rngD, List.length_cons, rngD_len n]
theorem rngD_get : ∀ (n : Nat) (a : Int) (i : Nat) (d : D), (rngD a n)[i]? = some d → d = .int (a + i)
  | 0, _, _, _, h => by simp [rngD] at h
  | n + 1, a, 0, d, h => by simp [rngD] at h; rw [← h]; simp
  | n + 1, a, i + 1, d, h => by
    have := rngD_get n (a + 1) i d (by simpa [rngD] using h)
    rw [this]
    congr 1
    omega
theorem itOk_rng (lo : Int) (n : Nat) (hz : n ≤ 2000000) : ItOk K W (Itr lo n) (rngD lo n) Hk0 where
  len := by rw [rngD_len]; exact Nat.le_trans hz (by decide)
  go := fun i Hk H g hi e w => by rw [rngD_len] at hi; exact hi
  yld := fun i Hk H g x H' d hd e w y => by
    obtain ⟨e1, hx⟩ := y
    subst e1
    rw [rngD_get _ _ _ _ hd, hx]
    exact ⟨Hk, Step.refl w.ex, w.dr, rfl⟩
  stop := fun i Hk H g hi e w => by rw [rngD_len] at hi; exact Nat.le_of_eq hi.symm
theorem zipD_len : ∀ xs ys : List D, (zipD xs ys).length = min xs.length ys.length
  | [], _ => by simp [zipD]
  | _ :: _, [] => by simp [zipD]
  | x :: xs, y :: ys => by rw [zipD, List.length_cons, zipD_len, List.length_cons, List.length_cons]; omega
theorem zipD_get : ∀ (xs ys : List D) (i : Nat) (d : D), (zipD xs ys)[i]? = some d → ∃ x y, xs[i]? = some x ∧ ys[i]? = some y ∧ d = .tup [x, y]
  | [], _, _, _, h => by simp [zipD] at h
  | _ :: _, [], _, _, h => by simp [zipD] at h
  | x :: xs, y :: ys, 0, d, h => by simp [zipD] at h; exact ⟨x, y, rfl, rfl, h.symm⟩
  | x :: xs, y :: ys, i + 1, d, h => by simpa using zipD_get xs ys i d (by simpa [zipD] using h)
theorem enumD_len : ∀ (xs : List D) (n : Int), (enumD n xs).length = xs.length
  | [], _ => rfl
  | x :: xs, n => by rw [enumD, List.length_cons, enumD_len xs, List.length_cons]
theorem enumD_get : ∀ (xs : List D) (n : Int) (i : Nat) (d : D), (enumD n xs)[i]? = some d → ∃ x, xs[i]? = some x ∧ d = .tup [.int (n + i), x]
  | [], _, _, _, h => by simp [enumD] at h
  | x :: xs, n, 0, d, h => by simp [enumD] at h; exact ⟨x, rfl, by rw [← h]; simp⟩
  | x :: xs, n, i + 1, d, h => by
    obtain ⟨y, h1, h2⟩ := enumD_get xs (n + 1) i d (by simpa [enumD] using h)
    refine ⟨y, by simpa using h1, ?_⟩
    rw [h2]
    congr 3
    omega
theorem sqB_mono {b : Bool} {H H' : Hp} {a : Addr} {xs : List V} (e : Ex H H') (h : SqB K b H a xs) : SqB K b H' a xs := by
  cases b
  · exact ex_t e h
  · exact ex_l e h
theorem itOk_zip {b1 b2 : Bool} {a b : Addr} {xs ys : List V} {ds es : List D} (h1 : SqB K b1 Hk0 a xs) (h2 : SqB K b2 Hk0 b ys) (r1 : RpL K W Hk0 ds xs) (r2 : RpL K W Hk0 es ys) (hz : xs.length ≤ sizeLine) : ItOk K W (ItzB K b1 b2 a b) (zipD ds es) Hk0 where
  len := by rw [zipD_len, ← r1.len]; exact Nat.le_trans (Nat.min_le_left _ _) hz
  go := fun i Hk H g hi e w => by
    rw [zipD_len] at hi
    have l1 : i < xs.length := by rw [r1.len]; omega
    have l2 : i < ys.length := by rw [r2.len]; omega
    exact ⟨xs, ys, xs[i], ys[i], sqB_mono w.ex (sqB_mono e h1), sqB_mono w.ex (sqB_mono e h2), by simp [l1], by simp [l2]⟩
  yld := fun i Hk H g v H' d hd e w y => by
    obtain ⟨T, x, y, rfl, hT, rfl, hx, hy⟩ := y
    obtain ⟨dx, dy, e1, e2, rfl⟩ := zipD_get _ _ _ _ hd
    obtain ⟨v1, f1, g1⟩ := (r1.mono e).get e1
    obtain ⟨v2, f2, g2⟩ := (r2.mono e).get e2
    have k1 := hx xs (sqB_mono w.ex (sqB_mono e h1))
    have k2 := hy ys (sqB_mono w.ex (sqB_mono e h2))
    rw [f1] at k1
    rw [f2] at k2
    cases k1
    cases k2
    have s : Step W Hk H (upd Hk T (.tup [x, y])) (upd H T (.tup [x, y])) := Step.new w.ex hT
    exact ⟨_, s, w.dr.new hT, T, [x, y], rfl, SqT.of upd_same, .cons (g1.mono s.k) (.cons (g2.mono s.k) .nil)⟩
  stop := fun i Hk H g hi e w => ⟨xs, ys, sqB_mono w.ex (sqB_mono e h1), sqB_mono w.ex (sqB_mono e h2), by rw [hi, zipD_len, r1.len, r2.len]⟩
theorem itOk_enum {b : Bool} {a : Addr} {xs : List V} {ds : List D} (h1 : SqB K b Hk0 a xs) (r1 : RpL K W Hk0 ds xs) (hz : xs.length ≤ sizeLine) : ItOk K W (IteB K b a) (enumD 0 ds) Hk0 where
  len := by rw [enumD_len, ← r1.len]; exact hz
  go := fun i Hk H g hi e w => by
    rw [enumD_len] at hi
    have l1 : i < xs.length := by rw [r1.len]; omega
    exact ⟨xs, xs[i], sqB_mono w.ex (sqB_mono e h1), by simp [l1]⟩
  yld := fun i Hk H g v H' d hd e w y => by
    obtain ⟨T, x, rfl, hT, rfl, hx⟩ := y
    obtain ⟨dx, e1, rfl⟩ := enumD_get _ _ _ _ hd
    obtain ⟨v1, f1, g1⟩ := (r1.mono e).get e1
    have k1 := hx xs (sqB_mono w.ex (sqB_mono e h1))
    rw [f1] at k1
    cases k1
    have s : Step W Hk H (upd Hk T (.tup [.int (i : Nat), x])) (upd H T (.tup [.int (i : Nat), x])) := Step.new w.ex hT
    exact ⟨_, s, w.dr.new hT, T, [.int (i : Nat), x], rfl, SqT.of upd_same, .cons (by show _ = _; rw [Int.zero_add]) (.cons (g1.mono s.k) .nil)⟩
  stop := fun i Hk H g hi e w => ⟨xs, sqB_mono w.ex (sqB_mono e h1), by rw [hi, enumD_len, r1.len]⟩
/-- what is walked, from its value -/
theorem items_sq {d : D} {v : V} {ds : List D} (r : Rp K W Hk0 d v) (e : itemsD d = some ds) : ∃ b a xs, v = .ref a ∧ SqB K b Hk0 a xs ∧ RpL K W Hk0 ds xs := by
  cases d <;> (try (simp only [itemsD] at e; cases e; done))
  · simp only [itemsD, Option.some.injEq] at e
    subst e
    obtain ⟨a, xs, rfl, h1, h2⟩ := r
    exact ⟨false, a, xs, rfl, h1, h2⟩
  · simp only [itemsD, Option.some.injEq] at e
    subst e
    obtain ⟨a, xs, rfl, h1, h2⟩ := r
    exact ⟨true, a, xs, rfl, SqL.of h1, h2⟩
end
end Bk

set_option Elab.async false
set_option linter.all false
set_option maxRecDepth 100000
set_option maxHeartbeats 1000000
/-! Calls of defs, with the guards known to be none. -/
namespace Bk
open PySem PySem.Spec PyProof.Rows L2
open Evl (Ex ex_l ex_t)
structure FnOkG (P : Program) (w : World) (K : PySem.W.Frag) (mg : Str → Option Value) (base : Heap) (CX : CXT) (k : Nat) (f : Addr) (fd : FuncData) (ps : List Str) (sp : Sp) : Prop where
  len : ∀ vs H Q E, sp vs H Q E → vs.length = ps.length
  run : ∀ (A : Around) (outer : List Env) (s : Shared) (H : Hp) (args : Args) (us : List Value) (vs : List V) (Q : VK) (E : XK), Room k A → A.guards = some [] → Env0 P w K mg base A outer s H → BindsTo s fd args (ps.zip us) → Vals vs us → sp vs H Q E →
    codeAny (model P w) A (.call (.ref f) args) (CR CX outer P w H s Q E) s
section
variable {X : Cx} {CX : CXT} {k : Nat} {f C : Addr} {fd : FuncData} {ps : List Str} {sp : Sp} {dvs : List V} {ds : List Value} {E : XK} {x m : Str} {p pos apos : Pos} {e o : Expr} {es : List Expr} {ta : TE} {t : TA}
theorem run_fnG {pins : List (Addr × Obj)} {σ : L2.St} {H : Hp} {s : Shared} {Q : VK} {us : List Value} {vs : List V} (F : FnOkG X.prog X.w X.K X.mg X.base CX k f fd ps sp) (hr : Room k X.A) (hg : X.A.guards = some []) (hb : Binds X.K fd ps ds) (hd : Vals dvs ds) (hx : Passes CX X E)
    (I : L2.Inv X pins σ H s) (r : Vals vs us) (h : sp (vs ++ dvs) H Q E) : wpAny (model X.prog X.w) X.A (call (.ref f) us) (EP X pins σ Q) X.xe s := by
  have r2 : Vals (vs ++ dvs) (us ++ ds) := r.append hd
  have hl : (us ++ ds).length = ps.length := by rw [← r2.length]; exact F.len _ _ _ _ h
  refine wpAny_call (codeAny_mono (F.run X.A X.stack s H ⟨us, []⟩ (us ++ ds) (vs ++ dvs) Q E hr hg I.env0 (hb s us I.kIn hl) r2 h) fun r s' hq => ?_)
  cases r with
  | error e => exact hx pins σ H s e s' I hq
  | ok fl =>
    cases fl with
    | ret u => exact I.after hq
    | next => exact False.elim hq
    | brk => exact False.elim hq
    | cont => exact False.elim hq
theorem pe_callG (F : FnOkG X.prog X.w X.K X.mg X.base CX k f fd ps sp) (hr : Room k X.A) (hgd : X.A.guards = some []) (hg : Gl X x) (hm : X.mg x = some (.ref f)) (hk : PySem.W.keepIn X.K (.ref f) = true) (hb : Binds X.K fd ps ds) (hd : Vals dvs ds) (hx : Passes CX X E)
    (ha : PA X (e :: es) t) (hdb : (x == ("__debug__" : Str)) = false) (he : starEach (e :: es) X.env = (false, eval e X.env) :: starEach es X.env) (hpl : (backTo pos (starEach es X.env)).any (·.1) = false) :
    PE X (.Call (.Name x p) (e :: es) [] pos) (tCall sp dvs E t) := by
  refine ⟨fun pins s σ H Q I h => ?_⟩
  refine wpAny_Call_Name_kw (ld_glob I hg hm ?_ hdb)
  refine PySem.W.callWith_K (h₀ := X.base) I.ok.mod.kin hk (thn (ha.run pos pins s σ H _ I h) fun us s1 ⟨vs, H1, I1, r, q⟩ => ⟨I1.kIn, ?_⟩) he hpl
  exact run_fnG F hr hgd hb hd hx I1 r q
theorem pe_callG0 (F : FnOkG X.prog X.w X.K X.mg X.base CX k f fd ps sp) (hr : Room k X.A) (hgd : X.A.guards = some []) (hg : Gl X x) (hm : X.mg x = some (.ref f)) (hk : PySem.W.keepIn X.K (.ref f) = true) (hb : Binds X.K fd ps ds) (hd : Vals dvs ds) (hx : Passes CX X E)
    (hdb : (x == ("__debug__" : Str)) = false) : PE X (.Call (.Name x p) [] [] pos) (tCall sp dvs E tNil) := by
  refine ⟨fun pins s σ H Q I h => ?_⟩
  refine wpAny_Call_Name_kw (ld_glob I hg hm ?_ hdb)
  exact PySem.W.callWith_K0 I.kIn hk (run_fnG (us := []) F hr hgd hb hd hx I .nil h)
end
theorem guards_deeper (A : Around) (env : Env) : (A.deeper env).guards = A.guards := by first | rfl | (unfold Around.deeper; rfl) | simp [Around.deeper]
theorem fn_ofG {CX : CXT} {P : Program} {w : World} {K : PySem.W.Frag} {mg : Str → Option Value} {base : Heap} {k : Nat} {f : Addr} {name qual : Str} {params : Arguments} {body : List Stmt} {scope : Scope} {dV kV doc pm cdv ct oc : Value} {an od : Option Addr}
    {osl : Array (Option Value)} {N ps : List Str} {sp : Sp} (lk : K.lookup f = some ⟨oc, od, .func (PySem.W.fnOf name qual params body scope dV kV doc pm an cdv ct), osl⟩) (hcd : PySem.W.codeIn K cdv qual = true) (S : FnScope N ps scope)
    (len : ∀ vs H Q E, sp vs H Q E → vs.length = ps.length)
    (hbody : ∀ (A : Around) (outer : List Env) (s : Shared) (H : Hp) (vs : List V) (Q : VK) (E : XK), Room k (A.deeper (envOfC qual scope s.heap.objs.size f cdv)) → (A.deeper (envOfC qual scope s.heap.objs.size f cdv)).guards = some [] → sp vs H Q E →
      ∃ t, PSs (cxOf CX P w K mg base N qual scope f cdv A outer s H E) body t ∧ t { nx := fun _ H' => Q .non H', rt := Q } (start N vs) H) :
    FnOkG P w K mg base CX (k + 1) f (PySem.W.fnOf name qual params body scope dV kV doc pm an cdv ct) ps sp := by
  refine ⟨len, fun A outer s H args us vs Q E hr hgd e0 hb r hsp => ?_⟩
  have hl := len _ _ _ _ hsp
  have KX : K.In s.heap := e0.mod.kin.keeps fun b o e => (e0.bs b o e).1
  have lim : s.heap.NoLimit := e0.mod.nolimit.keeps fun b o e => (e0.bs b o e).1
  have hkind : ∀ y ∈ ps.zip us, scope.names.lookup y.1 = some .local ∨ (scope.names.lookup y.1 = some .cell ∧ ((cellsFrom (s.heap.objs.size + 1) scope.names []).lookup y.1).isSome = true) := fun ⟨n, v⟩ hy => by
    rcases S.par n (List.of_mem_zip hy).1 with q | q
    · exact .inl q
    · exact .inr ⟨q, PySem.W.cellsFrom_some _ _ _ (.inl q)⟩
  refine codeAny_call_function hr.depth (KX _ _ lk) rfl S.co S.gen rfl (PySem.W.codeRec_of KX hcd) (hb _ _ _ _ ?_)
  refine wpAny_newFunctionEnv_cells S.kind hkind fun env he s1 x => ?_
  subst he
  refine ⟨lim.keeps x.toInCall.keep, codeAny_func ?_⟩
  obtain ⟨t, ht, hq⟩ := hbody A outer s H vs Q E (hr.deeper _) (by rw [guards_deeper]; exact hgd) hsp
  have I : L2.Inv (cxOf CX P w K mg base N qual scope f cdv A outer s H E) [] (start N vs) H s1 := inv_start S hr.hd e0 hl r x
  refine wpAny_mono (ht.run [] s1 (start N vs) H _ I hq) (fun fl s' hs => ?_) fun e s' hs => hs
  have fin : ∀ {σ' : L2.St} {H' : Hp} {v : V} {u : Value}, L2.Inv (cxOf CX P w K mg base N qual scope f cdv A outer s H E) [] σ' H' s' → RelV v u → Q v H' → CE outer P w H s Q u s' :=
    fun {σ' H' v u} J rv q => ⟨v, H', J.os, J.bare, J.base, J.hok, rv, q⟩
  cases fl with
  | ret u =>
    obtain ⟨v, σ', H', J, rv, q⟩ := hs
    exact fin J rv q
  | next =>
    obtain ⟨σ', H', J, q⟩ := hs
    exact fin (v := V.non) (u := Value.none) J rfl q
  | brk =>
    obtain ⟨_, _, _, q⟩ := hs
    exact False.elim q
  | cont =>
    obtain ⟨_, _, _, q⟩ := hs
    exact False.elim q
end Bk

set_option Elab.async false
set_option linter.all false
set_option maxRecDepth 100000
set_option maxHeartbeats 1000000
/-! Expressions: a rule for each form, the reading given by a function on plain data. -/
namespace Bk
open PySem L2
open Evl (Ex ex_l ex_t)
section
variable (K : PySem.W.Frag) (W : Wd) (Ew : XK)
def tE (ev : Gm → G → R D) : TE := fun σ H Q => ∃ Hk0 H0 Γ g Hk, Fr K W Hk0 H0 Γ g σ Hk H ∧ Fin W Ew Hk H (ev Γ g) fun d _ Hk' H' => ∀ v, Rp K W Hk' d v → Q v H'
def tTt (ev : Gm → G → R Bool) : TT := fun σ H Q => ∃ Hk0 H0 Γ g Hk, Fr K W Hk0 H0 Γ g σ Hk H ∧ Fin W Ew Hk H (ev Γ g) fun b _ _ H' => Q b H'
def tAa (ev : Gm → G → R (List D)) : TA := fun σ H Q => ∃ Hk0 H0 Γ g Hk, Fr K W Hk0 H0 Γ g σ Hk H ∧ Fin W Ew Hk H (ev Γ g) fun ds _ Hk' H' => ∀ vs, RpL K W Hk' ds vs → Q vs H'
def tIi (ev : Gm → G → R (List D)) : TI := fun σ H Q => ∃ Hk0 H0 Γ g Hk, Fr K W Hk0 H0 Γ g σ Hk H ∧ Fin W Ew Hk H (ev Γ g) fun ds _ Hk' H' => ∀ J, ItOk K W J ds Hk' → Q J H'
def tOo (ev : Gm → G → R (Option Int)) : TO := fun σ H Q => ∃ Hk0 H0 Γ g Hk, Fr K W Hk0 H0 Γ g σ Hk H ∧ Fin W Ew Hk H (ev Γ g) fun o _ _ H' => Q o H'
/-- a new list -/
def tFf (ev : Gm → G → R D) : TE := fun σ H Q => ∃ Hk0 H0 Γ g Hk, Fr K W Hk0 H0 Γ g σ Hk H ∧ Fin W Ew Hk H (ev Γ g) fun d _ Hk' H' =>
  ∀ p u, H p = none → Hk' p = none → H' p = some u → Ob K W Hk' d p u → Q (.ref p) H'
def tGg (t : T) : TG := fun v σ H Q => ∃ Hk0 H0 Γ g Hk d Γ', Fr K W Hk0 H0 Γ g σ Hk H ∧ Rp K W Hk d v ∧ setT t d Γ = some Γ' ∧ ∀ σ', Fr K W Hk0 H0 Γ' g σ' Hk H → wipe σ' t.vars = wipe σ t.vars → Q σ' H
def tGgs (ts : List T) : TGs := fun vs σ H Q => ∃ Hk0 H0 Γ g Hk ds Γ', Fr K W Hk0 H0 Γ g σ Hk H ∧ RpL K W Hk ds vs ∧ setTs ts ds Γ = some Γ' ∧ ∀ σ', Fr K W Hk0 H0 Γ' g σ' Hk H → wipe σ' (varsT ts) = wipe σ (varsT ts) → Q σ' H
end
section
variable {X : Cx} {W : Wd} {Ew : XK}
theorem PE.imp {e : Expr} {t t' : TE} (h : PE X e t') (i : ∀ σ H Q, t σ H Q → t' σ H Q) : PE X e t := ⟨fun pins s σ H Q I q => h.run pins s σ H Q I (i σ H Q q)⟩
theorem PT.imp {e : Expr} {t t' : TT} (h : PT X e t') (i : ∀ σ H Q, t σ H Q → t' σ H Q) : PT X e t := ⟨fun pins s σ H Q I q => h.run pins s σ H Q I (i σ H Q q)⟩
theorem PW.imp {e : Expr} {t t' : TT} (h : PW X e t') (i : ∀ σ H Q, t σ H Q → t' σ H Q) : PW X e t := ⟨fun wh pins s σ H Q I q => h.run wh pins s σ H Q I (i σ H Q q)⟩
theorem PA.imp {e : List Expr} {t t' : TA} (h : PA X e t') (i : ∀ σ H Q, t σ H Q → t' σ H Q) : PA X e t := ⟨fun pos pins s σ H Q I q => h.run pos pins s σ H Q I (i σ H Q q)⟩
theorem PO.imp {e : Option Expr} {t t' : TO} (h : PO X e t') (i : ∀ σ H Q, t σ H Q → t' σ H Q) : PO X e t := ⟨fun pins s σ H Q I q => h.run pins s σ H Q I (i σ H Q q)⟩
theorem PI.imp {tg e : Expr} {t t' : TI} (h : PI X tg e t') (i : ∀ σ H Q, t σ H Q → t' σ H Q) : PI X tg e t := ⟨fun pins s σ H Q I q => h.run pins s σ H Q I (i σ H Q q)⟩
theorem PG.imp {tg : Expr} {t t' : TG} (h : PG X tg t') (i : ∀ v σ H Q, t v σ H Q → t' v σ H Q) : PG X tg t := ⟨fun pins s σ H v u Q I r q => h.run pins s σ H v u Q I r (i v σ H Q q)⟩
theorem PGs.imp {tg : List Expr} {t t' : TGs} (h : PGs X tg t') (i : ∀ v σ H Q, t v σ H Q → t' v σ H Q) : PGs X tg t := ⟨fun pins s σ H v u Q I r q => h.run pins s σ H v u Q I r (i v σ H Q q)⟩

variable {Hk0 H0 Hk H : Hp} {Γ : Gm} {g : G} {σ : L2.St} {K : PySem.W.Frag}
/-- an expression, then the rest -/
theorem seqE {β : Type} {f : Gm → G → R D} {k : D → G → R β} {kk : β → G → Hp → Hp → Prop} {Q : VK} (fr : Fr K W Hk0 H0 Γ g σ Hk H) (h : Fin W Ew Hk H ((f Γ g).bind k) kk)
    (hq : ∀ v d g' Hk' H', Fr K W Hk0 H0 Γ g' σ Hk' H' → Step W Hk H Hk' H' → Rp K W Hk' d v → Fin W Ew Hk' H' (k d g') kk → Q v H') : tE K W Ew f σ H Q :=
  ⟨Hk0, H0, Γ, g, Hk, fr, h.bind.mono fun d g' Hk' H' s dr kq v r => hq v d g' Hk' H' (fr.step s dr) s r kq⟩
theorem seqT {β : Type} {f : Gm → G → R Bool} {k : Bool → G → R β} {kk : β → G → Hp → Hp → Prop} {Q : Bool → Hp → Prop} (fr : Fr K W Hk0 H0 Γ g σ Hk H) (h : Fin W Ew Hk H ((f Γ g).bind k) kk)
    (hq : ∀ b g' Hk' H', Fr K W Hk0 H0 Γ g' σ Hk' H' → Step W Hk H Hk' H' → Fin W Ew Hk' H' (k b g') kk → Q b H') : tTt K W Ew f σ H Q :=
  ⟨Hk0, H0, Γ, g, Hk, fr, h.bind.mono fun d g' Hk' H' s dr kq => hq d g' Hk' H' (fr.step s dr) s kq⟩
theorem seqA {β : Type} {f : Gm → G → R (List D)} {k : List D → G → R β} {kk : β → G → Hp → Hp → Prop} {Q : List V → Hp → Prop} (fr : Fr K W Hk0 H0 Γ g σ Hk H) (h : Fin W Ew Hk H ((f Γ g).bind k) kk)
    (hq : ∀ vs ds g' Hk' H', Fr K W Hk0 H0 Γ g' σ Hk' H' → Step W Hk H Hk' H' → RpL K W Hk' ds vs → Fin W Ew Hk' H' (k ds g') kk → Q vs H') : tAa K W Ew f σ H Q :=
  ⟨Hk0, H0, Γ, g, Hk, fr, h.bind.mono fun d g' Hk' H' s dr kq v r => hq v d g' Hk' H' (fr.step s dr) s r kq⟩
theorem seqO {β : Type} {f : Gm → G → R (Option Int)} {k : Option Int → G → R β} {kk : β → G → Hp → Hp → Prop} {Q : Option Int → Hp → Prop} (fr : Fr K W Hk0 H0 Γ g σ Hk H) (h : Fin W Ew Hk H ((f Γ g).bind k) kk)
    (hq : ∀ o g' Hk' H', Fr K W Hk0 H0 Γ g' σ Hk' H' → Step W Hk H Hk' H' → Fin W Ew Hk' H' (k o g') kk → Q o H') : tOo K W Ew f σ H Q :=
  ⟨Hk0, H0, Γ, g, Hk, fr, h.bind.mono fun d g' Hk' H' s dr kq => hq d g' Hk' H' (fr.step s dr) s kq⟩
theorem seqI {β : Type} {f : Gm → G → R (List D)} {k : List D → G → R β} {kk : β → G → Hp → Hp → Prop} {Q : It → Hp → Prop} (fr : Fr K W Hk0 H0 Γ g σ Hk H) (h : Fin W Ew Hk H ((f Γ g).bind k) kk)
    (hq : ∀ J ds g' Hk' H', Fr K W Hk0 H0 Γ g' σ Hk' H' → Step W Hk H Hk' H' → ItOk K W J ds Hk' → Fin W Ew Hk' H' (k ds g') kk → Q J H') : tIi K W Ew f σ H Q :=
  ⟨Hk0, H0, Γ, g, Hk, fr, h.bind.mono fun d g' Hk' H' s dr kq v r => hq v d g' Hk' H' (fr.step s dr) s r kq⟩
theorem Fin.now {α : Type} {a : α} {kk : α → G → Hp → Hp → Prop} (fr : Fr K W Hk0 H0 Γ g σ Hk H) (h : Fin W Ew Hk H (.ok a g) kk) : kk a g Hk H := h Hk H (Step.refl fr.wk.ex) fr.wk.dr

/-! ### the forms -/
variable {a b c : Expr} {pos : Pos} {fa fb fc : Gm → G → R D}
theorem e_cst {d : D} {v : V} {e : Expr} (h : PE X e (tC v)) (r : ∀ H, Rp X.K W H d v) : PE X e (tE X.K W Ew fun _ g => .ok d g) := PE.imp h fun σ H Q ⟨Hk0, H0, Γ, g, Hk, fr, h⟩ => Fin.now fr h v (r _)
theorem e_var {i : Nat} {e : Expr} (h : PE X e (tVar i)) : PE X e (tE X.K W Ew fun Γ g => match Γ[i]? with | some (.val d) => .ok d g | _ => .st) := PE.imp h fun σ H Q ⟨Hk0, H0, Γ, g, Hk, fr, h⟩ => by
  obtain ⟨os, sl, _⟩ := fr.sl
  cases e1 : Γ[i]? with
  | none => simp only [e1] at h; exact h.elim
  | some s =>
    cases s with
    | no => simp only [e1] at h; exact h.elim
    | own d => simp only [e1] at h; exact h.elim
    | val d =>
      simp only [e1] at h
      obtain ⟨v, ev, rv⟩ := sl.val_at e1
      exact ⟨v, ev, Fin.now fr h v rv⟩
theorem e_bin (o : Op) (ha : PE X a (tE X.K W Ew fa)) (hb : PE X b (tE X.K W Ew fb)) : PE X (.BinOp a (opOf o) b pos) (tE X.K W Ew fun Γ g => (fa Γ g).bind fun x g => (fb Γ g).bind fun y g => lift (opD o x y) g) :=
  PE.imp (pe_op (op_D o) ha hb) fun σ H Q ⟨Hk0, H0, Γ, g, Hk, fr, h⟩ => seqE fr h fun v d g1 Hk1 H1 fr1 s1 r1 h1 => seqE fr1 h1 fun v2 d2 g2 Hk2 H2 fr2 s2 r2 h2 => by
    obtain ⟨z, ez, hz⟩ := h2.lift
    exact ⟨g2, Hk2, d, d2, z, fr2.wk, r1.mono s2.k, r2, ez, fun v3 Hk3 H3 s3 dr3 r3 => hz Hk3 H3 s3 dr3 v3 r3⟩
theorem e_cmp (hu : X.A.units + 64 < cLine) (hw : W.w = X.w) (o : Cm) (ha : PE X a (tE X.K W Ew fa)) (hb : PE X b (tE X.K W Ew fb)) (hm : behindInMarks (cmOf o) b = false) :
    PE X (.Compare a [cmOf o] [b] pos) (tE X.K W Ew fun Γ g => (fa Γ g).bind fun x g => (fb Γ g).bind fun y g => lift ((cmpD o x y).map .bl) g) :=
  PE.imp (pe_cmpR (cmp_D hu hw o) ha hb hm) fun σ H Q ⟨Hk0, H0, Γ, g, Hk, fr, h⟩ => seqE fr h fun v d g1 Hk1 H1 fr1 s1 r1 h1 => seqE fr1 h1 fun v2 d2 g2 Hk2 H2 fr2 s2 r2 h2 => by
    obtain ⟨z, ez, hz⟩ := h2.lift
    exact ⟨g2, Hk2, d, d2, z, fr2.wk, r1.mono s2.k, r2, ez, fun v3 Hk3 H3 s3 dr3 r3 => hz Hk3 H3 s3 dr3 v3 r3⟩
theorem bl_of {Q : VK} {r : R D} {kk : Bool → G → Hp → Hp → Prop} (h : Fin W Ew Hk H (blR r) kk) : Fin W Ew Hk H r fun d g' Hk' H' => ∃ b, d = .bl b ∧ kk b g' Hk' H' := by
  have h' := Fin.bind (r := r) h
  refine h'.mono fun d g' Hk' H' s dr hd => ?_
  cases d with
  | bl b => exact ⟨b, rfl, hd Hk' H' (Step.refl s.kh) dr⟩
  | _ => exact hd.elim
/-- an expression as a test, by its value -/
theorem t_val {e : Expr} (h : PE X e (tE X.K W Ew fa)) (he : ∀ whole, isTrue e X.env whole = (do let v ← whole; standAt e.pos; holding [v] (truthy v))) : PT X e (tTt X.K W Ew fun Γ g => blR (fa Γ g)) :=
  PT.imp (pt_val h he) fun σ H Q ⟨Hk0, H0, Γ, g, Hk, fr, h⟩ => ⟨Hk0, H0, Γ, g, Hk, fr, (bl_of (Q := fun _ _ => True) h).mono fun d g' Hk' H' s dr ⟨b, e, hb⟩ v rv => by
    subst e
    exact ⟨b, rv, hb⟩⟩
theorem t_cmp (hu : X.A.units + 64 < cLine) (hw : W.w = X.w) (o : Cm) (ha : PE X a (tE X.K W Ew fa)) (hb : PE X b (tE X.K W Ew fb)) (hm : behindInMarks (cmOf o) b = false) :
    PT X (.Compare a [cmOf o] [b] pos) (tTt X.K W Ew fun Γ g => blR ((fa Γ g).bind fun x g => (fb Γ g).bind fun y g => lift ((cmpD o x y).map .bl) g)) :=
  PT.imp (pt_cmpR (cmp_D hu hw o) ha hb hm) fun σ H Q ⟨Hk0, H0, Γ, g, Hk, fr, h⟩ => by
    have h := bl_of (Q := fun _ _ => True) h
    show (tOp (rD X.K W fun a b => (cmpD o a b).map .bl) (tE X.K W Ew fa) (tE X.K W Ew fb)) σ H fun x H1 => ∃ c, x = .bl c ∧ Q c H1
    refine seqE fr h fun v d g1 Hk1 H1 fr1 s1 r1 h1 => seqE fr1 h1 fun v2 d2 g2 Hk2 H2 fr2 s2 r2 h2 => ?_
    obtain ⟨z, ez, hz⟩ := h2.lift
    refine ⟨g2, Hk2, d, d2, z, fr2.wk, r1.mono s2.k, r2, ez, fun v3 Hk3 H3 s3 dr3 r3 => ?_⟩
    obtain ⟨b, e, hb⟩ := hz Hk3 H3 s3 dr3
    subst e
    exact ⟨b, r3, hb⟩
theorem e_neg (ha : PE X a (tE X.K W Ew fa)) : PE X (.UnaryOp .USub a pos) (tE X.K W Ew fun Γ g => (fa Γ g).bind fun x g => match x with | .int i => .ok (.int (-i)) g | _ => .st) :=
  PE.imp (pe_un un_neg ha) fun σ H Q ⟨Hk0, H0, Γ, g, Hk, fr, h⟩ => seqE fr h fun v d g1 Hk1 H1 fr1 s1 r1 h1 => by
    cases d with
    | int i => exact ⟨i, r1, Fin.now fr1 h1 _ rfl⟩
    | _ => exact h1.elim
def chnR (o p : Cm) (fa fb fc : Gm → G → R D) : Gm → G → R D := fun Γ g => (fa Γ g).bind fun x g => (fb Γ g).bind fun y g => (lift (cmpD o x y) g).bind fun k g =>
      if k then (fc Γ g).bind fun z g => lift ((cmpD p y z).map .bl) g else .ok (.bl false) g
theorem e_chn (hu : X.A.units + 64 < cLine) (hw : W.w = X.w) (o p : Cm) (ha : PE X a (tE X.K W Ew fa)) (hb : PE X b (tE X.K W Ew fb)) (hc : PE X c (tE X.K W Ew fc)) (hm : lastMarks [cmOf o, cmOf p] [b, c] = false) :
    PE X (.Compare a [cmOf o, cmOf p] [b, c] pos) (tE X.K W Ew (chnR o p fa fb fc)) :=
  PE.imp (pe_chain (cmp_D hu hw o) (cmp_D hu hw p) ha hb hc hm) fun σ H Q ⟨Hk0, H0, Γ, g, Hk, fr, h⟩ => seqE fr h fun v d g1 Hk1 H1 fr1 s1 r1 h1 => seqE fr1 h1 fun v2 d2 g2 Hk2 H2 fr2 s2 r2 h2 => by
    obtain ⟨k, ek, hk⟩ := h2.bind.lift
    refine ⟨g2, Hk2, d, d2, .bl k, fr2.wk, r1.mono s2.k, r2, (by show Option.map D.bl (cmpD o d d2) = _; rw [ek]; rfl), fun v3 Hk3 H3 s3 dr3 r3 => ⟨k, r3, ?_⟩⟩
    have h3 := hk Hk3 H3 s3 dr3
    have fr3 := fr2.step s3 dr3
    cases k with
    | false => exact iteF (Fin.now fr3 h3 _ rfl)
    | true =>
      refine iteT (seqE fr3 h3 fun v4 d4 g4 Hk4 H4 fr4 s4 r4 h4 => ?_)
      obtain ⟨z, ez, hz⟩ := h4.lift
      exact ⟨g4, Hk4, d2, d4, z, fr4.wk, (r2.mono s3.k).mono s4.k, r4, ez, fun v5 Hk5 H5 s5 dr5 r5 => hz Hk5 H5 s5 dr5 v5 r5⟩
theorem t_chn (hu : X.A.units + 64 < cLine) (hw : W.w = X.w) (o p : Cm) (ha : PE X a (tE X.K W Ew fa)) (hb : PE X b (tE X.K W Ew fb)) (hc : PE X c (tE X.K W Ew fc)) (hm : lastMarks [cmOf o, cmOf p] [b, c] = false) :
    PT X (.Compare a [cmOf o, cmOf p] [b, c] pos) (tTt X.K W Ew fun Γ g => blR (chnR o p fa fb fc Γ g)) :=
  PT.imp (pt_chain (cmp_D hu hw o) (cmp_D hu hw p) ha hb hc hm) fun σ H Q ⟨Hk0, H0, Γ, g, Hk, fr, h⟩ => by
    have h := bl_of (Q := fun _ _ => True) h
    show (tChain (rD X.K W fun a b => (cmpD o a b).map .bl) (rD X.K W fun a b => (cmpD p a b).map .bl) (tE X.K W Ew fa) (tE X.K W Ew fb) (tE X.K W Ew fc)) σ H fun x H1 => ∃ c, x = .bl c ∧ Q c H1
    unfold chnR at h
    refine seqE fr h fun v d g1 Hk1 H1 fr1 s1 r1 h1 => seqE fr1 h1 fun v2 d2 g2 Hk2 H2 fr2 s2 r2 h2 => ?_
    obtain ⟨k, ek, hk⟩ := h2.bind.lift
    refine ⟨g2, Hk2, d, d2, .bl k, fr2.wk, r1.mono s2.k, r2, (by show Option.map D.bl (cmpD o d d2) = _; rw [ek]; rfl), fun v3 Hk3 H3 s3 dr3 r3 => ⟨k, r3, ?_⟩⟩
    have h3 := hk Hk3 H3 s3 dr3
    have fr3 := fr2.step s3 dr3
    cases k with
    | false =>
      obtain ⟨b, e, hb⟩ := Fin.now fr3 h3
      cases e
      exact iteF ⟨false, rfl, hb⟩
    | true =>
      refine iteT (seqE fr3 h3 fun v4 d4 g4 Hk4 H4 fr4 s4 r4 h4 => ?_)
      obtain ⟨z, ez, hz⟩ := h4.lift
      refine ⟨g4, Hk4, d2, d4, z, fr4.wk, (r2.mono s3.k).mono s4.k, r4, ez, fun v5 Hk5 H5 s5 dr5 r5 => ?_⟩
      obtain ⟨b, e, hb⟩ := hz Hk5 H5 s5 dr5
      subst e
      exact ⟨b, r5, hb⟩
def andR (fa fb : Gm → G → R D) : Gm → G → R D := fun Γ g => (blR (fa Γ g)).bind fun k g => if k then (blR (fb Γ g)).bind fun j g => .ok (.bl j) g else .ok (.bl false) g
def orR (fa fb : Gm → G → R D) : Gm → G → R D := fun Γ g => (blR (fa Γ g)).bind fun k g => if k then .ok (.bl true) g else (blR (fb Γ g)).bind fun j g => .ok (.bl j) g
/-- a bool's expression, then the rest -/
theorem seqB {β : Type} {f : Gm → G → R D} {k : Bool → G → R β} {kk : β → G → Hp → Hp → Prop} {Q : VK} (fr : Fr K W Hk0 H0 Γ g σ Hk H) (h : Fin W Ew Hk H ((blR (f Γ g)).bind k) kk)
    (hq : ∀ b g' Hk' H', Fr K W Hk0 H0 Γ g' σ Hk' H' → Step W Hk H Hk' H' → Fin W Ew Hk' H' (k b g') kk → Q (.bl b) H') : tE K W Ew f σ H Q :=
  ⟨Hk0, H0, Γ, g, Hk, fr, (bl_of (Q := Q) h.bind).mono fun d g' Hk' H' s dr ⟨b, e, hb⟩ v rv => by
    subst e
    rw [show v = .bl b from rv]
    exact hq b g' Hk' H' (fr.step s dr) s hb⟩
theorem e_and {rest : List Expr} (ha : PE X a (tE X.K W Ew fa)) (hb : PE X (.BoolOp .And (b :: rest) pos) (tE X.K W Ew fb)) : PE X (.BoolOp .And (a :: b :: rest) pos) (tE X.K W Ew (andR fa fb)) :=
  PE.imp (pe_and ha hb) fun σ H Q ⟨Hk0, H0, Γ, g, Hk, fr, h⟩ => seqB fr h fun k g1 Hk1 H1 fr1 s1 h1 => ⟨k, rfl, by
    cases k with
    | false => exact iteF (Fin.now fr1 h1 _ rfl)
    | true => exact iteT (seqB fr1 h1 fun j g2 Hk2 H2 fr2 s2 h2 => Fin.now fr2 h2 _ rfl)⟩
theorem e_or {rest : List Expr} (ha : PE X a (tE X.K W Ew fa)) (hb : PE X (.BoolOp .Or (b :: rest) pos) (tE X.K W Ew fb)) : PE X (.BoolOp .Or (a :: b :: rest) pos) (tE X.K W Ew (orR fa fb)) :=
  PE.imp (pe_or ha hb) fun σ H Q ⟨Hk0, H0, Γ, g, Hk, fr, h⟩ => seqB fr h fun k g1 Hk1 H1 fr1 s1 h1 => ⟨k, rfl, by
    cases k with
    | true => exact iteT (Fin.now fr1 h1 _ rfl)
    | false => exact iteF (seqB fr1 h1 fun j g2 Hk2 H2 fr2 s2 h2 => Fin.now fr2 h2 _ rfl)⟩
theorem e_not (ha : PE X a (tE X.K W Ew fa)) : PE X (.UnaryOp .Not a pos) (tE X.K W Ew fun Γ g => (blR (fa Γ g)).bind fun k g => .ok (.bl (!k)) g) :=
  PE.imp (pe_not ha) fun σ H Q ⟨Hk0, H0, Γ, g, Hk, fr, h⟩ => seqB fr h fun k g1 Hk1 H1 fr1 s1 h1 => ⟨k, rfl, Fin.now fr1 h1 _ rfl⟩
/-- tests -/
theorem w_and {rest : List Expr} (ha : PT X a (tTt X.K W Ew fun Γ g => blR (fa Γ g))) (hb : PW X (.BoolOp .And (b :: rest) pos) (tTt X.K W Ew fun Γ g => blR (fb Γ g))) : PW X (.BoolOp .And (a :: b :: rest) pos) (tTt X.K W Ew fun Γ g => blR (andR fa fb Γ g)) :=
  PW.imp (pw_and ha hb) fun σ H Q ⟨Hk0, H0, Γ, g, Hk, fr, h⟩ => by
    have h := bl_of (Q := fun _ _ => True) h
    unfold andR at h
    refine seqT (f := fun Γ g => blR (fa Γ g)) fr h fun k g1 Hk1 H1 fr1 s1 h1 => ?_
    cases k with
    | false =>
      obtain ⟨b, e, hb⟩ := Fin.now fr1 h1
      cases e
      exact iteF hb
    | true =>
      refine iteT (seqT (f := fun Γ g => blR (fb Γ g)) fr1 h1 fun j g2 Hk2 H2 fr2 s2 h2 => ?_)
      obtain ⟨b, e, hb⟩ := Fin.now fr2 h2
      cases e
      exact hb
theorem w_or {rest : List Expr} (ha : PT X a (tTt X.K W Ew fun Γ g => blR (fa Γ g))) (hb : PW X (.BoolOp .Or (b :: rest) pos) (tTt X.K W Ew fun Γ g => blR (fb Γ g))) : PW X (.BoolOp .Or (a :: b :: rest) pos) (tTt X.K W Ew fun Γ g => blR (orR fa fb Γ g)) :=
  PW.imp (pw_or ha hb) fun σ H Q ⟨Hk0, H0, Γ, g, Hk, fr, h⟩ => by
    have h := bl_of (Q := fun _ _ => True) h
    unfold orR at h
    refine seqT (f := fun Γ g => blR (fa Γ g)) fr h fun k g1 Hk1 H1 fr1 s1 h1 => ?_
    cases k with
    | true =>
      obtain ⟨b, e, hb⟩ := Fin.now fr1 h1
      cases e
      exact iteT hb
    | false =>
      refine iteF (seqT (f := fun Γ g => blR (fb Γ g)) fr1 h1 fun j g2 Hk2 H2 fr2 s2 h2 => ?_)
      obtain ⟨b, e, hb⟩ := Fin.now fr2 h2
      cases e
      exact hb
theorem t_not (ha : PT X a (tTt X.K W Ew fun Γ g => blR (fa Γ g))) : PT X (.UnaryOp .Not a pos) (tTt X.K W Ew fun Γ g => blR ((blR (fa Γ g)).bind fun k g => .ok (.bl (!k)) g)) :=
  PT.imp (pt_not ha) fun σ H Q ⟨Hk0, H0, Γ, g, Hk, fr, h⟩ => by
    have h := bl_of (Q := fun _ _ => True) h
    refine seqT (f := fun Γ g => blR (fa Γ g)) fr h fun k g1 Hk1 H1 fr1 s1 h1 => ?_
    obtain ⟨b, e, hb⟩ := Fin.now fr1 h1
    cases e
    exact hb
def ifeR (fc fa fb : Gm → G → R D) : Gm → G → R D := fun Γ g => (blR (fc Γ g)).bind fun k g => if k then fa Γ g else fb Γ g
theorem e_ife (hc : PT X c (tTt X.K W Ew fun Γ g => blR (fc Γ g))) (ha : PE X a (tE X.K W Ew fa)) (hb : PE X b (tE X.K W Ew fb)) : PE X (.IfExp c a b pos) (tE X.K W Ew (ifeR fc fa fb)) :=
  PE.imp (pe_ifExp hc ha hb) fun σ H Q ⟨Hk0, H0, Γ, g, Hk, fr, h⟩ => seqT (f := fun Γ g => blR (fc Γ g)) fr h fun k g1 Hk1 H1 fr1 s1 h1 => by
    cases k with
    | true => exact iteT ⟨Hk0, H0, Γ, g1, Hk1, fr1, h1⟩
    | false => exact iteF ⟨Hk0, H0, Γ, g1, Hk1, fr1, h1⟩
theorem DrawAt.unk_of {p : Addr} (_ : DrawAt W g H) (w : Wk W g Hk H) (hp : H p = none) : Hk p = none := by
  cases q : Hk p with
  | none => rfl
  | some o => rw [w.ex p o q] at hp; cases hp
/-- what is new may be told at once -/
theorem f_tell {e : Expr} (h : PE X e (tFf X.K W Ew fa)) (hl : ∀ Γ g d g', fa Γ g = .ok d g' → isOb d = true) : PE X e (tE X.K W Ew fa) := PE.imp h fun σ H Q ⟨Hk0, H0, Γ, g, Hk, fr, h⟩ => ⟨Hk0, H0, Γ, g, Hk, fr, by
  cases r : fa Γ g with
  | ok d g' =>
    rw [r] at h
    intro Hk' H' s dr p u hp hk hp' rl
    exact h _ H' (s.tell hp hp') dr (.ref p) ((rl.mono (Evl.Ex.new hk)).rp upd_same)
  | ex c ds g' => rw [r] at h; exact h
  | st => rw [r] at h; exact h⟩
/-! ### lists of arguments, displays -/
variable {es : List Expr} {fs : Gm → G → R (List D)}
theorem a_nil : PA X [] (tAa X.K W Ew fun _ g => .ok [] g) := PA.imp pa_nil fun σ H Q ⟨Hk0, H0, Γ, g, Hk, fr, h⟩ => Fin.now fr h [] rfl
theorem a_cons (ha : PE X a (tE X.K W Ew fa)) (hs : PA X es (tAa X.K W Ew fs)) (hn : starEach (a :: es) X.env = (false, eval a X.env) :: starEach es X.env) :
    PA X (a :: es) (tAa X.K W Ew fun Γ g => (fa Γ g).bind fun x g => (fs Γ g).bind fun xs g => .ok (x :: xs) g) :=
  PA.imp (pa_cons ha hs hn) fun σ H Q ⟨Hk0, H0, Γ, g, Hk, fr, h⟩ => seqE fr h fun v d g1 Hk1 H1 fr1 s1 r1 h1 => seqA fr1 h1 fun vs ds g2 Hk2 H2 fr2 s2 r2 h2 => Fin.now fr2 h2 _ (.cons (r1.mono s2.k) r2)
theorem Fin.monoE {α : Type} {r : R α} {k k' : α → G → Hp → Hp → Prop} (h : Fin W Ew Hk H r k) (hk : ∀ a g Hk' H', r = .ok a g → Step W Hk H Hk' H' → DrawAt W g H' → k a g Hk' H' → k' a g Hk' H') : Fin W Ew Hk H r k' := by
  cases r with
  | ok a g => exact fun Hk' H' s d => hk a g Hk' H' rfl s d (h Hk' H' s d)
  | ex c ds g => exact h
  | st => exact h
theorem seqAE {β : Type} {f : Gm → G → R (List D)} {k : List D → G → R β} {kk : β → G → Hp → Hp → Prop} {Q : List V → Hp → Prop} (fr : Fr K W Hk0 H0 Γ g σ Hk H) (h : Fin W Ew Hk H ((f Γ g).bind k) kk)
    (hq : ∀ vs ds g' Hk' H', f Γ g = .ok ds g' → Fr K W Hk0 H0 Γ g' σ Hk' H' → Step W Hk H Hk' H' → RpL K W Hk' ds vs → Fin W Ew Hk' H' (k ds g') kk → Q vs H') : tAa K W Ew f σ H Q :=
  ⟨Hk0, H0, Γ, g, Hk, fr, h.bind.monoE fun d g' Hk' H' e s dr kq v r => hq v d g' Hk' H' e (fr.step s dr) s r kq⟩
theorem e_tup {x1 : Nat} (hlen : ∀ Γ g ds g', fs Γ g = .ok ds g' → ds.length ≤ 1000000) (hs : PA X es (tAa X.K W Ew fs)) : PE X (.Tuple es x1 pos) (tE X.K W Ew fun Γ g => (fs Γ g).bind fun xs g => .ok (.tup xs) g) :=
  PE.imp (pe_tup hs) fun σ H Q ⟨Hk0, H0, Γ, g, Hk, fr, h⟩ => seqAE fr h fun vs ds g1 Hk1 H1 e fr1 s1 r1 h1 => ⟨size_le (by rw [r1.len]; exact hlen _ _ _ _ e), new_tup fr1.wk r1 fun v Hk' H' s dr r => h1 Hk' H' s dr v r⟩
/-- a display of a list, new -/
theorem f_lst (hlen : ∀ Γ g ds g', fs Γ g = .ok ds g' → ds.length ≤ 1000000) (hs : PA X es (tAa X.K W Ew fs)) : PE X (.List es pos) (tFf X.K W Ew fun Γ g => (fs Γ g).bind fun xs g => .ok (.lst xs) g) :=
  PE.imp (pe_lst hs) fun σ H Q ⟨Hk0, H0, Γ, g, Hk, fr, h⟩ => seqAE fr h fun vs ds g1 Hk1 H1 e fr1 s1 r1 h1 => ⟨size_le (by rw [r1.len]; exact hlen _ _ _ _ e), fun p hp => by
    have s2 : Step W Hk1 H1 Hk1 (upd H1 p (.lst vs)) := Step.hid fr1.wk.ex hp
    have hp0 : H p = none := by
      cases q : H p with
      | none => rfl
      | some o => obtain ⟨o', h'⟩ := s1.t p o q; rw [hp] at h'; cases h'
    exact h1 Hk1 _ s2 (fr1.wk.dr.new hp) p _ hp0 (fr1.wk.dr.unk_of fr1.wk hp) upd_same ⟨vs, rfl, r1⟩⟩
end
end Bk

set_option Elab.async false
set_option linter.all false
set_option maxRecDepth 100000
set_option maxHeartbeats 2000000
/-! Dicts walked by their keys. -/
namespace Bk
open PySem L2
open Evl (Ex ex_l ex_t)
/-- the keys of the dict at d, in their order -/
def Itkx (d : Addr) (o : Obj) (xs : List (NestedKey × Addr × V)) : It :=
  ⟨fun i H => H d = some (ObX d o) ∧ i < xs.length, fun i H x H' => H' = H ∧ ∃ y, xs[i]? = some y ∧ x = V.ref y.2.1, fun i H => H d = some (ObX d o) ∧ xs.length ≤ i⟩
section
variable {P : Program} {w w' : World} {K : PySem.W.Frag} {tg : Expr} {d : Addr} {o : Obj} {es : Array DictEntry} {ep : Nat}
theorem turn_keysX {xs : List (NestedKey × Addr × V)} (it : Addr) (hod : o.data = .dict es ep) (hsz : es.size = xs.length) (ent : ∀ (i : Nat) (x : NestedKey × Addr × V), xs[i]? = some x → ∃ en : DictEntry, es[i]? = some en ∧ en.key = .ref x.2.1 ∧ RelV x.2.2 en.val) :
    Turn P w K tg (Itkx d o xs) [it] it (fun i h => h.IsKeyIter it d i xs.length ep) where
  mem := by simp
  obj := fun i h st b hb => by
    have e : b = it := by simpa using hb
    subst e
    obtain ⟨oi, e, c, dd⟩ := st
    exact ⟨oi, e, fun v z => by rw [dd] at z; cases z⟩
  keep := fun i h h' st k => st.at fun oi e => k it (by simp) oi e
  item := by
    intro X hP hw hK hc i pins s σ H E I hf st hg
    subst hP hw hK
    obtain ⟨hd, hi⟩ := hg
    obtain ⟨f0, f1, f2, f3, f4, f5⟩ := hf it (by simp)
    have hgd := obX_at I.hok hd
    obtain ⟨x, hx⟩ : ∃ p, xs[i]? = some p := ⟨xs[i], List.getElem?_eq_getElem hi⟩
    obtain ⟨en, hen, hkey, _⟩ := ent i x hx
    refine next_key_item st hgd hod hsz hen fun h' st' sb => ?_
    have I1 : L2.Inv X pins σ H { s with heap := h' } := I.turned (t' := s.toks) (fun b ob hb e => (sb.2 b hb).trans e) f0 f1 f3 f4 f5
    obtain ⟨oi, e, c, dd⟩ := id st'
    exact ⟨en.key, rfl, go_of (s := { s with heap := h' }) e c dd (by decide) ⟨.ref x.2.1, H, I1, hkey, ⟨rfl, x, hx, rfl⟩, st', fun b hb => (hf b hb).1⟩⟩
  done := by
    intro X hP hw hK hc i pins s σ H E I hf st hg
    subst hP hw hK
    obtain ⟨hd, hi⟩ := hg
    obtain ⟨f0, f1, f2, f3, f4, f5⟩ := hf it (by simp)
    exact next_key_end (I.ok.hd hc) st (obX_at I.hok hd) hod hsz hi fun h' eb => ⟨rfl, I.turned (t' := s.toks) (fun b ob hb e => eb b ob hb e) f0 f1 f3 f4 f5⟩
  self := fun A i s Q E st h => by
    refine wpAny_pyIter_slot st.typeIs F.slot_dict_keyiterator_iter (wpAny_call_entry F.slot_dict_keyiterator_iter st.typeIs F.entry_dict_keyiterator_iter ?_ (F.args_dict_keyiterator_iter_1 _))
    show wpAny _ _ (ret (.ref it)) _ _ s
    exact wpAny_pure ⟨_, rfl, "dict_keyiterator", _, st.typeIs, F.slot_dict_keyiterator_next.lookup, h⟩
end
def iKeysX (td : TE) : TI := fun σ H R => td σ H fun x H1 => ∃ d o xs w, x = .ref d ∧ (d == sysModules) = false ∧ H1 d = some (ObX d o) ∧ DcIs w o xs ∧ R (Itkx d o xs) H1
theorem pi_keysX {X : Cx} {tg e : Expr} {td : TE} (he : PE X e td) : PI X tg e (iKeysX td) := by
  refine ⟨fun pins s σ H R I h => ?_⟩
  refine thn (he.run pins s σ H _ I h) fun u s1 ⟨x, H1, I1, rx, d, o, xs, w, ex, hs, hd, dc, q⟩ => ?_
  subst ex
  obtain rfl : u = Value.ref d := rx
  obtain ⟨h1, es, ep, h2, h3, h4⟩ := dc_entries dc
  refine iter_keys hs (obX_at I1.hok hd) h1 h2 (pi_one (tk := s1.toks) I1 _ (turn_keysX _ h2 h3 h4) ⟨_, Heap.get?_push_size _ rfl, rfl, ?_⟩ q)
  rw [h3] <;> rfl
theorem itOk_keys {K : PySem.W.Frag} {W : Wd} {Hk0 : Hp} {d : Addr} {o : Obj} {xs : List (NestedKey × Addr × V)} {ks : List D} (hz : ks.length ≤ sizeLine) (h : Hk0 d = some (ObX d o)) (r : RpL K W Hk0 ks (xs.map fun x => V.ref x.2.1)) : ItOk K W (Itkx d o xs) ks Hk0 := by
  have hl : xs.length = ks.length := by rw [← r.len, List.length_map]
  exact {
    len := hz
    go := fun i Hk H g hi e w => ⟨w.ex _ _ (e _ _ h), by rw [hl]; exact hi⟩
    yld := fun i Hk H g x H' d' hd e w y => by
      obtain ⟨e1, z, hz', hx⟩ := y
      subst e1
      obtain ⟨v, ev, rv⟩ := (r.mono e).get hd
      rw [List.getElem?_map, hz'] at ev
      cases ev
      subst hx
      exact ⟨Hk, Step.refl w.ex, w.dr, rv⟩
    stop := fun i Hk H g hi e w => ⟨w.ex _ _ (e _ _ h), by rw [hl, hi]; exact Nat.le_refl _⟩ }
end Bk

set_option Elab.async false
set_option linter.all false
set_option maxRecDepth 100000
set_option maxHeartbeats 1000000
/-! Expressions: subscripts, calls, walks, targets, comprehensions. -/
namespace Bk
open PySem L2
open Evl (Ex ex_l ex_t)
section
variable {X : Cx} {W : Wd} {Ew : XK} {Hk0 H0 Hk H : Hp} {Γ : Gm} {g : G} {σ : L2.St} {K : PySem.W.Frag}
variable {a b c : Expr} {pos : Pos} {fa fb fc : Gm → G → R D} {es : List Expr} {fs : Gm → G → R (List D)}
theorem e_idx (hu : X.A.units + 64 < cLine) (hw : W.w = X.w) (ha : PE X a (tE X.K W Ew fa)) (hb : PE X b (tE X.K W Ew fb)) (hs : PlainIx b) : PE X (.Subscript a b pos) (tE X.K W Ew fun Γ g => (fa Γ g).bind fun x g => (fb Γ g).bind fun y g => lift (idxD x y) g) :=
  PE.imp (pe_ix (ix_D hu hw) ha hb hs) fun σ H Q ⟨Hk0, H0, Γ, g, Hk, fr, h⟩ => seqE fr h fun v d g1 Hk1 H1 fr1 s1 r1 h1 => seqE fr1 h1 fun v2 d2 g2 Hk2 H2 fr2 s2 r2 h2 => by
    obtain ⟨z, ez, hz⟩ := h2.lift
    exact ⟨g2, Hk2, d, d2, z, fr2.wk, r1.mono s2.k, r2, ez, fun v3 Hk3 H3 s3 dr3 r3 => hz Hk3 H3 s3 dr3 v3 r3⟩
theorem o_none : PO X none (tOo X.K W Ew fun _ g => .ok none g) := PO.imp po_none fun σ H Q ⟨Hk0, H0, Γ, g, Hk, fr, h⟩ => Fin.now fr h
theorem o_some (ha : PE X a (tE X.K W Ew fa)) : PO X (some a) (tOo X.K W Ew fun Γ g => (fa Γ g).bind fun x g => match x with | .int i => .ok (some i) g | _ => .st) :=
  PO.imp (po_some ha) fun σ H Q ⟨Hk0, H0, Γ, g, Hk, fr, h⟩ => seqE fr h fun v d g1 Hk1 H1 fr1 s1 r1 h1 => by
    cases d with
    | int i => exact ⟨i, r1, Fin.now fr1 h1⟩
    | _ => exact h1.elim
theorem e_sl {lo hi : Option Expr} {fl fh : Gm → G → R (Option Int)} {p2 : Pos} (ha : PE X a (tE X.K W Ew fa)) (hl : PO X lo (tOo X.K W Ew fl)) (hh : PO X hi (tOo X.K W Ew fh)) :
    PE X (.Subscript a (.Slice lo hi none p2) pos) (tE X.K W Ew fun Γ g => (fa Γ g).bind fun x g => (fl Γ g).bind fun l g => (fh Γ g).bind fun h g => lift (slD x l h) g) :=
  PE.imp (pe_slice sl_D ha hl hh) fun σ H Q ⟨Hk0, H0, Γ, g, Hk, fr, h⟩ => seqE fr h fun v d g1 Hk1 H1 fr1 s1 r1 h1 => seqO fr1 h1 fun l g2 Hk2 H2 fr2 s2 h2 => seqO fr2 h2 fun u g3 Hk3 H3 fr3 s3 h3 => by
    obtain ⟨z, ez, hz⟩ := h3.lift
    exact ⟨g3, Hk3, d, z, fr3.wk, (r1.mono s2.k).mono s3.k, ez, fun v4 Hk4 H4 s4 dr4 r4 => hz Hk4 H4 s4 dr4 v4 r4⟩
/-- a def's promise -/
def spD (K : PySem.W.Frag) (W : Wd) (ps : List Str) (dn : List D → G → R D) : Sp := fun vs H Q E => vs.length = ps.length ∧ ∃ ds g Hk, Wk W g Hk H ∧ RpL K W Hk ds vs ∧ Fin W E Hk H (dn ds g) fun d _ Hk' H' => ∀ v, Rp K W Hk' d v → Q v H'
theorem nst {α : Type} {r : R α} {k : α → G → Hp → Hp → Prop} (h : Fin W Ew Hk H r k) : r ≠ .st := fun e => by subst e; exact h
theorem e_call {CX : CXT} {k : Nat} {f : Addr} {fd : FuncData} {ps : List Str} {x : Str} {p : Pos} {dn : List D → G → R D} (F : FnOkG X.prog X.w X.K X.mg X.base CX k f fd ps (spD X.K W ps dn)) (hr : Room k X.A) (hgd : X.A.guards = some [])
    (hg : Gl X x) (hm : X.mg x = some (.ref f)) (hk : PySem.W.keepIn X.K (.ref f) = true) (hb : Binds X.K fd ps []) (hx : Passes CX X Ew) (hln : ∀ ds g, dn ds g ≠ .st → ds.length = ps.length)
    (ha : PA X (a :: es) (tAa X.K W Ew fs)) (hdb : (x == ("__debug__" : Str)) = false) (he : starEach (a :: es) X.env = (false, eval a X.env) :: starEach es X.env) (hpl : (backTo pos (starEach es X.env)).any (·.1) = false) :
    PE X (.Call (.Name x p) (a :: es) [] pos) (tE X.K W Ew fun Γ g => (fs Γ g).bind fun xs g => dn xs g) :=
  PE.imp (pe_callG F hr hgd hg hm hk hb .nil hx ha hdb he hpl) fun σ H Q ⟨Hk0, H0, Γ, g, Hk, fr, h⟩ => seqA fr h fun vs ds g1 Hk1 H1 fr1 s1 r1 h1 => by
    rw [List.append_nil]
    exact ⟨by rw [r1.len]; exact hln _ _ (nst h1), ds, g1, Hk1, fr1.wk, r1, h1⟩
theorem e_call0 {CX : CXT} {k : Nat} {f : Addr} {fd : FuncData} {ps : List Str} {x : Str} {p : Pos} {dn : List D → G → R D} (F : FnOkG X.prog X.w X.K X.mg X.base CX k f fd ps (spD X.K W ps dn)) (hr : Room k X.A) (hgd : X.A.guards = some [])
    (hg : Gl X x) (hm : X.mg x = some (.ref f)) (hk : PySem.W.keepIn X.K (.ref f) = true) (hb : Binds X.K fd ps []) (hx : Passes CX X Ew) (hln : ∀ ds g, dn ds g ≠ .st → ds.length = ps.length) (hdb : (x == ("__debug__" : Str)) = false) :
    PE X (.Call (.Name x p) [] [] pos) (tE X.K W Ew fun Γ g => R.bind (R.ok [] g) fun xs g => dn xs g) :=
  PE.imp (pe_callG0 F hr hgd hg hm hk hb .nil hx hdb) fun σ H Q ⟨Hk0, H0, Γ, g, Hk, fr, h⟩ => by
    have h' : Fin W Ew Hk H (dn [] g) _ := h
    exact ⟨by rw [← hln _ _ (nst h')]; rfl, [], g, Hk, fr.wk, rfl, h'⟩
theorem e_biB {x : Str} {id : String} {p : Pos} {f : List D → Option D} (hc : CallR X (.builtin id) (rBi X.K W f)) (hg : Gl X x) (hm : X.mg x = none) (hv : bootBuiltins x = some (.builtin id)) (ha : PA X (a :: es) (tAa X.K W Ew fs))
    (hn : x ≠ "__name__") (hdb : (x == ("__debug__" : Str)) = false) (he : starEach (a :: es) X.env = (false, eval a X.env) :: starEach es X.env) (hpl : (backTo pos (starEach es X.env)).any (·.1) = false) :
    PE X (.Call (.Name x p) (a :: es) [] pos) (tE X.K W Ew fun Γ g => (fs Γ g).bind fun xs g => lift (f xs) g) :=
  PE.imp (pe_callB hc hg hm hv ha hn hdb he hpl) fun σ H Q ⟨Hk0, H0, Γ, g, Hk, fr, h⟩ => seqA fr h fun vs ds g1 Hk1 H1 fr1 s1 r1 h1 => by
    obtain ⟨z, ez, hz⟩ := h1.lift
    exact ⟨g1, Hk1, ds, z, fr1.wk, r1, ez, fun v3 Hk3 H3 s3 dr3 r3 => hz Hk3 H3 s3 dr3 v3 r3⟩
theorem e_biT {x : Str} {id : String} {p : Pos} {f : List D → Option D} (hc : CallR X (.type id) (rBi X.K W f)) (hg : Gl X x) (hm : X.mg x = none) (hv : bootBuiltins x = some (.type id)) (ha : PA X (a :: es) (tAa X.K W Ew fs))
    (hn : x ≠ "__name__") (hdb : (x == ("__debug__" : Str)) = false) (he : starEach (a :: es) X.env = (false, eval a X.env) :: starEach es X.env) (hpl : (backTo pos (starEach es X.env)).any (·.1) = false) :
    PE X (.Call (.Name x p) (a :: es) [] pos) (tE X.K W Ew fun Γ g => (fs Γ g).bind fun xs g => lift (f xs) g) :=
  PE.imp (pe_callTy hc hg hm hv ha hn hdb he hpl) fun σ H Q ⟨Hk0, H0, Γ, g, Hk, fr, h⟩ => seqA fr h fun vs ds g1 Hk1 H1 fr1 s1 r1 h1 => by
    obtain ⟨z, ez, hz⟩ := h1.lift
    exact ⟨g1, Hk1, ds, z, fr1.wk, r1, ez, fun v3 Hk3 H3 s3 dr3 r3 => hz Hk3 H3 s3 dr3 v3 r3⟩
/-! ### isinstance -/
def tyN : Ty → String
  | .int => "int"
  | .bool => "bool"
  | .str => "str"
  | .tuple => "tuple"
  | .list => "list"
def tyS : D → String
  | .non => "NoneType"
  | .bl _ => "bool"
  | .int _ => "int"
  | .str _ => "str"
  | .tup _ => "tuple"
  | .lst _ => "list"
  | .m => "dict"
  | .scr _ => "list"
  | .dct _ _ => "dict"
theorem sqL_ty {a : Addr} {xs : List V} (h : SqL K H a xs) : TyX K H (.ref a) (.type "list") := by
  rcases h with (h | ⟨o, h⟩) | ⟨o, its, n, h, hc, _⟩
  · exact .base (.lst h)
  · exact .base (.frz h)
  · exact .kList h hc
theorem sqT_ty {a : Addr} {xs : List V} (h : SqT K H a xs) : TyX K H (.ref a) (.type "tuple") := by
  rcases h with (h | ⟨o, h⟩) | ⟨o, its, n, h, hc, _⟩
  · exact .base (.tup h)
  · exact .fTuple h
  · exact .kTuple h hc
theorem rp_ty {d : D} {v : V} (r : Rp K W H d v) (hm : ∀ ts, isiD ts d ≠ none) : TyX K H v (.type (tyS d)) := by
  cases d with
  | non => rw [show v = _ from r]; exact .base .non
  | bl b => rw [show v = _ from r]; exact .base (.bl b)
  | int i => rw [show v = _ from r]; exact .base (.int i)
  | str x => rw [show v = _ from r]; exact .base (.str x)
  | tup ds => obtain ⟨a, xs, rfl, h1, _⟩ := r; exact sqT_ty h1
  | lst ds => obtain ⟨a, xs, rfl, h1, _⟩ := r; exact .base (.lst h1)
  | m => exact absurd rfl (hm [])
  | dct _ _ => exact absurd rfl (hm [])
  | scr ns => obtain ⟨a, rfl, h1⟩ := r; exact sqL_ty h1
theorem kit_one (t : Ty) (d : D) (hm : ∀ ts, isiD ts d ≠ none) : PySem.W.kitOne K (.type (tyS d)) (.type (tyN t)) = some (isI t d) := by
  cases d <;> (try exact absurd rfl (hm [])) <;> cases t <;> exact kit_ty (by simp only [tyS, tyN, isI]; decide +kernel)
theorem isiD_any (ts : List Ty) (d : D) (b : Bool) (h : isiD ts d = some b) : b = ts.any (isI · d) := by
  cases d <;> simp only [isiD, Option.some.injEq] at h <;> first | exact h.symm | cases h
theorem isi_some {ts : List Ty} {d : D} {b : Bool} (h : isiD ts d = some b) : ∀ ts', isiD ts' d ≠ none := by
  intro ts' e
  cases d with
  | m => simp only [isiD] at h; cases h
  | dct _ _ => simp only [isiD] at h; cases h
  | _ => simp only [isiD] at e; cases e
theorem kit_any (d : D) (hm : ∀ ts, isiD ts d ≠ none) : ∀ ts : List Ty, PySem.W.kitAny K (.type (tyS d)) (ts.map fun t => .type (tyN t)) = some (ts.any (isI · d))
  | [] => rfl
  | t :: ts => by
    rw [List.map_cons, List.any_cons]
    refine kitAny_cons (kit_one t d hm) (fun e => ?_) (fun e => ?_)
    · rw [e, Bool.false_or]; exact kit_any d hm ts
    · rw [e, Bool.true_or]
/-- isinstance(a, T) -/
theorem e_isi1 {p p2 : Pos} {t : Ty} {tx : Str} (ha : PE X a (tE X.K W Ew fa)) (ht : PE X b (tC (.ty (tyN t)))) (hg : Gl X "isinstance") (hm : X.mg "isinstance" = none)
    (he : starEach [a, b] X.env = (false, eval a X.env) :: starEach [b] X.env) (he2 : starEach [b] X.env = (false, eval b X.env) :: starEach [] X.env) (hpl : (backTo pos (starEach [b] X.env)).any (·.1) = false) :
    PE X (.Call (.Name "isinstance" p) [a, b] [] pos) (tE X.K W Ew fun Γ g => (fa Γ g).bind fun x g => lift ((isiD [t] x).map .bl) g) :=
  PE.imp (pe_callB call_isi hg hm (by decide +kernel) (pa_cons ha (pa_cons ht pa_nil he2) he) (by decide) (by decide) he hpl) fun σ H Q ⟨Hk0, H0, Γ, g, Hk, fr, h⟩ => seqE fr h fun v d g1 Hk1 H1 fr1 s1 r1 h1 => by
    obtain ⟨z, ez, hz⟩ := h1.lift
    obtain ⟨k, ek, rfl⟩ := Option.map_eq_some_iff.mp ez
    refine ⟨v, .ty (tyN t), _, _, k, rfl, .ty _, rp_ty (r1.mono fr1.wk.ex) (isi_some ek), ?_, hz Hk1 H1 (Step.refl fr1.wk.ex) fr1.wk.dr _ rfl⟩
    rw [kit_one t d (isi_some ek), isiD_any _ _ _ ek]
    simp
/-- isinstance(a, (T, U)) -/
theorem e_isi2 {p : Pos} {t u : Ty} {tc : TA} (ha : PE X a (tE X.K W Ew fa)) (ht : PE X b (tTup fun _ H Q => Q [.ty (tyN t), .ty (tyN u)] H)) (hg : Gl X "isinstance") (hm : X.mg "isinstance" = none)
    (he : starEach [a, b] X.env = (false, eval a X.env) :: starEach [b] X.env) (he2 : starEach [b] X.env = (false, eval b X.env) :: starEach [] X.env) (hpl : (backTo pos (starEach [b] X.env)).any (·.1) = false) :
    PE X (.Call (.Name "isinstance" p) [a, b] [] pos) (tE X.K W Ew fun Γ g => (fa Γ g).bind fun x g => lift ((isiD [t, u] x).map .bl) g) :=
  PE.imp (pe_callB call_isiT hg hm (by decide +kernel) (pa_cons ha (pa_cons ht pa_nil he2) he) (by decide) (by decide) he hpl) fun σ H Q ⟨Hk0, H0, Γ, g, Hk, fr, h⟩ => seqE fr h fun v d g1 Hk1 H1 fr1 s1 r1 h1 => by
    obtain ⟨z, ez, hz⟩ := h1.lift
    obtain ⟨k, ek, rfl⟩ := Option.map_eq_some_iff.mp ez
    refine ⟨by show 2 ≤ sizeLine; decide, fun q hq => ?_⟩
    have s2 : Step W Hk1 H1 (upd Hk1 q (.tup [.ty (tyN t), .ty (tyN u)])) (upd H1 q (.tup [.ty (tyN t), .ty (tyN u)])) := Step.new fr1.wk.ex hq
    have dr2 := fr1.wk.dr.new (o := .tup [.ty (tyN t), .ty (tyN u)]) hq
    refine ⟨v, q, _, _, [t, u].map fun t => .type (tyN t), k, rfl, upd_same, .cons (.ty _) (.cons (.ty _) .nil), rp_ty ((r1.mono s2.k).mono s2.kh) (isi_some ek), ?_, hz _ _ s2 dr2 _ rfl⟩
    rw [kit_any d (isi_some ek), isiD_any _ _ _ ek]
/-! ### the drawing -/
def drawR (x y : D) (g : G) : R D := match x, y with
      | .m, .int lim => if 0 < lim ∧ lim < 2 ^ 4000 ∧ g.spot < 2 ^ 60 then .ok (.int (g.draw lim).1) (g.draw lim).2 else .st
      | _, _ => .st
/-- what `_law_draw` promises -/
def spDraw (W : Wd) : Sp := fun vs H Q _ => ∃ (lim : Int) (g : G) (Hk : Hp), vs = [.ref W.am, .int lim] ∧ Wk W g Hk H ∧ 0 < lim ∧ lim < 2 ^ 4000 ∧ g.spot < 2 ^ 60 ∧
  ∀ H', Step W Hk H Hk H' → DrawAt W (g.draw lim).2 H' → Q (.int (g.draw lim).1) H'
theorem e_draw {CX : CXT} {k : Nat} {f : Addr} {fd : FuncData} {ps : List Str} {x : Str} {p : Pos} (F : FnOkG X.prog X.w X.K X.mg X.base CX k f fd ps (spDraw W)) (hr : Room k X.A) (hgd : X.A.guards = some [])
    (hg : Gl X x) (hm : X.mg x = some (.ref f)) (hk : PySem.W.keepIn X.K (.ref f) = true) (hb : Binds X.K fd ps []) (hx : Passes CX X Ew)
    (ha : PE X a (tE X.K W Ew fa)) (hbb : PE X b (tE X.K W Ew fb)) (hdb : (x == ("__debug__" : Str)) = false) (he : starEach [a, b] X.env = (false, eval a X.env) :: starEach [b] X.env) (he2 : starEach [b] X.env = (false, eval b X.env) :: starEach [] X.env) (hpl : (backTo pos (starEach [b] X.env)).any (·.1) = false) :
    PE X (.Call (.Name x p) [a, b] [] pos) (tE X.K W Ew fun Γ g => (fa Γ g).bind fun x g => (fb Γ g).bind fun y g => drawR x y g) :=
  PE.imp (pe_callG F hr hgd hg hm hk hb .nil hx (pa_cons ha (pa_cons hbb pa_nil he2) he) hdb he hpl) fun σ H Q ⟨Hk0, H0, Γ, g, Hk, fr, h⟩ => seqE fr h fun v d g1 Hk1 H1 fr1 s1 r1 h1 => seqE fr1 h1 fun v2 d2 g2 Hk2 H2 fr2 s2 r2 h2 => by
    show spDraw W ([v, v2] ++ []) H2 Q Ew
    rw [List.append_nil]
    cases d <;> (try exact h2.elim)
    cases d2 <;> (try exact h2.elim)
    rename_i lim
    have h2' : Fin W Ew Hk2 H2 (if 0 < lim ∧ lim < 2 ^ 4000 ∧ g2.spot < 2 ^ 60 then R.ok (D.int (g2.draw lim).1) (g2.draw lim).2 else R.st) _ := h2
    by_cases hc : 0 < lim ∧ lim < 2 ^ 4000 ∧ g2.spot < 2 ^ 60
    · rw [if_pos hc] at h2'
      rw [show v = _ from r1, show v2 = _ from r2]
      exact ⟨lim, g2, Hk2, rfl, fr2.wk, hc.1, hc.2.1, hc.2.2, fun H' s dr => h2' Hk2 H' s dr _ rfl⟩
    · rw [if_neg hc] at h2'
      exact h2'.elim
/-! ### what is walked -/
variable {tg : Expr}
/-- lengths are within the line -/
theorem PI.inv {e : Expr} {wi : TI} (h : PI X tg e wi) : PI X tg e (fun σ H R => wi σ H fun J H' => (∀ b a xs, SqB X.K b H' a xs → xs.length ≤ sizeLine) → R J H') :=
  ⟨fun pins s σ H R I q => thn (h.run pins s σ H _ I q) fun v s1 h1 => thn h1 fun itv s2 ⟨it, fp, tn, J, H', e, I2, T, t0, f, r⟩ => ⟨it, fp, tn, J, H', e, I2, T, t0, f, r fun b a xs hq => (inv_seqB I2 hq).choose_spec.2.2⟩⟩
theorem i_seq (ha : PE X a (tE X.K W Ew fa)) : PI X tg a (tIi X.K W Ew fun Γ g => (fa Γ g).bind fun x g => lift (seqD x) g) := by
  refine ⟨fun pins s σ H R I h => ?_⟩
  obtain ⟨Hk0, H0, Γ, g, Hk, fr, h⟩ := h
  dsimp only at h
  cases e : fa Γ g with
  | st => rw [e] at h; exact h.elim
  | ex c ds g' =>
    refine (PI.inv (pi_tup (tg := tg) ha)).run pins s σ H R I ⟨Hk0, H0, Γ, g, Hk, fr, ?_⟩
    rw [e] at h ⊢
    exact h
  | ok d g' =>
    cases d <;> (try (rw [e] at h; exact h.elim))
    · refine (PI.inv (pi_tup (tg := tg) ha)).run pins s σ H R I ⟨Hk0, H0, Γ, g, Hk, fr, ?_⟩
      rw [e] at h ⊢
      intro Hk' H' s' dr v rv
      obtain ⟨a, xs, rfl, h1, h2⟩ := rv
      exact ⟨a, rfl, ⟨xs, ex_t s'.kh h1⟩, fun hz => h Hk' H' s' dr _ (itOk_tup (hz false a xs (ex_t s'.kh h1)) h1 h2)⟩
    · refine (PI.inv (pi_list (tg := tg) ha)).run pins s σ H R I ⟨Hk0, H0, Γ, g, Hk, fr, ?_⟩
      rw [e] at h ⊢
      intro Hk' H' s' dr v rv
      obtain ⟨a, xs, rfl, h1, h2⟩ := rv
      exact ⟨a, rfl, ⟨xs, SqL.of (s'.kh _ _ h1)⟩, fun hz => h Hk' H' s' dr _ (itOk_list (hz true a xs (SqL.of (s'.kh _ _ h1))) h1 h2)⟩
    · rename_i ks vs
      refine (pi_keysX (tg := tg) ha).run pins s σ H R I ⟨Hk0, H0, Γ, g, Hk, fr, ?_⟩
      rw [e] at h ⊢
      have h' : Fin W Ew Hk H (lift (if ks.length ≤ 1000000 then some ks else none) g') fun ds _ Hk' H' => ∀ J, ItOk X.K W J ds Hk' → R J H' := h
      by_cases hz : ks.length ≤ 1000000
      · rw [if_pos hz] at h'
        intro Hk' H' s' dr v rv
        obtain ⟨a, o, xs, rfl, h1, h2, h3, h4, h5, h6, h7⟩ := rv
        exact ⟨a, o, xs, W.w, rfl, h2, s'.kh _ _ h1, h3, h' Hk' H' s' dr _ (itOk_keys (size_le hz) h1 h6)⟩
      · rw [if_neg hz] at h'
        exact h'.elim
theorem i_rng1 {p : Pos} (hg : Gl X "range") (hm : X.mg "range" = none) (ha : PE X a (tE X.K W Ew fa)) (hs : starEach [a] X.env = (false, eval a X.env) :: starEach [] X.env) :
    PI X tg (.Call (.Name "range" p) [a] [] pos) (tIi X.K W Ew fun Γ g => (fa Γ g).bind fun x g => match x with | .int i => if -1000000 ≤ i ∧ i ≤ 1000000 then .ok (rngD 0 i.toNat) g else .st | _ => .st) :=
  PI.imp (pi_range1 hg hm (pa_cons ha pa_nil hs) hs) fun σ H Q ⟨Hk0, H0, Γ, g, Hk, fr, h⟩ => seqE fr h fun v d g1 Hk1 H1 fr1 s1 r1 h1 => by
    cases d <;> (try exact h1.elim)
    rename_i i
    have h1' : Fin W Ew Hk1 H1 (if -1000000 ≤ i ∧ i ≤ 1000000 then R.ok (rngD 0 i.toNat) g1 else R.st) _ := h1
    by_cases hc : -1000000 ≤ i ∧ i ≤ 1000000
    · rw [if_pos hc] at h1'
      rw [show v = .int i from r1]
      exact ⟨i, rfl, by omega, by omega, Fin.now fr1 h1' _ (itOk_rng 0 i.toNat (by omega))⟩
    · rw [if_neg hc] at h1'
      exact h1'.elim
theorem i_rng2 {p : Pos} (hg : Gl X "range") (hm : X.mg "range" = none) (ha : PE X a (tE X.K W Ew fa)) (hb : PE X b (tE X.K W Ew fb)) (hs : starEach [a, b] X.env = (false, eval a X.env) :: starEach [b] X.env) (hs2 : starEach [b] X.env = (false, eval b X.env) :: starEach [] X.env) :
    PI X tg (.Call (.Name "range" p) [a, b] [] pos) (tIi X.K W Ew fun Γ g => (fa Γ g).bind fun x g => (fb Γ g).bind fun y g => match x, y with
      | .int i, .int j => if (-1000000 ≤ i ∧ i ≤ 1000000) ∧ -1000000 ≤ j ∧ j ≤ 1000000 then .ok (rngD i (j - i).toNat) g else .st
      | _, _ => .st) :=
  PI.imp (pi_range2 hg hm (pa_cons ha (pa_cons hb pa_nil hs2) hs) (by rw [hs, hs2]; rfl) hs2) fun σ H Q ⟨Hk0, H0, Γ, g, Hk, fr, h⟩ => seqE fr h fun v d g1 Hk1 H1 fr1 s1 r1 h1 => seqE fr1 h1 fun v2 d2 g2 Hk2 H2 fr2 s2 r2 h2 => by
    cases d <;> (try exact h2.elim)
    cases d2 <;> (try exact h2.elim)
    rename_i i j
    have h1' : Fin W Ew Hk2 H2 (if (-1000000 ≤ i ∧ i ≤ 1000000) ∧ -1000000 ≤ j ∧ j ≤ 1000000 then R.ok (rngD i (j - i).toNat) g2 else R.st) _ := h2
    by_cases hc : (-1000000 ≤ i ∧ i ≤ 1000000) ∧ -1000000 ≤ j ∧ j ≤ 1000000
    · rw [if_pos hc] at h1'
      rw [show v = .int i from r1, show v2 = .int j from r2]
      exact ⟨i, j, rfl, by omega, Fin.now fr2 h1' _ (itOk_rng i (j - i).toNat (by omega))⟩
    · rw [if_neg hc] at h1'
      exact h1'.elim
theorem i_zip {p tpos : Pos} {elts : List Expr} {kk : Nat} (hg : Gl X "zip") (hm : X.mg "zip" = none) (ha : PE X a (tE X.K W Ew fa)) (hb : PE X b (tE X.K W Ew fb)) (hs : starEach [a, b] X.env = (false, eval a X.env) :: starEach [b] X.env) (hs2 : starEach [b] X.env = (false, eval b X.env) :: starEach [] X.env)
    (hpl : (backTo pos (starEach [b] X.env)).any (·.1) = false) :
    PI X (.Tuple elts kk tpos) (.Call (.Name "zip" p) [a, b] [] pos) (tIi X.K W Ew fun Γ g => (fa Γ g).bind fun x g => (fb Γ g).bind fun y g => match itemsD x, itemsD y with
      | some xs, some ys => .ok (zipD xs ys) g
      | _, _ => .st) :=
  PI.imp (PI.inv (pi_zipB hg hm (pa_cons ha (pa_cons hb pa_nil hs2) hs) hs hpl)) fun σ H Q ⟨Hk0, H0, Γ, g, Hk, fr, h⟩ => seqE fr h fun v d g1 Hk1 H1 fr1 s1 r1 h1 => seqE fr1 h1 fun v2 d2 g2 Hk2 H2 fr2 s2 r2 h2 => by
    cases e1 : itemsD d with
    | none => rw [e1] at h2; exact h2.elim
    | some xs =>
      cases e2 : itemsD d2 with
      | none => rw [e1, e2] at h2; exact h2.elim
      | some ys =>
        rw [e1, e2] at h2
        obtain ⟨b1, a1, vs1, rfl, q1, l1⟩ := items_sq (r1.mono s2.k) e1
        obtain ⟨b2, a2, vs2, rfl, q2, l2⟩ := items_sq r2 e2
        exact ⟨b1, b2, a1, a2, vs1, vs2, rfl, sqB_mono fr2.wk.ex q1, sqB_mono fr2.wk.ex q2, fun hz => Fin.now fr2 h2 _ (itOk_zip q1 q2 l1 l2 (hz _ _ _ (sqB_mono fr2.wk.ex q1)))⟩
theorem i_enum {p tpos : Pos} {elts : List Expr} {kk : Nat} (hg : Gl X "enumerate") (hm : X.mg "enumerate" = none) (ha : PE X a (tE X.K W Ew fa)) (hs : starEach [a] X.env = (false, eval a X.env) :: starEach [] X.env) :
    PI X (.Tuple elts kk tpos) (.Call (.Name "enumerate" p) [a] [] pos) (tIi X.K W Ew fun Γ g => (fa Γ g).bind fun x g => match itemsD x with
      | some xs => .ok (enumD 0 xs) g
      | _ => .st) :=
  PI.imp (PI.inv (pi_enumB hg hm (pa_cons ha pa_nil hs) hs)) fun σ H Q ⟨Hk0, H0, Γ, g, Hk, fr, h⟩ => seqE fr h fun v d g1 Hk1 H1 fr1 s1 r1 h1 => by
    cases e1 : itemsD d with
    | none => rw [e1] at h1; exact h1.elim
    | some xs =>
      rw [e1] at h1
      obtain ⟨b1, a1, vs1, rfl, q1, l1⟩ := items_sq r1 e1
      exact ⟨b1, a1, vs1, rfl, sqB_mono fr1.wk.ex q1, fun hz => Fin.now fr1 h1 _ (itOk_enum q1 l1 (hz _ _ _ (sqB_mono fr1.wk.ex q1)))⟩
/-! ### targets -/
theorem wipe_append (σ : L2.St) : ∀ (u v : List Nat), wipe σ (u ++ v) = wipe (wipe σ v) u
  | [], v => rfl
  | i :: u, v => by rw [List.cons_append, wipe, wipe, wipe_append σ u v]
theorem set_none_comm (σ : L2.St) (i j : Nat) : (σ.set i none).set j none = (σ.set j none).set i none := by
  by_cases h : i = j
  · subst h; rfl
  · exact List.set_comm _ _ h
theorem wipe_set (σ : L2.St) (i : Nat) : ∀ (v : List Nat), wipe (σ.set i none) v = (wipe σ v).set i none
  | [] => rfl
  | j :: v => by rw [wipe, wipe, wipe_set σ i v, set_none_comm]
theorem wipe_comm (σ : L2.St) : ∀ (u v : List Nat), wipe (wipe σ v) u = wipe (wipe σ u) v
  | [], v => rfl
  | i :: u, v => by rw [wipe, wipe, wipe_set, wipe_comm σ u v]
theorem g_var {i : Nat} {x : Str} {p : Pos} (h : PG X (.Name x p) (gName i)) : PG X (.Name x p) (tGg X.K W (.var i)) := PG.imp h fun v σ H Q ⟨Hk0, H0, Γ, g, Hk, d, Γ', fr, r, e, q⟩ => by
  simp only [setT] at e
  split at e
  · cases e
    refine q _ (fr.set r) ?_
    show (σ.set i (some v)).set i none = σ.set i none
    rw [List.set_set]
  · cases e
theorem g_tup {ts : List T} {k n : Nat} (hc : X.calm = true) (h : PGs X es (tGgs X.K W ts)) (hn : (assignEach es X.env).length = n) (hst : (assignEach es X.env).findIdx? (·.1) = none) (hl : ts.length = n) : PG X (.Tuple es k pos) (tGg X.K W (.tup ts)) :=
  PG.imp (pg_tup hc h hn hst) fun v σ H Q ⟨Hk0, H0, Γ, g, Hk, d, Γ', fr, r, e, q⟩ => by
    cases d <;> (try (simp only [setT] at e; cases e; done))
    rename_i ds
    obtain ⟨a, xs, rfl, h1, h2⟩ := r
    simp only [setT] at e
    refine ⟨a, xs, rfl, ex_t fr.wk.ex h1, ?_, Hk0, H0, Γ, g, Hk, ds, Γ', fr, h2, e, fun σ' fr' hw => q σ' fr' hw⟩
    rw [h2.len, ← hl]
    have : ∀ (ts : List T) (ds : List D) (Γ Γ' : Gm), setTs ts ds Γ = some Γ' → ds.length = ts.length := by
      intro ts
      induction ts with
      | nil => intro ds Γ Γ' e; cases ds with | nil => rfl | cons _ _ => simp only [setTs] at e; cases e
      | cons t ts ih =>
        intro ds Γ Γ' e
        cases ds with
        | nil => simp only [setTs] at e; cases e
        | cons d ds =>
          simp only [setTs, Option.bind_eq_some_iff] at e
          obtain ⟨Γ1, _, e2⟩ := e
          rw [List.length_cons, List.length_cons, ih ds Γ1 Γ' e2]
    exact this ts ds Γ Γ' e
theorem gs_nil : PGs X [] (tGgs X.K W []) := PGs.imp pgs_nil fun vs σ H Q ⟨Hk0, H0, Γ, g, Hk, ds, Γ', fr, r, e, q⟩ => by
  cases ds with
  | nil => simp only [setTs, Option.some.injEq] at e; subst e; exact ⟨r, q σ fr rfl⟩
  | cons _ _ => simp only [setTs] at e; cases e
theorem gs_cons {t : T} {ts : List T} (h1 : PG X a (tGg X.K W t)) (h2 : PGs X es (tGgs X.K W ts)) (hs : (assignEach (a :: es) X.env).map (·.2) = assign a X.env :: (assignEach es X.env).map (·.2)) : PGs X (a :: es) (tGgs X.K W (t :: ts)) :=
  PGs.imp (pgs_cons h1 h2 hs) fun vs σ H Q ⟨Hk0, H0, Γ, g, Hk, ds, Γ', fr, r, e, q⟩ => by
    cases ds with
    | nil => simp only [setTs] at e; cases e
    | cons d ds =>
      simp only [setTs, Option.bind_eq_some_iff] at e
      obtain ⟨Γ1, e1, e2⟩ := e
      obtain ⟨v, vr, rfl, r1, r2⟩ := r
      refine ⟨v, vr, rfl, Hk0, H0, Γ, g, Hk, d, Γ1, fr, r1, e1, fun σ1 fr1 w1 => ⟨Hk0, H0, Γ1, g, Hk, ds, Γ', fr1, r2, e2, fun σ2 fr2 w2 => q σ2 fr2 ?_⟩⟩
      show wipe σ2 (t.vars ++ varsT ts) = wipe σ (t.vars ++ varsT ts)
      rw [wipe_append, wipe_append, w2, wipe_comm, w1, wipe_comm]
end
end Bk

set_option Elab.async false
set_option linter.all false
set_option maxRecDepth 100000
set_option maxHeartbeats 1000000
/-! List comprehensions. -/
namespace Bk
open PySem L2
open Evl (Ex ex_l ex_t)
theorem wipe_idem (σ : L2.St) : ∀ (v : List Nat), wipe (wipe σ v) v = wipe σ v
  | [] => rfl
  | i :: v => by
    show (wipe ((wipe σ v).set i none) v).set i none = (wipe σ v).set i none
    rw [wipe_set, wipe_idem σ v, List.set_set]
def lcF (t : T) (fe : Gm → G → R D) (cf : Gm → G → R Bool) (Γ : Gm) : D → G → R (Option D) := fun x g => (lift (setT t x (wipeG Γ t.vars)) g).bind fun Γ' g =>
  (cf Γ' g).bind fun k g => if k then (fe Γ' g).bind fun y g => .ok (some y) g else .ok none g
theorem nox_ok {α : Type} {r : R α} {β : Type} {k : α → G → R β} {b : β} {g : G} (h : r.nox.bind k = .ok b g) : ∃ a g1, r = .ok a g1 ∧ k a g1 = .ok b g := by
  cases r with
  | ok a g1 => exact ⟨a, g1, rfl, h⟩
  | ex _ _ _ => cases h
  | st => cases h
theorem bind_ok {α : Type} {r : R α} {β : Type} {k : α → G → R β} {b : β} {g : G} (h : r.bind k = .ok b g) : ∃ a g1, r = .ok a g1 ∧ k a g1 = .ok b g := by
  cases r with
  | ok a g1 => exact ⟨a, g1, rfl, h⟩
  | ex _ _ _ => cases h
  | st => cases h
theorem lift_ok {α : Type} {o : Option α} {g g' : G} {a : α} (h : lift o g = .ok a g') : o = some a ∧ g = g' := by
  cases o with
  | none => cases h
  | some x => cases h; exact ⟨rfl, rfl⟩
theorem lcR_noex {f : D → G → R (Option D)} : ∀ {xs : List D} {g : G} {c : Nat} {ds : List D} {g' : G}, lcR f xs g ≠ .ex c ds g'
  | [], _, _, _, _, h => by cases h
  | x :: xs, g, c, ds, g', h => by
    unfold lcR at h
    cases e : f x g with
    | ok o g1 =>
      rw [e] at h
      have h' : (lcR f xs g1).bind _ = .ex c ds g' := h
      cases e2 : lcR f xs g1 with
      | ok ys g2 => rw [e2] at h'; cases h'
      | ex c' ds' g2 => exact lcR_noex e2
      | st => rw [e2] at h'; cases h'
    | ex _ _ _ => rw [e] at h; cases h
    | st => rw [e] at h; cases h
theorem lcR_cons {f : D → G → R (Option D)} {x : D} {xs : List D} {g g' : G} {zs : List D} (h : lcR f (x :: xs) g = .ok zs g') : ∃ o g1 ys, f x g = .ok o g1 ∧ lcR f xs g1 = .ok ys g' ∧ zs = (match o with | some y => y :: ys | none => ys) := by
  unfold lcR at h
  obtain ⟨o, g1, e1, h⟩ := nox_ok h
  obtain ⟨ys, g2, e2, h⟩ := bind_ok h
  cases h
  exact ⟨o, g1, ys, e1, e2, rfl⟩
section
variable {X : Cx} {W : Wd} {Ew : XK} {Hk0 H0 Hk H : Hp} {Γ : Gm} {g : G} {σ : L2.St} {K : PySem.W.Frag}
theorem Fin.of_ok {α : Type} {r : R α} {a : α} {k : α → G → Hp → Hp → Prop} (e : r = .ok a g) (h : ∀ Hk' H', Step W Hk H Hk' H' → DrawAt W g H' → k a g Hk' H') : Fin W Ew Hk H r k := by
  rw [e]; exact h
theorem none_back {Hk' H' : Hp} {p : Addr} (s : Step W Hk H Hk' H') (h : H' p = none) : H p = none := by
  cases q : H p with
  | none => rfl
  | some o => obtain ⟨o', h'⟩ := s.t p o q; rw [h] at h'; cases h'
theorem ts_nil : PTs X [] (tTt X.K W Ew fun _ g => .ok true g) := ⟨fun pins s σ H Q I ⟨Hk0, H0, Γ, g, Hk, fr, h⟩ => pts_nil.run pins s σ H Q I (Fin.now fr h)⟩
theorem f_lc {elt tg iter : Expr} {ifs : List Expr} {scope : Scope} {own : List (Str × Nat)} {t : T} {fi : Gm → G → R (List D)} {fe : Gm → G → R D} {cf : Gm → G → R Bool}
    (hc : X.calm = true) (hN : X.N.Nodup) (hi : PI X tg iter (tIi X.K W Ew fi)) (ok : BlkOk X.N X.env.scope scope own) (hown : own.map (·.2) = t.vars)
    (hg : ∀ (s : Shared) (H : Hp) (C : Addr) (cl : List (Str × Addr)) (fp : List Addr), PG (X.blk s H scope (compEnvC scope cl C X.env) fp) tg (tGg X.K W t))
    (ht : ∀ (s : Shared) (H : Hp) (C : Addr) (cl : List (Str × Addr)) (fp : List Addr), PTs (X.blk s H scope (compEnvC scope cl C X.env) fp) ifs (tTt X.K W E0 cf))
    (he : ∀ (s : Shared) (H : Hp) (C : Addr) (cl : List (Str × Addr)) (fp : List Addr), PE (X.blk s H scope (compEnvC scope cl C X.env) fp) elt (tE X.K W E0 fe))
    (hs : ∀ x, foldedSetIterable iter X.env x = pure x) :
    (∀ σ H Q, (tFf X.K W Ew fun Γ g => (fi Γ g).bind fun xs g => (lcR (lcF t fe cf Γ) xs g).bind fun ys g => .ok (.lst ys) g) σ H Q → tLc (tIi X.K W Ew fi) (tGg X.K W t) (tTt X.K W E0 cf) (tE X.K W E0 fe) (own.map (·.2)) σ H Q) := by
  intro σ H Q ⟨Hk0, H0, Γ, g, Hk, fr, h⟩
  rw [hown]
  refine seqI fr h fun J ds g1 Hk1 H1 fr1 s1 io h1 => fun Dl hD => ?_
  generalize hF : lcF t fe cf Γ = F at h1
  cases e : lcR F ds g1 with
  | st => rw [e] at h1; exact h1.elim
  | ex c ds' g' => exact absurd e lcR_noex
  | ok zs gE =>
    rw [e] at h1
    have hout : W.out Dl := ex_upd_out fr1.wk.dr hD
    have hk1 : Hk1 Dl = none := DrawAt.unk_of fr1.wk.dr fr1.wk hD
    have hD0 : H Dl = none := none_back s1 hD
    let Inv0 : Nat → Hp → Prop := fun i H' => i ≤ ds.length ∧ ∃ g Hk acc ys zs', Step W Hk1 H1 Hk H' ∧ DrawAt W g H' ∧ H' Dl = some (.lst acc) ∧ Hk Dl = none ∧ RpL X.K W Hk ys acc ∧ acc.length ≤ i ∧ lcR F (ds.drop i) g = .ok zs' gE ∧ ys ++ zs' = zs
    refine ⟨fun i m H' => m = ds.length - i ∧ Inv0 i H', ⟨ds.length, by simp, Nat.zero_le _, g1, Hk1, [], [], zs, Step.hid fr1.wk.ex hD, fr1.wk.dr.new hD, upd_same, hk1, rfl, Nat.le_refl _, e, rfl⟩, ?_⟩
    rintro i m H' ⟨rfl, hi, g2, Hk2, acc, ys, zs', st, dr, hDl, hkD, ry, hl, el, ez⟩
    have wk2 : Wk W g2 Hk2 H' := fr1.wk.step st dr
    by_cases hlt : i < ds.length
    · refine .inr ⟨io.go i Hk2 H' g2 hlt st.k wk2, Inv0 (i + 1), fun H3 q => ⟨ds.length - (i + 1), by omega, rfl, q⟩, fun x H3 y => ?_⟩
      have hd : ds[i]? = some ds[i] := by simp [hlt]
      obtain ⟨Hk3, s3, dr3, rx⟩ := io.yld i Hk2 H' g2 x H3 ds[i] hd st.k wk2 y
      rw [List.drop_eq_getElem_cons hlt] at el
      obtain ⟨o, g4, ys', ef, er, ezs⟩ := lcR_cons el
      subst hF
      unfold lcF at ef
      obtain ⟨Γ', g5, e5, ef⟩ := bind_ok ef
      obtain ⟨e5', e5''⟩ := lift_ok e5
      subst e5''
      obtain ⟨k, g6, e6, ef⟩ := bind_ok ef
      have st3 := st.trans s3
      refine ⟨Hk0, H0, wipeG Γ t.vars, g2, Hk3, ds[i], Γ', (fr1.wipe t.vars).step st3 dr3, rx, e5', fun σ' fr' hw => ⟨by rw [hw, wipe_idem], Hk0, H0, Γ', g2, Hk3, fr', Fin.of_ok e6 fun Hk4 H4 s4 dr4 => ?_⟩⟩
      have h3D : H3 Dl = some (.lst acc) := s3.h _ _ hDl hout
      have h4D : H4 Dl = some (.lst acc) := s4.h _ _ h3D hout
      have k3D : Hk3 Dl = none := s3.unk hkD hDl
      have k4D : Hk4 Dl = none := s4.unk k3D h3D
      cases k with
      | false =>
        cases ef
        refine iteF ⟨hlt, _, Hk4, acc, ys, ys', st3.trans s4, dr4, h4D, k4D, (ry.mono s3.k).mono s4.k, by omega, er, ?_⟩
        rw [← ez, ezs]
      | true =>
        simp only [if_true] at ef
        obtain ⟨yv, g7, e7, ef⟩ := bind_ok ef
        cases ef
        refine iteT ⟨Hk0, H0, Γ', g6, Hk4, fr'.step s4 dr4, Fin.of_ok e7 fun Hk5 H5 s5 dr5 v rv => ⟨acc, s5.h _ _ h4D hout, ?_, hlt, g4, Hk5, acc ++ [v], ys ++ [yv], ys', ?_, dr5.upd hout (nc_lst (s5.h _ _ h4D hout)), upd_same, s5.unk k4D h4D, ?_, ?_, er, ?_⟩⟩
        · have := io.len; omega
        · exact ((st3.trans s4).trans s5).mut hD (s5.unk k4D h4D)
        · exact (((ry.mono s3.k).mono s4.k).mono s5.k).append (.cons rv .nil)
        · simp; omega
        · rw [← ez, ezs, List.append_assoc]; rfl
    · have hi' : i = ds.length := by omega
      subst hi'
      rw [List.drop_length] at el
      cases el
      refine .inl ⟨io.stop _ Hk2 H' _ rfl st.k wk2, ?_⟩
      rw [List.append_nil] at ez
      subst ez
      exact h1 Hk2 H' st dr Dl _ hD0 hkD hDl ⟨acc, rfl, ry⟩
end
end Bk

set_option Elab.async false
set_option linter.all false
set_option maxRecDepth 100000
set_option maxHeartbeats 2000000
/-! Owned lists: what is read of them, what is changed in them; new lists by other roads; starred items. -/
namespace Bk
open PySem L2
open Evl (Ex ex_l ex_t)
section
variable {X : Cx} {W : Wd} {Ew : XK} {Hk0 H0 Hk H : Hp} {Γ : Gm} {g : G} {σ : L2.St} {K : PySem.W.Frag}
theorem RpL.set : ∀ {ds : List D} {vs : List V} (j : Nat) {d : D} {v : V}, RpL K W H ds vs → Rp K W H d v → RpL K W H (ds.set j d) (vs.set j v)
  | [], vs, j, d, v, h, r => by rw [show vs = [] from h]; exact rfl
  | e :: ds, vs, 0, d, v, h, r => by
    obtain ⟨y, ys, rfl, h1, h2⟩ := h
    exact ⟨v, ys, rfl, r, h2⟩
  | e :: ds, vs, j + 1, d, v, h, r => by
    obtain ⟨y, ys, rfl, h1, h2⟩ := h
    exact ⟨y, ys.set j v, rfl, h1, RpL.set j h2 r⟩
theorem RpL.rev {ds : List D} {vs : List V} (h : RpL K W H ds vs) : RpL K W H ds.reverse vs.reverse := by
  induction ds generalizing vs with
  | nil => rw [show vs = [] from h]; exact rfl
  | cons d ds ih =>
    obtain ⟨y, ys, rfl, h1, h2⟩ := h
    rw [List.reverse_cons, List.reverse_cons]
    exact (ih h2).append (.cons h1 .nil)
theorem RpL.dropLast {ds : List D} {vs : List V} (h : RpL K W H ds vs) : RpL K W H ds.dropLast vs.dropLast := by
  rw [List.dropLast_eq_take, List.dropLast_eq_take, h.len]
  exact h.take _
/-- a new list, at an end -/
theorem fin_own {Hs Hk2 H2 : Hp} {Q : VK} {zs : List D} {acc : List V} {p : Addr} (fr : Fr K W Hk0 H0 Γ g σ Hk2 H2) (h : Fin W Ew Hk2 H2 (R.ok (D.lst zs) g) fun d _ Hk' H' => ∀ p u, Hs p = none → Hk' p = none → H' p = some u → Ob K W Hk' d p u → Q (.ref p) H')
    (hp : H2 p = none) (r : RpL K W Hk2 zs acc) (hs : Hs p = none) : Q (.ref p) (upd H2 p (.lst acc)) :=
  h Hk2 _ (Step.hid fr.wk.ex hp) (fr.wk.dr.new hp) p _ hs (fr.wk.dr.unk_of fr.wk hp) upd_same ⟨acc, rfl, r⟩
variable {a b : Expr} {es : List Expr} {pos : Pos} {fa fb : Gm → G → R D} {fs : Gm → G → R (List D)}
def catR (fa fb : Gm → G → R D) : Gm → G → R D := fun Γ g => (fa Γ g).bind fun x g => (fb Γ g).bind fun y g => match x, y with
      | .lst xs, .lst ys => if xs.length + ys.length ≤ 1000000 then .ok (.lst (xs ++ ys)) g else .st
      | _, _ => .st
theorem f_cat (ha : PE X a (tE X.K W Ew fa)) (hb : PE X b (tE X.K W Ew fb)) : PE X (.BinOp a .Add b pos) (tFf X.K W Ew (catR fa fb)) :=
  PE.imp (pe_op op_cat ha hb) fun σ H Q ⟨Hk0, H0, Γ, g, Hk, fr, h⟩ => seqE fr h fun v d g1 Hk1 H1 fr1 s1 r1 h1 => seqE fr1 h1 fun v2 d2 g2 Hk2 H2 fr2 s2 r2 h2 => by
    cases d <;> (try exact h2.elim)
    cases d2 <;> (try exact h2.elim)
    rename_i xs ys
    obtain ⟨a, vs, rfl, q1, q2⟩ := r1
    obtain ⟨b, us, rfl, q3, q4⟩ := r2
    have h2' : Fin W Ew Hk2 H2 (if xs.length + ys.length ≤ 1000000 then R.ok (D.lst (xs ++ ys)) g2 else R.st) _ := h2
    by_cases hz : xs.length + ys.length ≤ 1000000
    · rw [if_pos hz] at h2'
      exact ⟨a, b, vs, us, rfl, rfl, fr2.wk.ex _ _ (s2.k _ _ q1), fr2.wk.ex _ _ q3, size_le (by rw [q2.len, q4.len]; exact hz), fun p hp => fin_own fr2 h2' hp ((q2.mono s2.k).append q4) (none_back s1 (none_back s2 hp))⟩
    · rw [if_neg hz] at h2'; exact h2'.elim
theorem cat_shape {Γ : Gm} {g g' : G} {d : D} (h : catR fa fb Γ g = .ok d g') : isOb d = true := by
  unfold catR at h
  obtain ⟨x, g1, _, h⟩ := bind_ok h
  obtain ⟨y, g2, _, h⟩ := bind_ok h
  cases x <;> (try (cases h; done))
  cases y <;> (try (cases h; done))
  dsimp only at h
  split at h
  · cases h; rfl
  · cases h
def revR (fa : Gm → G → R D) : Gm → G → R D := fun Γ g => (fa Γ g).bind fun x g => match x with
      | .lst xs => .ok (.lst xs.reverse) g
      | _ => .st
theorem f_rev {k : Nat} {p1 p2 p3 : Pos} (ha : PE X a (tE X.K W Ew fa)) : PE X (.Subscript a (.Slice none none (some (.UnaryOp .USub (.Constant (.int 1) k p1) p2)) p3) pos) (tFf X.K W Ew (revR fa)) :=
  PE.imp (pe_revL ha) fun σ H Q ⟨Hk0, H0, Γ, g, Hk, fr, h⟩ => seqE fr h fun v d g1 Hk1 H1 fr1 s1 r1 h1 => by
    cases d <;> (try exact h1.elim)
    rename_i xs
    obtain ⟨a, vs, rfl, q1, q2⟩ := r1
    exact ⟨a, vs, rfl, SqL.of (fr1.wk.ex _ _ q1), fun p hp => fin_own fr1 h1 hp q2.rev (none_back s1 hp)⟩
theorem rev_shape {Γ : Gm} {g g' : G} {d : D} (h : revR fa Γ g = .ok d g') : isOb d = true := by
  unfold revR at h
  obtain ⟨x, g1, _, h⟩ := bind_ok h
  cases x <;> (try (cases h; done))
  cases h; rfl
/-! ### list(..), sorted(..) -/
def rBiF (K : PySem.W.Frag) (W : Wd) (f : List D → Option D) : List V → Hp → VK → Prop := fun vs H Q => ∃ g Hk ds zs, Wk W g Hk H ∧ RpL K W Hk ds vs ∧ f ds = some (.lst zs) ∧ ∀ p acc, H p = none → RpL K W Hk zs acc → Q (.ref p) (upd H p (.lst acc))
theorem list_shape : ∀ (ds : List D) (d : D), biD .list ds = some d → ∃ zs, d = .lst zs
  | [.lst xs], d, e => by simp only [biD, Option.some.injEq] at e; exact ⟨_, e.symm⟩
  | [.tup xs], d, e => by simp only [biD, Option.some.injEq] at e; exact ⟨_, e.symm⟩
  | [.str _], _, e => by simp [biD] at e
  | [.non], _, e => by simp [biD] at e
  | [.bl _], _, e => by simp [biD] at e
  | [.int _], _, e => by simp [biD] at e
  | [.m], _, e => by simp [biD] at e
  | [.scr _], _, e => by simp [biD] at e
  | [.dct ks _], d, e => by
    simp only [biD] at e
    split at e
    · cases e; exact ⟨_, rfl⟩
    · cases e
  | [], _, e => by simp [biD] at e
  | _ :: _ :: _, _, e => by simp [biD] at e
theorem sortd_shape : ∀ (ds : List D) (d : D), biD .sortd ds = some d → ∃ zs, d = .lst zs
  | [.lst xs], d, e => by
    simp only [biD] at e
    split at e
    · cases e; exact ⟨_, rfl⟩
    · cases e
  | [.tup _], _, e => by simp [biD] at e
  | [.str _], _, e => by simp [biD] at e
  | [.non], _, e => by simp [biD] at e
  | [.bl _], _, e => by simp [biD] at e
  | [.int _], _, e => by simp [biD] at e
  | [.m], _, e => by simp [biD] at e
  | [.scr _], _, e => by simp [biD] at e
  | [.dct _ _], _, e => by simp [biD] at e
  | [], _, e => by simp [biD] at e
  | _ :: _ :: _, _, e => by simp [biD] at e
theorem sort_shape : ∀ (ds : List D) (d : D), biD .sorted ds = some d → ∃ zs, d = .lst zs
  | [.lst xs], d, e => by
    simp only [biD, Option.map_eq_some_iff] at e
    obtain ⟨_, _, e⟩ := e
    exact ⟨_, e.symm⟩
  | [.tup xs], d, e => by
    simp only [biD, Option.map_eq_some_iff] at e
    obtain ⟨_, _, e⟩ := e
    exact ⟨_, e.symm⟩
  | [.str _], _, e => by simp [biD] at e
  | [.non], _, e => by simp [biD] at e
  | [.bl _], _, e => by simp [biD] at e
  | [.int _], _, e => by simp [biD] at e
  | [.m], _, e => by simp [biD] at e
  | [.scr _], _, e => by simp [biD] at e
  | [.dct _ _], _, e => by simp [biD] at e
  | [], _, e => by simp [biD] at e
  | _ :: _ :: _, _, e => by simp [biD] at e
theorem call_listF (hc : X.calm = true) : CallR X (.type "list") (rBiF X.K W (biD .list)) := by
  intro pins s σ H vs us Q I rv h
  obtain ⟨g, Hk, ds, zs, w, r, e, q⟩ := h
  match ds, e with
  | [.lst xs], e =>
    obtain ⟨x, rfl, a, ys, rfl, h1, h2⟩ := len1 r
    simp only [biD, Option.some.injEq, D.lst.injEq] at e
    subst e
    exact call_list_of pins s σ H _ us Q I rv ⟨a, ys, rfl, .inl (SqL.of (w.ex _ _ h1)), fun p hp => q p ys hp h2⟩
  | [.tup xs], e =>
    obtain ⟨x, rfl, a, ys, rfl, h1, h2⟩ := len1 r
    simp only [biD, Option.some.injEq, D.lst.injEq] at e
    subst e
    exact call_list_of pins s σ H _ us Q I rv ⟨a, ys, rfl, .inr (ex_t w.ex h1), fun p hp => q p ys hp h2⟩
  | [.str _], e => simp [biD] at e
  | [.non], e => simp [biD] at e
  | [.bl _], e => simp [biD] at e
  | [.int _], e => simp [biD] at e
  | [.m], e => simp [biD] at e
  | [.scr _], e => simp [biD] at e
  | [.dct ks ws], e =>
    obtain ⟨x, rfl, a, o, xs, rfl, h1, h2, h3, h4, h5, h6, h7⟩ := len1 r
    simp only [biD] at e
    split at e
    · rename_i hz
      simp only [Option.some.injEq, D.lst.injEq] at e
      subst e
      rw [Vals.ref1 rv]
      have hl := h6.len
      rw [List.length_map] at hl
      exact call_listX hc I h2 (w.ex _ _ h1) h3 (size_le (by rw [hl]; exact hz)) fun p hp => q p _ hp h6
    · cases e
  | [], e => simp [biD] at e
  | _ :: _ :: _, e => simp [biD] at e
theorem call_sortdF (hu : X.A.units + 66 < cLine) : CallR X (.builtin "sorted") (rBiF X.K W (biD .sortd)) := by
  intro pins s σ H vs us Q I rv h
  obtain ⟨g, Hk, ds, zs, w, r, e, q⟩ := h
  match ds, e with
  | [.lst xs], e =>
    obtain ⟨x, rfl, a, ys, rfl, h1, h2⟩ := len1 r
    simp only [biD] at e
    split at e
    · rename_i hk
      simp only [Bool.and_eq_true] at hk
      cases e
      rw [Vals.ref1 rv]
      exact call_sortd hu I w.ex (SqL.of (w.ex _ _ h1)) h2 hk.1 hk.2 fun p acc hp ra => q p acc hp ra
    · cases e
  | [.tup _], e => simp [biD] at e
  | [.str _], e => simp [biD] at e
  | [.non], e => simp [biD] at e
  | [.bl _], e => simp [biD] at e
  | [.int _], e => simp [biD] at e
  | [.m], e => simp [biD] at e
  | [.scr _], e => simp [biD] at e
  | [.dct _ _], e => simp [biD] at e
  | [], e => simp [biD] at e
  | _ :: _ :: _, e => simp [biD] at e
theorem call_sortF : CallR X (.builtin "sorted") (rBiF X.K W (biD .sorted)) := by
  intro pins s σ H vs us Q I rv h
  obtain ⟨g, Hk, ds, zs, w, r, e, q⟩ := h
  match ds, e with
  | [.lst xs], e =>
    obtain ⟨x, rfl, a, ys, rfl, h1, h2⟩ := len1 r
    simp only [biD, Option.map_eq_some_iff, D.lst.injEq] at e
    obtain ⟨ns, en, rfl⟩ := e
    rw [h2.ints en] at h1
    refine cr_sortedI pins s σ H _ us Q I rv ⟨a, ns, rfl, SqL.of (w.ex _ _ h1), fun ns' p hp hs hn => ?_⟩
    have e : ns' = sortI ns := PySem.W.ksm_same (hp.trans (sortI_perm ns).symm) hs (sortI_sorted ns)
    rw [e]
    exact q p _ hn (RpL.ofInts _)
  | [.tup xs], e =>
    obtain ⟨x, rfl, a, ys, rfl, h1, h2⟩ := len1 r
    simp only [biD, Option.map_eq_some_iff, D.lst.injEq] at e
    obtain ⟨ns, en, rfl⟩ := e
    rw [h2.ints en] at h1
    refine cr_sortT pins s σ H _ us Q I rv ⟨a, ns, rfl, ex_t w.ex h1, fun ns' p hp hs hn => ?_⟩
    have e : ns' = sortI ns := PySem.W.ksm_same (hp.trans (sortI_perm ns).symm) hs (sortI_sorted ns)
    rw [e]
    exact q p _ hn (RpL.ofInts _)
  | [.str _], e => simp [biD] at e
  | [.non], e => simp [biD] at e
  | [.bl _], e => simp [biD] at e
  | [.int _], e => simp [biD] at e
  | [.m], e => simp [biD] at e
  | [.scr _], e => simp [biD] at e
  | [.dct _ _], e => simp [biD] at e
  | [], e => simp [biD] at e
  | _ :: _ :: _, e => simp [biD] at e
theorem f_biB {x : Str} {id : String} {p : Pos} {f : List D → Option D} (hl : ∀ ds d, f ds = some d → ∃ zs, d = .lst zs) (hc : CallR X (.builtin id) (rBiF X.K W f)) (hg : Gl X x) (hm : X.mg x = none) (hv : bootBuiltins x = some (.builtin id)) (ha : PA X (a :: es) (tAa X.K W Ew fs))
    (hn : x ≠ "__name__") (hdb : (x == ("__debug__" : Str)) = false) (he : starEach (a :: es) X.env = (false, eval a X.env) :: starEach es X.env) (hpl : (backTo pos (starEach es X.env)).any (·.1) = false) :
    PE X (.Call (.Name x p) (a :: es) [] pos) (tFf X.K W Ew fun Γ g => (fs Γ g).bind fun xs g => lift (f xs) g) :=
  PE.imp (pe_callB hc hg hm hv ha hn hdb he hpl) fun σ H Q ⟨Hk0, H0, Γ, g, Hk, fr, h⟩ => seqA fr h fun vs ds g1 Hk1 H1 fr1 s1 r1 h1 => by
    cases ez : f ds with
    | none => rw [ez] at h1; exact h1.elim
    | some z =>
      obtain ⟨zs, rfl⟩ := hl _ _ ez
      rw [ez] at h1
      exact ⟨g1, Hk1, ds, zs, fr1.wk, r1, ez, fun p acc hp r => fin_own fr1 h1 hp r (none_back s1 hp)⟩
theorem f_biT {x : Str} {id : String} {p : Pos} {f : List D → Option D} (hl : ∀ ds d, f ds = some d → ∃ zs, d = .lst zs) (hc : CallR X (.type id) (rBiF X.K W f)) (hg : Gl X x) (hm : X.mg x = none) (hv : bootBuiltins x = some (.type id)) (ha : PA X (a :: es) (tAa X.K W Ew fs))
    (hn : x ≠ "__name__") (hdb : (x == ("__debug__" : Str)) = false) (he : starEach (a :: es) X.env = (false, eval a X.env) :: starEach es X.env) (hpl : (backTo pos (starEach es X.env)).any (·.1) = false) :
    PE X (.Call (.Name x p) (a :: es) [] pos) (tFf X.K W Ew fun Γ g => (fs Γ g).bind fun xs g => lift (f xs) g) :=
  PE.imp (pe_callTy hc hg hm hv ha hn hdb he hpl) fun σ H Q ⟨Hk0, H0, Γ, g, Hk, fr, h⟩ => seqA fr h fun vs ds g1 Hk1 H1 fr1 s1 r1 h1 => by
    cases ez : f ds with
    | none => rw [ez] at h1; exact h1.elim
    | some z =>
      obtain ⟨zs, rfl⟩ := hl _ _ ez
      rw [ez] at h1
      exact ⟨g1, Hk1, ds, zs, fr1.wk, r1, ez, fun p acc hp r => fin_own fr1 h1 hp r (none_back s1 hp)⟩
/-! ### list(range) -/
def lrng1R (fa : Gm → G → R D) : Gm → G → R D := fun Γ g => (fa Γ g).bind fun x g => match x with | .int i => if -1000000 ≤ i ∧ i ≤ 1000000 then .ok (.lst (rngD 0 i.toNat)) g else .st | _ => .st
theorem f_lrng1 {p pos2 pr : Pos} (hc : X.calm = true) (hg : Gl X "list") (hm : X.mg "list" = none) (hg2 : Gl X "range") (hm2 : X.mg "range" = none) (ha : PE X a (tE X.K W Ew fa)) (na : starEach [a] X.env = (false, eval a X.env) :: starEach [] X.env) :
    PE X (.Call (.Name "list" p) [.Call (.Name "range" pr) [a] [] pos2] [] pos) (tFf X.K W Ew (lrng1R fa)) :=
  PE.imp (pe_listRg hc hg hm (prg_1 hg2 hm2 ha na)) fun σ H Q ⟨Hk0, H0, Γ, g, Hk, fr, h⟩ => seqE fr h fun v d g1 Hk1 H1 fr1 s1 r1 h1 => by
    cases d <;> (try exact h1.elim)
    rename_i i
    have h1' : Fin W Ew Hk1 H1 (if -1000000 ≤ i ∧ i ≤ 1000000 then R.ok (D.lst (rngD 0 i.toNat)) g1 else R.st) _ := h1
    by_cases hz : -1000000 ≤ i ∧ i ≤ 1000000
    · rw [if_pos hz] at h1'
      refine ⟨i, r1, ⟨by omega, by omega, by omega, by omega, by omega⟩, fun p hp => fin_own fr1 h1' hp ?_ (none_back s1 hp)⟩
      have e : (i - 0).toNat = i.toNat := by rw [Int.sub_zero]
      unfold rgV
      rw [e]
      exact rg_rel _ _
    · rw [if_neg hz] at h1'; exact h1'.elim
theorem lrng1_shape {Γ : Gm} {g g' : G} {d : D} (h : lrng1R fa Γ g = .ok d g') : isOb d = true := by
  unfold lrng1R at h
  obtain ⟨x, g1, _, h⟩ := bind_ok h
  cases x <;> (try (cases h; done))
  dsimp only at h
  split at h
  · cases h; rfl
  · cases h
def lrng2R (fa fb : Gm → G → R D) : Gm → G → R D := fun Γ g => (fa Γ g).bind fun x g => (fb Γ g).bind fun y g => match x, y with
      | .int i, .int j => if (-1000000 ≤ i ∧ i ≤ 1000000) ∧ -1000000 ≤ j ∧ j ≤ 1000000 then .ok (.lst (rngD i (j - i).toNat)) g else .st
      | _, _ => .st
theorem f_lrng2 {p pos2 pr : Pos} (hc : X.calm = true) (hg : Gl X "list") (hm : X.mg "list" = none) (hg2 : Gl X "range") (hm2 : X.mg "range" = none) (ha : PE X a (tE X.K W Ew fa)) (hb : PE X b (tE X.K W Ew fb))
    (na : starEach [a, b] X.env = (false, eval a X.env) :: starEach [b] X.env) (nb : starEach [b] X.env = (false, eval b X.env) :: starEach [] X.env) (hp : (backTo pos2 (starEach [b] X.env)).any (·.1) = false) :
    PE X (.Call (.Name "list" p) [.Call (.Name "range" pr) [a, b] [] pos2] [] pos) (tFf X.K W Ew (lrng2R fa fb)) :=
  PE.imp (pe_listRg hc hg hm (prg_2 hg2 hm2 ha hb na nb hp)) fun σ H Q ⟨Hk0, H0, Γ, g, Hk, fr, h⟩ => seqE fr h fun v d g1 Hk1 H1 fr1 s1 r1 h1 => seqE fr1 h1 fun v2 d2 g2 Hk2 H2 fr2 s2 r2 h2 => by
    cases d <;> (try exact h2.elim)
    cases d2 <;> (try exact h2.elim)
    rename_i i j
    have h2' : Fin W Ew Hk2 H2 (if (-1000000 ≤ i ∧ i ≤ 1000000) ∧ -1000000 ≤ j ∧ j ≤ 1000000 then R.ok (D.lst (rngD i (j - i).toNat)) g2 else R.st) _ := h2
    by_cases hz : (-1000000 ≤ i ∧ i ≤ 1000000) ∧ -1000000 ≤ j ∧ j ≤ 1000000
    · rw [if_pos hz] at h2'
      refine ⟨i, j, r1, r2, ⟨by omega, by omega, by omega, by omega, by omega⟩, fun p hp => fin_own fr2 h2' hp ?_ (none_back s1 (none_back s2 hp))⟩
      unfold rgV
      exact rg_rel _ _
    · rw [if_neg hz] at h2'; exact h2'.elim
theorem lrng2_shape {Γ : Gm} {g g' : G} {d : D} (h : lrng2R fa fb Γ g = .ok d g') : isOb d = true := by
  unfold lrng2R at h
  obtain ⟨x, g1, _, h⟩ := bind_ok h
  obtain ⟨y, g2, _, h⟩ := bind_ok h
  cases x <;> (try (cases h; done))
  cases y <;> (try (cases h; done))
  dsimp only at h
  split at h
  · cases h; rfl
  · cases h
/-! ### an item of an owned list -/
def idxOR (i : Nat) (fb : Gm → G → R D) : Gm → G → R D := fun Γ g => match Γ[i]? with
      | some (.own d) => (fb Γ g).bind fun y g => lift (idxD d y) g
      | _ => .st
/-- an item of what stands at p -/
def rIO (K : PySem.W.Frag) (W : Wd) : R2 := fun x y H Q => (∃ (p : Addr) (xs : List V) (i : Int) (v : V), x = .ref p ∧ y = .int i ∧ SqL K H p xs ∧ atI xs i = some v ∧ Q v H) ∨
  ∃ (p : Addr) (ks vs : List D) (k d : D) (Hk : Hp), x = .ref p ∧ Ex Hk H ∧ DAt K W Hk H p ks vs ∧ Rp K W Hk k y ∧ okK k = true ∧ getK (keyD k) ks vs = some d ∧ ∀ v, Rp K W Hk d v → Q v H
theorem ix_O (hu : X.A.units + 64 < cLine) (hw : W.w = X.w) : IxR X (rIO X.K W) := by
  intro value slice pins s σ H x y v u Q I rx ry h hs
  rcases h with h | ⟨p, ks, vs, k, d, Hk, rfl, ex, h1, h2, h3, h4, q⟩
  · exact ix_list value slice pins s σ H x y v u Q I rx ry h hs
  · have e2 : v = Value.ref p := rx
    subst e2
    exact ix_dct hu hw I ex h1 h2 h3 ry h4 hs fun v' w' s' I' q1 q2 => ⟨v', H, I', q2, q v' q1⟩
theorem e_idxO (hu : X.A.units + 64 < cLine) (hw : W.w = X.w) {i : Nat} (hv : PE X a (tVar i)) (hb : PE X b (tE X.K W Ew fb)) (hs : PlainIx b) : PE X (.Subscript a b pos) (tE X.K W Ew (idxOR i fb)) :=
  PE.imp (pe_ix (ix_O hu hw) hv hb hs) fun σ H Q ⟨Hk0, H0, Γ, g, Hk, fr, h⟩ => by
    obtain ⟨os, sl, nd, ho⟩ := fr.sl
    unfold idxOR at h
    cases e1 : Γ[i]? with
    | none => simp only [e1] at h; exact h.elim
    | some s0 =>
      cases s0 with
      | no => simp only [e1] at h; exact h.elim
      | val _ => simp only [e1] at h; exact h.elim
      | own d =>
        obtain ⟨p, u, h2, hm, h4, h5⟩ := sl.obj_at e1
        simp only [e1] at h
        refine ⟨.ref p, h2, seqE fr h fun v2 d2 g2 Hk2 H2 fr2 s2 r2 h2' => ?_⟩
        obtain ⟨z, ez, hz⟩ := h2'.lift
        have h4' := s2.h _ _ h4 (ho p hm).2.2
        cases d <;> (try exact h5.elim)
        · obtain ⟨xs, e3, h5⟩ := h5
          subst e3
          cases d2 <;> (try (simp only [idxD] at ez; cases ez; done))
          rename_i k
          obtain ⟨v, ev, rv⟩ := at_rel h5 ez
          exact .inl ⟨p, xs, k, v, rfl, r2, SqL.of h4', ev, hz Hk2 H2 (Step.refl fr2.wk.ex) fr2.wk.dr v (rv.mono s2.k)⟩
        · obtain ⟨o, xs, e3, q1, q2, q3, q4, q5, q6⟩ := h5
          subst e3
          obtain ⟨ok, hg⟩ := idxD_dct ez
          exact .inr ⟨p, _, _, d2, z, Hk2, rfl, fr2.wk.ex, ⟨o, xs, h4', q1, q2, q3, q4, q5.mono s2.k, q6.mono s2.k⟩, r2, ok, hg, fun v rv => hz Hk2 H2 (Step.refl fr2.wk.ex) fr2.wk.dr v rv⟩
/-! ### a key in an owned dict; how many; new dicts -/
def inOR (neg : Bool) (fa : Gm → G → R D) (i : Nat) : Gm → G → R D := fun Γ g => (fa Γ g).bind fun k g => match Γ[i]? with
      | some (.own (.dct ks vs)) => if okK k then .ok (.bl (if neg then !(getK (keyD k) ks vs).isSome else (getK (keyD k) ks vs).isSome)) g else .st
      | _ => .st
def rInO (K : PySem.W.Frag) (W : Wd) (neg : Bool) : R2 := fun x y H Q => ∃ (p : Addr) (ks vs : List D) (k : D) (Hk : Hp), y = .ref p ∧ Ex Hk H ∧ DAt K W Hk H p ks vs ∧ Rp K W Hk k x ∧ okK k = true ∧ Q (.bl (if neg then !(getK (keyD k) ks vs).isSome else (getK (keyD k) ks vs).isSome)) H
def inOp : Bool → CmpOp
  | true => .NotIn
  | false => .In
theorem op_inO (hu : X.A.units + 64 < cLine) (hw : W.w = X.w) : ∀ neg : Bool, OpR X (compareOp (inOp neg)) (rInO X.K W neg)
  | false => by
    intro pins s σ H x y v u Q I rx ry h
    obtain ⟨p, ks, vs, k, Hk, rfl, ex, h1, h2, h3, q⟩ := h
    have e2 : u = Value.ref p := ry
    subst e2
    exact n_in hu I ex hw h1 h2 h3 rx fun s' I' => ⟨.bl _, H, I', rfl, q⟩
  | true => by
    intro pins s σ H x y v u Q I rx ry h
    obtain ⟨p, ks, vs, k, Hk, rfl, ex, h1, h2, h3, q⟩ := h
    have e2 : u = Value.ref p := ry
    subst e2
    exact n_notIn hu I ex hw h1 h2 h3 rx fun s' I' => ⟨.bl _, H, I', rfl, q⟩
theorem in_read {i : Nat} {neg : Bool} {kk : D → G → Hp → Hp → Prop} {Q : VK} {σ : L2.St} {H : Hp} {Γ : Gm} {g : G} {Hk Hk0 H0 : Hp} (fr : Fr X.K W Hk0 H0 Γ g σ Hk H) (h : Fin W Ew Hk H (inOR neg fa i Γ g) kk) (hq : ∀ b g' Hk' H', kk (.bl b) g' Hk' H' → Q (.bl b) H') : tOp (rInO X.K W neg) (tE X.K W Ew fa) (tVar i) σ H Q :=
  seqE fr h fun v d g1 Hk1 H1 fr1 s1 r1 h1 => by
    obtain ⟨os, sl, nd, ho⟩ := fr1.sl
    cases e1 : Γ[i]? with
    | none => simp only [e1] at h1; exact h1.elim
    | some s0 =>
      cases s0 with
      | no => simp only [e1] at h1; exact h1.elim
      | val _ => simp only [e1] at h1; exact h1.elim
      | own d0 =>
        obtain ⟨p, u, h2, hm, h4, h5⟩ := sl.obj_at e1
        simp only [e1] at h1
        cases d0 <;> (try exact h1.elim)
        rename_i ks vs
        obtain ⟨o, xs, e3, q1, q2, q3, q4, q5, q6⟩ := h5
        subst e3
        by_cases hk : okK d = true
        · simp only [hk, if_true] at h1
          exact ⟨.ref p, h2, p, ks, vs, d, Hk1, rfl, fr1.wk.ex, ⟨o, xs, h4, q1, q2, q3, q4, q5, q6⟩, r1, hk, hq _ _ _ _ (Fin.now fr1 h1)⟩
        · simp only [hk, if_false] at h1
          exact h1.elim
theorem e_inO (hu : X.A.units + 64 < cLine) (hw : W.w = X.w) {i : Nat} {neg : Bool} (ha : PE X a (tE X.K W Ew fa)) (hv : PE X b (tVar i)) (hm : behindInMarks (inOp neg) b = false) : PE X (.Compare a [inOp neg] [b] pos) (tE X.K W Ew (inOR neg fa i)) :=
  PE.imp (pe_cmpR (op_inO hu hw neg) ha hv hm) fun σ H Q ⟨Hk0, H0, Γ, g, Hk, fr, h⟩ => in_read fr h fun b g' Hk' H' q => q _ rfl
theorem t_inO (hu : X.A.units + 64 < cLine) (hw : W.w = X.w) {i : Nat} {neg : Bool} (ha : PE X a (tE X.K W Ew fa)) (hv : PE X b (tVar i)) (hm : behindInMarks (inOp neg) b = false) : PT X (.Compare a [inOp neg] [b] pos) (tTt X.K W Ew fun Γ g => blR (inOR neg fa i Γ g)) :=
  PT.imp (pt_cmpR (op_inO hu hw neg) ha hv hm) fun σ H Q ⟨Hk0, H0, Γ, g, Hk, fr, h⟩ => by
    have h := bl_of (Q := fun _ _ => True) h
    show tOp (rInO X.K W neg) (tE X.K W Ew fa) (tVar i) σ H fun x H1 => ∃ c, x = .bl c ∧ Q c H1
    exact in_read fr h fun b g' Hk' H' ⟨b', e, q⟩ => ⟨b, rfl, by cases e; exact q⟩
def lenOR (i : Nat) : Gm → G → R D := fun Γ g => match Γ[i]? with
      | some (.own (.dct ks vs)) => if ks.length ≤ 1000000 then .ok (.int ks.length) g else .st
      | _ => .st
def rLenO (K : PySem.W.Frag) (W : Wd) : List V → Hp → VK → Prop := fun xs H Q => ∃ (p : Addr) (ks vs : List D) (Hk : Hp), xs = [.ref p] ∧ Ex Hk H ∧ DAt K W Hk H p ks vs ∧ ks.length ≤ 1000000 ∧ Q (.int ks.length) H
theorem call_lenO (hw : W.w = X.w) : CallR X (.builtin "len") (rLenO X.K W) := by
  intro pins s σ H vs us Q I rv h
  obtain ⟨p, ks, ws, Hk, rfl, ex, ⟨o, xs, h1, h2, h3, h4, h5, h6, h7⟩, hl, q⟩ := h
  rw [Vals.ref1 rv]
  obtain ⟨ys, t, dd⟩ := dict_of I ex hw h1 h3 h4 h5 h6
  have e : (pairsH ys).length = ks.length := by
    rw [pairsH_length, ← trip_len t, ← List.length_map (f := fun x : NestedKey × Addr × V => x.1), h4, keysD_len]
  refine PyProof.Rows.call_len_slot (n := (pairsH ys).length) (T := "dict") dd.typeIs PySem.F.slot_dict_len (fun Q' hq => len_keyed h2 ⟨ys, dd, rfl⟩ hq) (by omega) (by rw [e]; omega) ?_
  rw [e]
  exact ⟨.int _, H, I.tok _, ⟨_, rfl⟩, q⟩
theorem e_lenO (hw : W.w = X.w) {i : Nat} {x : Str} {p p2 : Pos} (hv : PE X (.Name x p2) (tVar i)) (hg : Gl X "len") (hm : X.mg "len" = none) : PE X (.Call (.Name "len" p) [.Name x p2] [] pos) (tE X.K W Ew (lenOR i)) :=
  PE.imp (pe_callB (call_lenO (W := W) hw) hg hm (by decide +kernel) (pa_cons hv pa_nil)) fun σ H Q ⟨Hk0, H0, Γ, g, Hk, fr, h⟩ => by
    obtain ⟨os, sl, nd, ho⟩ := fr.sl
    unfold lenOR at h
    cases e1 : Γ[i]? with
    | none => simp only [e1] at h; exact h.elim
    | some s0 =>
      cases s0 with
      | no => simp only [e1] at h; exact h.elim
      | val _ => simp only [e1] at h; exact h.elim
      | own d0 =>
        obtain ⟨p, u, h2, hm, h4, h5⟩ := sl.obj_at e1
        simp only [e1] at h
        cases d0 <;> (try exact h.elim)
        rename_i ks vs
        obtain ⟨o, xs, e3, q1, q2, q3, q4, q5, q6⟩ := h5
        subst e3
        by_cases hk : ks.length ≤ 1000000
        · simp only [hk, if_true] at h
          exact ⟨.ref p, h2, p, ks, vs, Hk, rfl, fr.wk.ex, ⟨o, xs, h4, q1, q2, q3, q4, q5, q6⟩, hk, Fin.now fr h _ rfl⟩
        · simp only [hk, if_false] at h
          exact h.elim
/-- the object of {} -/
def dObj0 : Obj := { cls := .type "dict", data := .dict #[] }
theorem dc_nil (w : World) : DcIs w dObj0 [] := ⟨[], .nil, ⟨rfl, rfl, rfl⟩, List.nodup_nil, #[], 0, rfl, rfl⟩
def tDNewX : TE := fun _ H Q => ∀ p, H p = none → (p == sysModules) = false → Q (.ref p) (upd H p (ObX p dObj0))
theorem pe_dnewX : PE X (.Dict [] [] pos) tDNewX := ⟨fun pins s σ H Q I h =>
  wpAny_Dict_empty ⟨.ref s.heap.objs.size, _, I.laid (a := s.heap.objs.size) (o := ObX s.heap.objs.size dObj0) (t' := s.toks) (fun _ _ q => Heap.get?_push_of_some _ q) (Nat.le_refl _) (obX_ok (Heap.get?_push_size _ rfl)), rfl,
    h _ (I.hok.fresh (Nat.le_refl _)) (beq_eq_false_iff_ne.mpr (Ne.symm (Nat.ne_of_lt I.big)))⟩⟩
theorem f_dnil : PE X (.Dict [] [] pos) (tFf X.K W Ew fun _ g => .ok (.dct [] []) g) :=
  PE.imp pe_dnewX fun σ H Q ⟨Hk0, H0, Γ, g, Hk, fr, h⟩ p hp hs =>
    h Hk _ (Step.hid fr.wk.ex hp) (fr.wk.dr.new hp) p _ hp (fr.wk.dr.unk_of fr.wk hp) upd_same ⟨dObj0, [], rfl, hs, dc_nil _, rfl, rfl, rfl, rfl⟩
/-- {k: v} -/
def tDOne (X : Cx) (W : Wd) (tk tv : TE) : TE := fun σ H Q => ∀ p, H p = none → (p == sysModules) = false → tk σ (upd H p (ObX p dObj0)) fun x H1 => tv σ H1 fun y H2 => H2 p = some (ObX p dObj0) ∧
  ∃ Hk d, Ex Hk H2 ∧ Rp X.K W Hk d x ∧ okK d = true ∧ ∀ o a, x = .ref a → DcIs X.w o [(keyD d, a, y)] → Q (.ref p) (upd H2 p (ObX p o))
theorem pe_done {k v : Expr} {tk tv : TE} (hu : X.A.units + 64 < cLine) (hk : PE X k tk) (hv : PE X v tv) : PE X (.Dict [some k] [v] pos) (tDOne X W tk tv) := by
  refine ⟨fun pins s σ H Q I q => ?_⟩
  have hn := I.hok.fresh (Nat.le_refl s.heap.objs.size)
  have I1 := I.laid (a := s.heap.objs.size) (o := ObX s.heap.objs.size dObj0) (h' := s.heap.push dObj0) (t' := s.toks) (fun _ _ q => Heap.get?_push_of_some _ q) (Nat.le_refl _) (obX_ok (Heap.get?_push_size _ rfl))
  have hp : (s.heap.objs.size == sysModules) = false := beq_eq_false_iff_ne.mpr (Ne.symm (Nat.ne_of_lt I.big))
  have hpl := pairTrees_length [some k] [v] X.env pos rfl rfl
  rw [arm_eval_Dict, zip_pairTrees [some k] [v] X.env pos rfl rfl, dictDisplay_pairs _ (by intro e; rw [e] at hpl; cases hpl) (by rw [hpl, List.length_singleton]; decide)]
  refine wpAny_bind (wpAny_standAt (wpAny_bind (wpAny_subDictH (knd := nestedKind X.prog X.w) (by show X.A.units + 8 < cLine; omega) (by rw [hpl, List.length_singleton]; decide)
    (thn ((pps_cons hk hv pps_nil).run pins _ σ _ (fun ps H2 => match ps with | [(x, y)] => (H2 s.heap.objs.size = some (ObX s.heap.objs.size dObj0) ∧ ∃ Hk d, Ex Hk H2 ∧ Rp X.K W Hk d x ∧ okK d = true ∧ ∀ o a, x = .ref a → DcIs X.w o [(keyD d, a, y)] → Q (.ref s.heap.objs.size) (upd H2 s.heap.objs.size (ObX s.heap.objs.size o))) | _ => False) I1 (q _ hn hp)) fun ws s2 ⟨ps, H2, I2, rel, q2⟩ => ?_))))
  cases rel with
  | nil => exact q2.elim
  | @cons p0 w0 _ _ r0 rel =>
    cases rel with
    | cons _ _ => exact q2.elim
    | nil =>
    obtain ⟨e1, Hk, d, ex, rd, ok, q3⟩ := q2
    obtain ⟨a, g1, g2, g3⟩ := rp_is I2 ex rd ok r0.1
    have hd : s2.heap.DictOfH (nestedKind X.prog X.w) s.heap.objs.size [] := ⟨dObj0, #[], 0, obX_at I2.hok e1, ⟨rfl, rfl, rfl⟩, rfl, rfl, fun _ hx => by simp at hx, List.nodup_nil⟩
    refine ⟨[(keyD d, a, w0.2)], ⟨g2, rfl, g3, trivial⟩, hd, fun h' tk hd' hs => wpAny_pure ?_⟩
    obtain ⟨o, es, ep, z1, z2, z3, z4, _, z5⟩ := hd'
    refine ⟨.ref s.heap.objs.size, _, d_write I2 (by rw [e1]; exact True.intro) hs ⟨o, z1⟩ (obX_ok z1), rfl, q3 o a g1 ?_⟩
    exact ⟨[(keyD d, a, w0.2)], .cons ⟨rfl, rfl, r0.2⟩ .nil, z2, by simp, es, ep, z3, z4⟩
def doneR (fa fb : Gm → G → R D) : Gm → G → R D := fun Γ g => (fa Γ g).bind fun k g => (fb Γ g).bind fun v g => if okK k then .ok (.dct [k] [v]) g else .st
theorem f_done (hu : X.A.units + 64 < cLine) (hw : W.w = X.w) (ha : PE X a (tE X.K W Ew fa)) (hb : PE X b (tE X.K W Ew fb)) : PE X (.Dict [some a] [b] pos) (tFf X.K W Ew (doneR fa fb)) :=
  PE.imp (pe_done (W := W) hu ha hb) fun σ H Q ⟨Hk0, H0, Γ, g, Hk, fr, h⟩ p hp hs => by
    have s0 : Step W Hk H Hk (upd H p (ObX p dObj0)) := Step.hid fr.wk.ex hp
    have out := ex_upd_out fr.wk.dr hp
    have fr0 := fr.step s0 (fr.wk.dr.upd out (nc_none hp) (by intro ps z; unfold ObX at z; cases z))
    have k0 := fr.wk.dr.unk_of fr.wk hp
    unfold doneR at h
    refine ⟨Hk0, H0, Γ, g, Hk, fr0, ?_⟩
    cases ea : fa Γ g with
    | st => rw [ea] at h; exact h.elim
    | ex c ds g1 => rw [ea] at h; exact fun Hk' H' cls dx s d x => h Hk' H' cls dx (s0.trans s) d x
    | ok d g1 =>
      rw [ea] at h
      intro Hk1 H1 s1 dr1 v r1
      have fr1 := fr0.step s1 dr1
      refine ⟨Hk0, H0, Γ, g1, Hk1, fr1, ?_⟩
      have h' : Fin W Ew Hk H ((fb Γ g1).bind fun v g => if okK d then .ok (.dct [d] [v]) g else .st) fun d _ Hk' H' => ∀ p u, H p = none → Hk' p = none → H' p = some u → Ob X.K W Hk' d p u → Q (.ref p) H' := h
      cases eb : fb Γ g1 with
      | st => rw [eb] at h'; exact h'.elim
      | ex c ds g2 => rw [eb] at h'; exact fun Hk' H' cls dx s d x => h' Hk' H' cls dx ((s0.trans s1).trans s) d x
      | ok d2 g2 =>
        rw [eb] at h'
        intro Hk2 H2 s2 dr2 v2 r2
        have h'' : Fin W Ew Hk H (if okK d then .ok (.dct [d] [d2]) g2 else .st) fun d _ Hk' H' => ∀ p u, H p = none → Hk' p = none → H' p = some u → Ob X.K W Hk' d p u → Q (.ref p) H' := h'
        have p1 : H1 p = some (ObX p dObj0) := s1.h _ _ upd_same out
        have p2 : H2 p = some (ObX p dObj0) := s2.h _ _ p1 out
        have n2 : Hk2 p = none := s2.unk (s1.unk k0 upd_same) p1
        by_cases hk : okK d = true
        · rw [if_pos hk] at h''
          refine ⟨p2, Hk2, d, s2.kh, r1.mono s2.k, hk, fun o a ea dc => ?_⟩
          subst ea
          have r1' : Rp X.K W Hk2 d (.ref a) := r1.mono s2.k
          exact h'' Hk2 _ (((s0.trans s1).trans s2).mut hp n2) (dr2.upd out (nc_obX p2 rfl)) p _ hp n2 upd_same ⟨o, [(keyD d, a, v2)], rfl, hs, by rw [hw]; exact dc, rfl, by simp [hk], .cons r1' .nil, .cons r2 .nil⟩
        · rw [if_neg hk] at h''
          exact h''.elim
theorem done_shape {Γ : Gm} {g g' : G} {d : D} (h : doneR fa fb Γ g = .ok d g') : isOb d = true := by
  unfold doneR at h
  obtain ⟨x, g1, _, h⟩ := bind_ok h
  obtain ⟨y, g2, _, h⟩ := bind_ok h
  split at h
  · cases h; rfl
  · cases h
/-! ### whether an owned list is empty -/
def rNil (neg : Bool) : R2 := fun x y H Q => ∃ p q xs, x = .ref p ∧ y = .ref q ∧ H p = some (.lst xs) ∧ H q = some (.lst []) ∧ Q (.bl (if neg then !xs.isEmpty else xs.isEmpty)) H
theorem op_eqNil (hu : X.A.units + 64 < cLine) : OpR X (compareOp .Eq) (rNil false) := by
  intro pins s σ H x y v u Q I rx ry h
  obtain ⟨p, q, xs, rfl, rfl, h1, h2, hq⟩ := h
  cases rx
  cases ry
  obtain ⟨z, its, n, r, hl, e⟩ := I.lstM h1
  obtain ⟨z2, its2, n2, r2, hl2, e2⟩ := I.lstM h2
  have l1 : s.heap.IsList p its.toArray := PySem.IsL.isList e
  have l2 : s.heap.IsList q its2.toArray := PySem.IsL.isList e2
  have z0 : its2 = [] := List.eq_nil_of_length_eq_zero (by rw [← hl2]; rfl)
  subst z0
  cases xs with
  | nil =>
    have z1 : its = [] := List.eq_nil_of_length_eq_zero (by rw [← hl]; rfl)
    subst z1
    exact SeqAt.eq_listAt (e := fun _ => true) l1 l2 rfl (by omega) (fun j hj => absurd hj (by simp)) ⟨.bl true, H, I, rfl, hq⟩
  | cons x xs =>
    have hz : (its.toArray.size != ([] : List Value).toArray.size) = true := by
      cases its with
      | nil => simp at hl
      | cons _ _ => simp
    exact SeqAt.eq_list_lengthsAt l1 l2 hz (by omega) ⟨.bl false, H, I, rfl, hq⟩
theorem op_neNil (hu : X.A.units + 64 < cLine) : OpR X (compareOp .NotEq) (rNil true) := by
  intro pins s σ H x y v u Q I rx ry h
  obtain ⟨p, q, xs, rfl, rfl, h1, h2, hq⟩ := h
  cases rx
  cases ry
  obtain ⟨z, its, n, r, hl, e⟩ := I.lstM h1
  obtain ⟨z2, its2, n2, r2, hl2, e2⟩ := I.lstM h2
  have l1 : s.heap.IsList p its.toArray := PySem.IsL.isList e
  have l2 : s.heap.IsList q its2.toArray := PySem.IsL.isList e2
  have z0 : its2 = [] := List.eq_nil_of_length_eq_zero (by rw [← hl2]; rfl)
  subst z0
  cases xs with
  | nil =>
    have z1 : its = [] := List.eq_nil_of_length_eq_zero (by rw [← hl]; rfl)
    subst z1
    exact SeqAt.RcNeAt.lists (e := fun _ => true) l1 l2 rfl (by omega) (fun j hj => absurd hj (by simp)) X.prog X.w X.xe _ ⟨.bl false, H, I, rfl, hq⟩
  | cons x xs =>
    have hz : (its.toArray.size != ([] : List Value).toArray.size) = true := by
      cases its with
      | nil => simp at hl
      | cons _ _ => simp
    exact SeqAt.RcNeAt.lists_lengths l1 l2 hz (by omega) X.prog X.w X.xe _ ⟨.bl true, H, I, rfl, hq⟩
def emOR (neg : Bool) (i : Nat) : Gm → G → R D := fun Γ g => match Γ[i]? with
      | some (.own (.lst xs)) => .ok (.bl (if neg then !xs.isEmpty else xs.isEmpty)) g
      | _ => .st
theorem em_read {i : Nat} {neg : Bool} {Q : VK} {σ : L2.St} {H : Hp} (h : tE X.K W Ew (emOR neg i) σ H Q) : tOp (rNil neg) (tVar i) (tLst tNil) σ H Q := by
  obtain ⟨Hk0, H0, Γ, g, Hk, fr, h⟩ := h
  obtain ⟨os, sl, nd, ho⟩ := fr.sl
  unfold emOR at h
  cases e1 : Γ[i]? with
  | none => simp only [e1] at h; exact h.elim
  | some s0 =>
    cases s0 with
    | no => simp only [e1] at h; exact h.elim
    | val _ => simp only [e1] at h; exact h.elim
    | own d =>
      simp only [e1] at h
      cases d <;> (try exact h.elim)
      rename_i ds
      obtain ⟨p, xs, h2, hm, h4, h5⟩ := sl.own_at e1
      have hl := h5.len
      have he : xs.isEmpty = ds.isEmpty := by
        cases xs <;> cases ds <;> first | rfl | simp at hl
      refine ⟨.ref p, h2, (by decide), fun q hq => ⟨p, q, xs, rfl, rfl, ?_, upd_same, ?_⟩⟩
      · rw [upd_ne (ne_of_none h4 hq)]; exact h4
      · rw [he]
        exact h Hk _ (Step.hid fr.wk.ex hq) (fr.wk.dr.new hq) _ rfl
theorem tm_read {i : Nat} {neg : Bool} {Q : Bool → Hp → Prop} {σ : L2.St} {H : Hp} (h : tTt X.K W Ew (fun Γ g => blR (emOR neg i Γ g)) σ H Q) : tOp (rNil neg) (tVar i) (tLst tNil) σ H fun x H1 => ∃ c, x = .bl c ∧ Q c H1 := by
  obtain ⟨Hk0, H0, Γ, g, Hk, fr, h⟩ := h
  obtain ⟨os, sl, nd, ho⟩ := fr.sl
  unfold emOR at h
  cases e1 : Γ[i]? with
  | none => simp only [e1] at h; exact h.elim
  | some s0 =>
    cases s0 with
    | no => simp only [e1] at h; exact h.elim
    | val _ => simp only [e1] at h; exact h.elim
    | own d =>
      simp only [e1] at h
      cases d <;> (try exact h.elim)
      rename_i ds
      obtain ⟨p, xs, h2, hm, h4, h5⟩ := sl.own_at e1
      have hl := h5.len
      have he : xs.isEmpty = ds.isEmpty := by
        cases xs <;> cases ds <;> first | rfl | simp at hl
      refine ⟨.ref p, h2, (by decide), fun q hq => ⟨p, q, xs, rfl, rfl, ?_, upd_same, _, rfl, ?_⟩⟩
      · rw [upd_ne (ne_of_none h4 hq)]; exact h4
      · rw [he]
        exact h Hk _ (Step.hid fr.wk.ex hq) (fr.wk.dr.new hq)
/-! ### starred items -/
def starR (fa : Gm → G → R D) (fs : Gm → G → R (List D)) : Gm → G → R (List D) := fun Γ g => (fa Γ g).bind fun x g => match itemsD x with
      | some ys => (fs Γ g).bind fun xs g => .ok (ys ++ xs) g
      | none => .st
theorem a_star {p : Pos} (ha : PE X a (tE X.K W Ew fa)) (hs : PA X es (tAa X.K W Ew fs)) : PA X (.Starred a p :: es) (tAa X.K W Ew (starR fa fs)) :=
  PA.imp (StX.pa_star ha hs) fun σ H Q ⟨Hk0, H0, Γ, g, Hk, fr, h⟩ => seqE fr h fun v d g1 Hk1 H1 fr1 s1 r1 h1 => by
    cases d with
    | tup ds =>
      obtain ⟨p, vs, hv, q1, q2⟩ := r1
      exact ⟨p, vs, hv, .inl (ex_t fr1.wk.ex q1), seqA fr1 h1 fun us es g2 Hk2 H2 fr2 s2 r2 h2 => Fin.now fr2 h2 _ ((q2.mono s2.k).append r2)⟩
    | lst ds =>
      obtain ⟨p, vs, hv, q1, q2⟩ := r1
      exact ⟨p, vs, hv, .inr (SqL.of (fr1.wk.ex _ _ q1)), seqA fr1 h1 fun us es g2 Hk2 H2 fr2 s2 r2 h2 => Fin.now fr2 h2 _ ((q2.mono s2.k).append r2)⟩
    | _ => exact h1.elim
theorem e_tupS {x1 : Nat} (hs : PA X es (tAa X.K W Ew fs)) : PE X (.Tuple es x1 pos) (tE X.K W Ew fun Γ g => (fs Γ g).bind fun xs g => if xs.length ≤ 1000000 then .ok (.tup xs) g else .st) :=
  PE.imp (pe_tup hs) fun σ H Q ⟨Hk0, H0, Γ, g, Hk, fr, h⟩ => seqA fr h fun vs ds g1 Hk1 H1 fr1 s1 r1 h1 => by
    by_cases hz : ds.length ≤ 1000000
    · rw [if_pos hz] at h1
      exact ⟨size_le (by rw [r1.len]; exact hz), new_tup fr1.wk r1 fun v Hk' H' s dr r => h1 Hk' H' s dr v r⟩
    · rw [if_neg hz] at h1; exact h1.elim
theorem f_lstS (hs : PA X es (tAa X.K W Ew fs)) : PE X (.List es pos) (tFf X.K W Ew fun Γ g => (fs Γ g).bind fun xs g => if xs.length ≤ 1000000 then .ok (.lst xs) g else .st) :=
  PE.imp (pe_lst hs) fun σ H Q ⟨Hk0, H0, Γ, g, Hk, fr, h⟩ => seqA fr h fun vs ds g1 Hk1 H1 fr1 s1 r1 h1 => by
    by_cases hz : ds.length ≤ 1000000
    · rw [if_pos hz] at h1
      exact ⟨size_le (by rw [r1.len]; exact hz), fun p hp => fin_own fr1 h1 hp r1 (none_back s1 hp)⟩
    · rw [if_neg hz] at h1; exact h1.elim
theorem lstS_shape {Γ : Gm} {g g' : G} {d : D} (h : ((fs Γ g).bind fun xs g => if xs.length ≤ 1000000 then R.ok (D.lst xs) g else R.st) = .ok d g') : isOb d = true := by
  obtain ⟨x, g1, _, h⟩ := bind_ok h
  split at h
  · cases h; rfl
  · cases h
end
end Bk

set_option Elab.async false
set_option linter.all false
set_option maxRecDepth 100000
set_option maxHeartbeats 4000000
set_option pp.maxSteps 600
/-! Exceptions of own classes, whose __init__ says super().__init__(text) and stores its parameters. -/
namespace Bk
open PySem PySem.W PySem.Calls PyProof.Rows
inductive Sto : List Str → List Stmt → Prop where
  | nil : Sto [] []
  | cons {n : Str} {ns : List Str} {r : List Stmt} {p1 p2 p3 p4 : Pos} : Sto ns r → Sto (n :: ns) (.Assign [.Attribute (.Name "self" p1) n p2] (.Name n p3) p4 :: r)
/-- what is asked of a class's __init__ -/
structure IniFn (P : Program) (K : Frag) (C fI : Addr) (ns : List Str) : Prop where
  ex : ∃ (oc : Value) (od : Option Addr) (name qual : Str) (params : Arguments) (r : List Stmt) (scope : Scope) (dV kV doc pm : Value) (an : Option Addr) (cda : Addr) (ct : Value) (osl : Array (Option Value)) (cc : Addr) (text : Str) (p0 p1 p2 p3 p4 p5 : Pos) (ar : Arg) (j : Nat)
      (ccl : Value) (cdd : Option Addr) (vs : Array Value) (ccs : Array (Option Value)) (file : Str) (tf : Tok) (cl : Value) (cld : Option Addr) (csl : Array (Option Value)),
    K.lookup fI = some ⟨oc, od, .func (ksFn name qual params (.Expr (.Call (.Attribute (.Call (.Name "super" p0) [] [] p1) "__init__" p2) [.Constant (.str text) j p3] [] p4) p5 :: r) scope dV kV doc pm an (.ref cda) ct cc), osl⟩ ∧ codeIn K (.ref cda) qual = true ∧ Sto ns r ∧
    (params.posonlyargs ++ params.args).head? = some ar ∧ ar.arg = "self" ∧ scope.kind = .function ∧ scope.isCoroutine = false ∧ scope.isGenerator = false ∧ (∀ y ∈ scope.names, y.2 ≠ .cell) ∧ scope.names.lookup ("super" : Str) = some .globalImplicit ∧ scope.names.lookup ("__class__" : Str) = some .free ∧
    (∀ n ∈ ("self" : Str) :: ns, scope.names.lookup n = some .local) ∧
    (∀ (x : Value) (us : List Value) (s : Shared), us.length = ns.length → BindsTo s (ksFn name qual params (.Expr (.Call (.Attribute (.Call (.Name "super" p0) [] [] p1) "__init__" p2) [.Constant (.str text) j p3] [] p4) p5 :: r) scope dV kV doc pm an (.ref cda) ct cc) ⟨x :: us, []⟩ (("self", x) :: ns.zip us)) ∧
    K.lookup cda = some ⟨ccl, cdd, .fields vs, ccs⟩ ∧ vs[2]? = some (.str file tf) ∧ ((P.main.file : Str) == file) = true ∧ K.lookup cc = some ⟨cl, cld, .cell (some (.ref C)), csl⟩ ∧ (p2.endLine == p4.line) = true
structure IniC (K : Frag) (C fI : Addr) (ns : List Str) (B newId initId : String) (bmB : List Value) : Prop where
  fb : ExcBaseFacts B newId initId bmB
  kf : KxsFacts B initId
  sf : StoreFacts B bmB "object.__setattr__" "object"
  ini : excInitIn K C bmB newId = true
  ovr : excOver K C bmB = true
  hd : hasDictIn K C = true
  sa : findIn K (.ref C) "__setattr__" = some (some (.builtin "object.__setattr__"))
  no : ∀ n ∈ ns, findIn K (.ref C) n = some none
  ic : findIn K (.ref C) "__init__" = some (some (.ref fI))
  ft : typeIn K (.ref fI) = some (.type "function")
  sup : ks_superIn K C C "__init__" = some (some (.builtin initId))
  sB : subIn K (.ref C) (.type B) = some true
  own : mroIn K C (.ref C) = some true
  opq : nsIn K cStatics "thirdparty.any" = some none
  ndb : ∀ n ∈ ns, (n == ("__debug__" : Str)) = false
  nd : (("self" : Str) :: ns).Nodup
theorem lookup_nd {α : Type} : ∀ {l : List (Str × α)} {n : Str} {v : α}, (l.map (·.1)).Nodup → (n, v) ∈ l → l.lookup n = some v
  | [], _, _, _, h => by cases h
  | (a, b) :: l, n, v, nd, h => by
    rw [List.map_cons, List.nodup_cons] at nd
    rw [List.lookup_cons]
    rcases List.mem_cons.mp h with e | h
    · cases e
      simp
    · have : n ≠ a := fun z => nd.1 (z ▸ List.mem_map.mpr ⟨(n, v), h, rfl⟩)
      rw [beq_false_of_ne this]
      exact lookup_nd nd.2 h
theorem map_zip {α : Type} : ∀ {l : List Str} {vs : List α}, vs.length = l.length → (l.zip vs).map (·.1) = l
  | [], _, _ => rfl
  | n :: l, [], h => by simp at h
  | n :: l, v :: vs, h => by
    rw [List.zip_cons_cons, List.map_cons, map_zip (by simpa using h)]
section
variable {P : Program} {w : World} {K : Frag} {C fI : Addr} {ns : List Str} {B newId initId : String} {bmB : List Value} {A : Around}
/-- a field is stored: the first one, a further one -/
theorem sto_first (I : IniC K C fI ns B newId initId bmB) {s : Shared} {x t1 : Addr} {n : Str} {v : Value} {E : Value → Shared → Prop} {Q : Unit → Shared → Prop} (X : K.In s.heap) (hx : s.heap.get? x = some (excObj C t1 none .none)) (hn : n ∈ ns)
    (hq : ∀ h' tk dx, (∀ b o, b ≠ x → s.heap.get? b = some o → h'.get? b = some o) → s.heap.objs.size ≤ dx → dx ≠ x → h'.get? x = some (excObj C t1 (some dx) .none) → h'.Ns1 dx (fun y => if y = n then some v else none) → Q () { s with heap := h', toks := tk }) :
    wpAny (model P w) A (setAttr (.ref x) n v) Q E s := by
  obtain ⟨hp, g, d, t, os⟩ := s
  have I0 : InstAt hp x (excObj C t1 none .none) C none := ⟨hx, rfl, rfl, trivial⟩
  have hxs : x ≠ hp.objs.size := Nat.ne_of_lt (Heap.lt_size hx)
  obtain ⟨cd, hcd, hh⟩ := any_some I.hd
  have hcls : Looks (model P w) hp (classData C) cd := looks_clsIn X hcd
  refine set_plain (od := none) X I0 I.sa (osa_openX (s := ⟨hp, g, d, t + 1, os⟩) I.sf X I0 I.ovr (r := none) (by unfold takerIn; rw [I.no n hn]; rfl) fun b => ?_)
  obtain ⟨nm, bs, mro, cns, qn, hdd, sn, sb, ab, col, del⟩ := cd
  dsimp only at hh
  subst hh
  show wpAny _ _ (Builtin.ObjectAttr.storeInOwnDict (.ref x) (.ref C) (.str n t) n v b) _ _ _
  unfold Builtin.ObjectAttr.storeInOwnDict Builtin.ObjectAttr.ownDictForStores
  repeat (first | with_reducible refine HandSPX.store_in_new ?_ ?_ | with_reducible refine wpAny_loadPart_at hx ?_ | with_reducible refine hcls.at ?_ | wp_step)
  · exact ⟨_, #[], _, (Heap.get?_update_ne _ _ _ _ hxs.symm).trans (Heap.get?_push_at rfl rfl), rfl, fun e he => absurd he (by simp), fun _ => rfl⟩
  · intro h' tk' hn' hs
    have hx₁ : (hp.push { cls := .type "dict", data := .dict #[] }).get? x = some (excObj C t1 none .none) := Heap.get?_push_of_some _ hx
    refine hq h' tk' hp.objs.size (fun b o hb ho => ?_) (Nat.le_refl _) hxs.symm ?_ hn'
    · exact (hs.2 b (Nat.ne_of_lt (Heap.lt_size ho))).trans ((Heap.get?_update_ne _ _ _ _ hb).trans (Heap.get?_push_of_some _ ho))
    · exact (hs.2 x hxs).trans (Heap.get?_update_self _ hx₁ rfl)
theorem sto_next (I : IniC K C fI ns B newId initId bmB) {s : Shared} {x t1 dx : Addr} {n : Str} {v : Value} {m0 : Str → Option Value} {nl : List Str} {E : Value → Shared → Prop} {Q : Unit → Shared → Prop} (X : K.In s.heap) (hx : s.heap.get? x = some (excObj C t1 (some dx) .none)) (hns : s.heap.Ns1 dx m0) (hw : Within m0 nl) (hz : nl.length ≤ 1000) (hn : n ∈ ns)
    (hq : ∀ h' tk, (∀ b o, b ≠ dx → s.heap.get? b = some o → h'.get? b = some o) → h'.Ns1 dx (fun y => if y = n then some v else m0 y) → Q () { s with heap := h', toks := tk }) :
    wpAny (model P w) A (setAttr (.ref x) n v) Q E s := by
  obtain ⟨hp, g, d, t, os⟩ := s
  obtain ⟨oD, esD, epD, hoD, hdD, _⟩ := hns.count hw
  have I0 : InstAt hp x (excObj C t1 (some dx) .none) C (some oD) := ⟨hx, rfl, rfl, hoD⟩
  obtain ⟨cd, hcd, hh⟩ := any_some I.hd
  have hcls : Looks (model P w) hp (classData C) cd := looks_clsIn X hcd
  refine set_plain (od := some oD) X I0 I.sa (osa_openX (s := ⟨hp, g, d, t + 1, os⟩) I.sf X I0 I.ovr (r := none) (by unfold takerIn; rw [I.no n hn]; rfl) fun b => ?_)
  obtain ⟨nm, bs, mro, cns, qn, hdd, sn, sb, ab, col, del⟩ := cd
  dsimp only at hh
  subst hh
  show wpAny _ _ (Builtin.ObjectAttr.storeInOwnDict (.ref x) (.ref C) (.str n t) n v b) _ _ _
  unfold Builtin.ObjectAttr.storeInOwnDict Builtin.ObjectAttr.ownDictForStores
  repeat (first | with_reducible refine PX.store_in_old hns hw hz ?_ | with_reducible refine wpAny_loadPart_at hx ?_ | with_reducible refine hcls.at ?_ | wp_step)
  intro h' tk' hn' hs
  exact hq h' tk' (fun b o hb ho => (hs.2 b hb).trans ho) hn'
/-- the fields that stand so far: no dict yet, or a dict with these -/
def Has (C x t1 : Addr) (h : Heap) (l : List (Str × Value)) : Prop := (l = [] ∧ h.get? x = some (excObj C t1 none .none)) ∨ ∃ dx, x < dx ∧ h.get? x = some (excObj C t1 (some dx) .none) ∧ h.Ns1 dx fun y => l.reverse.lookup y
theorem lookup_cons' {α : Type} (n : Str) (v : α) (l : List (Str × α)) : (fun y => List.lookup y ((n, v) :: l)) = fun y => if y = n then some v else List.lookup y l := by
  funext y
  rw [List.lookup_cons]
  by_cases e : y = n
  · subst e; simp
  · rw [if_neg e, beq_false_of_ne e]
theorem within_lookup (l : List (Str × Value)) : Within (fun y => List.lookup y l) (l.map (·.1)) := by
  induction l with
  | nil => exact Within.nil
  | cons p l ih =>
    obtain ⟨n, v⟩ := p
    rw [lookup_cons']
    exact Within.cons n v ih
/-- all the stores -/
theorem sto_all (I : IniC K C fI ns B newId initId bmB) {h0 : Heap} {env : Env} {x t1 L : Addr} {m : Str → Option Value} {E : Value → Shared → Prop} {Q : Flow → Shared → Prop} (X : K.In h0) (hk : env.scope.kind = .function) (hL : env.locals = L) (hsf : env.scope.names.lookup ("self" : Str) = some .local) (ms : m ("self" : Str) = some (.ref x)) (xL : x ≠ L) (hx0 : h0.objs.size ≤ x) :
    ∀ {l : List Str} {r : List Stmt} (vs : List Value) (done : List (Str × Value)) (s : Shared), Sto l r → vs.length = l.length → (∀ n ∈ l, n ∈ ns ∧ env.scope.names.lookup n = some .local) → (∀ p ∈ l.zip vs, m p.1 = some p.2) → done.length + l.length ≤ 100 →
      (∀ b o, h0.get? b = some o → s.heap.get? b = some o) → s.heap.Ns L m → L < s.heap.objs.size → (∀ dx, x < dx → s.heap.get? x = some (excObj C t1 (some dx) .none) → dx ≠ L) → Has C x t1 s.heap done →
      (∀ h' tk, (∀ b o, h0.get? b = some o → h'.get? b = some o) → Has C x t1 h' (done ++ l.zip vs) → Q .next { s with heap := h', toks := tk }) →
      wpAny (model P w) A (execs r env) Q E s := by
  intro l r vs done s st
  induction st generalizing vs done s with
  | nil =>
    intro hl hn hm hd hk0 hns hLs hdL hh hq
    refine wpAny_execs_nil ?_
    have := hq s.heap s.toks hk0 (by simpa using hh)
    exact this
  | @cons n l r p1 p2 p3 p4 st ih =>
    intro hl hn hm hd hk0 hns hLs hdL hh hq
    cases vs with
    | nil => simp at hl
    | cons v vs =>
    subst hL
    have hn0 := hn n List.mem_cons_self
    have mv : m n = some v := hm (n, v) (by simp)
    refine wpAny_execs_cons ?_
    refine plainObj_wpAny_Assign_Attribute ?_ rfl
    refine wpAny_Name (wpAny_loadName_local hk hn0.2 hns mv ?_) (I.ndb n hn0.1)
    refine wpAny_Name (wpAny_loadName_local hk hsf hns ms ?_) (by decide)
    have fin : ∀ h' tk dx, (∀ b o, b ≠ x → b ≠ dx → s.heap.get? b = some o → h'.get? b = some o) → x < dx → dx ≠ env.locals → h0.get? dx = none → h'.get? x = some (excObj C t1 (some dx) .none) → (h'.Ns1 dx fun y => ((n, v) :: done.reverse).lookup y) → wpAny (model P w) A (execs r env) Q E { s with heap := h', toks := tk } := by
      intro h' tk dx k1 k2 k3 k4 k5 k6
      have hx0n : h0.get? x = none := by
        cases q : h0.get? x with
        | none => rfl
        | some o => exact absurd (Nat.lt_of_lt_of_le (Heap.lt_size q) hx0) (Nat.lt_irrefl _)
      refine ih vs (done ++ [(n, v)]) { s with heap := h', toks := tk } (by simpa using hl) (fun a ha => hn a (List.mem_cons_of_mem _ ha)) (fun p hp => hm p (by simp [hp])) (by simp at hd ⊢; omega) (fun b o e => k1 b o (fun z => by rw [z, hx0n] at e; cases e) (fun z => by rw [z, k4] at e; cases e) (hk0 b o e)) ?_ ?_ ?_ ?_ ?_
      · obtain ⟨o, es, ep, e, rr⟩ := hns
        exact ⟨o, es, ep, k1 _ _ (Ne.symm xL) (Ne.symm k3) e, rr⟩
      · obtain ⟨o, es, ep, e, rr⟩ := hns
        exact Heap.lt_size (k1 _ _ (Ne.symm xL) (Ne.symm k3) e)
      · intro dx' _ e
        have e : h'.get? x = _ := e
        rw [k5] at e
        cases e
        exact k3
      · exact .inr ⟨dx, k2, k5, by simpa using k6⟩
      · intro h2 tk2 q1 q2
        refine hq h2 tk2 q1 ?_
        simpa using q2
    rcases hh with ⟨rfl, hx⟩ | ⟨dx, hlt, hx, hnd⟩
    · refine sto_first I (X.keeps hk0) hx hn0.1 fun h' tk dx k1 k2 k3 k4 k5 => ?_
      have hxs := Heap.lt_size hx
      refine fin h' tk dx (fun b o hb _ e => k1 b o hb e) (Nat.lt_of_lt_of_le hxs k2) (fun z => absurd (Nat.lt_of_lt_of_le hLs (z ▸ k2)) (Nat.lt_irrefl _)) ?_ k4 (by rw [lookup_cons']; exact k5)
      cases q : h0.get? dx with
      | none => rfl
      | some o => exact absurd (Nat.lt_of_lt_of_le (Heap.lt_size (hk0 _ _ q)) k2) (Nat.lt_irrefl _)
    · refine sto_next I (X.keeps hk0) hx hnd (within_lookup _) (by simp at hd ⊢; omega) hn0.1 fun h' tk k1 k2 => ?_
      have hdx : dx ≠ x := Nat.ne_of_gt hlt
      refine fin h' tk dx (fun b o _ hb e => k1 b o hb e) hlt (hdL dx hlt hx) ?_ (k1 x _ (Ne.symm hdx) hx) (by rw [lookup_cons']; exact k2)
      cases q : h0.get? dx with
      | none => rfl
      | some o => exact absurd (Nat.lt_trans hlt (Nat.lt_of_lt_of_le (Heap.lt_size q) hx0)) (Nat.lt_irrefl _)
/-- super() within such an __init__ -/
theorem sup_node {s : Shared} {env : Env} {body : List Stmt} {p0 p1 : Pos} {whole : Sem Value} {x cc cda : Addr} {of : Obj} {fd : FuncData} {ar : Arg} {occ : Obj} {vs : Array Value} {file : Str} {tf : Tok} {mg mb m : Str → Option Value} {ox : Obj} {E : Value → Shared → Prop} {Q : Value → Shared → Prop}
    (X : K.In s.heap) (own : mroIn K C (.ref C) = some true) (hk : env.scope.kind = .function) (hks : env.scope.names.lookup ("super" : Str) = some .globalImplicit) (hkc : env.scope.names.lookup ("__class__" : Str) = some .free) (hka : env.scope.names.lookup ("self" : Str) = some .local) (hfu : env.func = some fI) (hco : env.code = .ref cda) (hgl : env.globals = mainGlobals) (hbl : env.builtins = builtinsNs) (hce : env.cells.lookup ("__class__" : Str) = some cc)
    (hf : s.heap.get? fI = some of) (hfd : of.data = .func fd) (hp : (fd.params.posonlyargs ++ fd.params.args).head? = some ar) (har : ar.arg = "self") (hcc : s.heap.get? cda = some occ) (hoc : occ.data = .fields vs) (hvs : vs[2]? = some (.str file tf)) (hfile : ((P.main.file : Str) == file) = true) (htop : (P.main.scope.names.lookup ("super" : Str)).isSome = false)
    (hG : s.heap.Ns mainGlobals mg) (hm : mg "super" = none) (hB : s.heap.Ns builtinsNs mb) (hb : mb "super" = some (.type "super")) (hcell : ∃ oo, s.heap.get? cc = some oo ∧ oo.data = .cell (some (.ref C))) (hn : s.heap.Ns env.locals m) (ms : m ("self" : Str) = some (.ref x)) (hx : s.heap.get? x = some ox) (hxc : ox.cls = .ref C) (hxn : ∀ c, ox.data ≠ .cls c)
    (hq : ∀ h', h'.get? s.heap.objs.size = some (ks_superObj C x C) → (∀ y o, s.heap.get? y = some o → h'.get? y = some o) → Q (.ref s.heap.objs.size) { s with heap := h' }) :
    _root_.PySem.wpAt (model P w) A (.func body env) (attributeBase (.Call (.Name "super" p0) [] [] p1) "__init__" env whole) Q E s := by
  have hC : ∃ cd, clsIn K C = some cd := by
    unfold mroIn at own
    cases q : clsIn K C with
    | none => rw [q] at own; cases own
    | some cd => exact ⟨cd, rfl⟩
  obtain ⟨cd, hcd⟩ := hC
  obtain ⟨oD, hD1, hD2⟩ : ∃ oD, s.heap.get? C = some oD ∧ oD.data = .cls cd := by
    unfold clsIn at hcd
    split at hcd
    · rename_i c d cd' sl ho
      cases hcd
      exact ⟨_, X _ _ ho, rfl⟩
    · cases hcd
  refine ks_wpAt_super_base (env := env) hks hkc (show (("__init__" : Str) == ("__class__" : Str)) = false by decide) hfu hf hfd hp hco hcc hoc hvs hfile htop ?_
  refine ks_loadName_global hk hks ?_
  refine loadGlobal_builtin (env := env) (by rw [hgl]; exact hG) hm (by rw [hbl]; exact hB) hb ⟨rfl, ?_⟩
  obtain ⟨oo, h1, h2⟩ := hcell
  refine wpAny_loadName_free hk hkc hce ⟨_, h1, h2⟩ ?_
  rw [har]
  refine wpAny_loadName_local hk hka hn ms ?_
  refine ks_wpAny_isType_cls hD1 hD2 ⟨rfl, ?_⟩
  obtain ⟨hp, g, d, t, os⟩ := s
  exact ks_wpAny_call_super hD1 hD2 hx hxc hxn (looks_mroIn X own) fun h' e k => hq h' e k
theorem sup_call {o : Expr} {name : Str} {apos pos p3 : Pos} {c : Const} {j : Nat} (h : (apos.endLine == pos.line) = true) (env : Env) : eval (.Call (.Attribute o name apos) [.Constant c j p3] [] pos) env = (do
      let ov ← attributeBase o name env (eval o env)
      standAt apos.atName
      let (f, first) ← holding [ov] (getMethod ov name (do return (← importBound o env).getD true))
      callWith pos f first (backTo pos (starEach [.Constant c j p3] env)) []) := by
  show (attributeBase o name env (eval o env) >>= fun ov => standAt apos.atName >>= fun _ => methodCall o name apos pos env ov 1 (backTo pos (starEach [.Constant c j p3] env)) []) = _
  simp only [methodCall, methodCallPos, h, Bool.or_true, if_true, pure_bind]
  rfl
/-- what the globals must be -/
structure TopF (P : Program) (h : Heap) : Prop where
  top : (P.main.scope.names.lookup ("super" : Str)).isSome = false
  g : ∃ mg, h.Ns mainGlobals mg ∧ mg ("super" : Str) = none
  b : ∃ mb, h.Ns builtinsNs mb ∧ mb ("super" : Str) = some (.type "super")
theorem TopF.keeps {h h' : Heap} (t : TopF P h) (k : ∀ b o, h.get? b = some o → h'.get? b = some o) : TopF P h' := ⟨t.top, let ⟨mg, a, b⟩ := t.g; ⟨mg, a.keeps k, b⟩, let ⟨mb, a, b⟩ := t.b; ⟨mb, a.keeps k, b⟩⟩
theorem ini_run (I : IniC K C fI ns B newId initId bmB) (F : IniFn P K C fI ns) {R : Result → Shared → Prop} {h0 : Heap} {t0 : Addr} {us : List Value} {g : Array GenState} {d : Drawn} {t : Nat} {os : OsState} (X : K.In h0) (lim : h0.NoLimit) (T : TopF P h0) (hroom : A.depth < recursionLimit) (hl : us.length = ns.length) (hls : ns.length ≤ 50)
    (hq : ∀ h' tk t1, (∀ b o, h0.get? b = some o → h'.get? b = some o) → Has C h0.objs.size t1 h' (ns.zip us) → R (.ok (.ret .none)) ⟨h', g, d, tk, os⟩) :
    codeAny (model P w) A (.call (.ref fI) ⟨.ref h0.objs.size :: us, []⟩) R ⟨h0.push (HandSPX.excO C t0), g, d, t, os⟩ := by
  obtain ⟨oc, od, name, qual, params, r, scope, dV, kV, doc, pm, an, cda, ct, osl, cc, text, p0, p1, p2, p3, p4, p5, ar, j, ccl, cdd, vs, ccs, file, tf, cl, cld, csl, lk, hcd, hst, hpar, har, hk, hco, hgen, hcell, hks, hkc, hloc, hb, lcd, hvs, hfile, lcc, hline⟩ := F.ex
  have kp : ∀ b o, h0.get? b = some o → (h0.push (HandSPX.excO C t0)).get? b = some o := fun b o e => Heap.get?_push_of_some _ e
  have hx : (h0.push (HandSPX.excO C t0)).get? h0.objs.size = some (excObj C t0 none .none) := Heap.get?_push_size h0 rfl
  have sz : (h0.push (HandSPX.excO C t0)).objs.size = h0.objs.size + 1 := Heap.size_push _ _
  generalize hhs : h0.push (HandSPX.excO C t0) = hs at kp hx sz
  have hx0n : h0.get? h0.objs.size = none := by
    cases q : h0.get? h0.objs.size with
    | none => rfl
    | some o => exact absurd (Heap.lt_size q) (Nat.lt_irrefl _)
  have hlocb : ∀ y ∈ (("self" : Str), Value.ref h0.objs.size) :: ns.zip us, scope.names.lookup y.1 = some .local := fun y hy => by
    rcases List.mem_cons.mp hy with rfl | hy
    · exact hloc _ List.mem_cons_self
    · exact hloc _ (List.mem_cons_of_mem _ (List.of_mem_zip hy).1)
  refine ks_codeAny_call_defAt (fd := ksFn name qual params (.Expr (.Call (.Attribute (.Call (.Name "super" p0) [] [] p1) "__init__" p2) [.Constant (.str text) j p3] [] p4) p5 :: r) scope dV kV doc pm an (.ref cda) ct cc) (binds := (("self" : Str), Value.ref h0.objs.size) :: ns.zip us) hroom ((X.keeps kp) _ _ lk) rfl (lim.keeps kp) (codeRec_of (X.keeps kp) hcd) rfl (hb _ us _ hl) hcell hlocb (fun h1 hns hk1 => ?_) hco hgen hk
  have hk1 : ∀ b o, hs.get? b = some o → h1.get? b = some o := hk1
  have hns : h1.Ns hs.objs.size _ := hns
  have hns0 := hns
  generalize hmm : (fun y => ((("self" : Str), Value.ref h0.objs.size) :: ns.zip us).reverse.lookup y) = m at hns
  have ndl : ((((("self" : Str), Value.ref h0.objs.size) :: ns.zip us).reverse).map (·.1)).Nodup := by
    rw [List.map_reverse]
    refine (List.reverse_perm _).nodup_iff.mpr ?_
    rw [List.map_cons, map_zip hl]
    exact I.nd
  have ms : m ("self" : Str) = some (.ref h0.objs.size) := by
    rw [← hmm]
    exact lookup_nd ndl (by simp)
  have mn : ∀ q ∈ ns.zip us, m q.1 = some q.2 := fun q hq => by
    rw [← hmm]
    exact lookup_nd ndl (by simp [hq])
  clear hmm hns0
  have k01 : ∀ b o, h0.get? b = some o → h1.get? b = some o := fun b o e => hk1 b o (kp b o e)
  have L1 : hs.objs.size < h1.objs.size := hns.lt
  have xL : h0.objs.size ≠ hs.objs.size := by rw [sz]; exact Nat.ne_of_lt (Nat.lt_succ_self _)
  refine ks_wpAt_execs_cons (ks_wpAt_Expr_any (ks_wpAt_MethodCall ?_ (sup_call hline _)) (by unfold interactive; show ((scope.kind == .module) && _) = false; rw [hk]; rfl) rfl)
  obtain ⟨mg, hG, hmg⟩ := T.g
  obtain ⟨mb, hB, hmb⟩ := T.b
  refine sup_node (s := ⟨h1, g, d, _, os⟩) (C := C) (fI := fI) (x := h0.objs.size) (cc := cc) (cda := cda) (X.keeps k01) I.own hk hks hkc (hloc _ List.mem_cons_self) rfl rfl rfl rfl (by simp [callEnv, newEnv]) (k01 _ _ (X _ _ lk)) rfl hpar har (k01 _ _ (X _ _ lcd)) rfl hvs hfile T.top (hG.keeps k01) hmg (hB.keeps k01) hmb ⟨_, k01 _ _ (X _ _ lcc), rfl⟩ hns ms (hk1 _ _ hx) rfl (fun c z => by cases z) fun h2 e2 k2 => ?_
  have e2 : h2.get? h1.objs.size = _ := e2
  have k2 : ∀ y o, h1.get? y = some o → h2.get? y = some o := k2
  have k02 : ∀ b o, h0.get? b = some o → h2.get? b = some o := fun b o e => k2 b o (k01 b o e)
  have X2 : K.In h2 := X.keeps k02
  have hx2 : h2.get? h0.objs.size = some (excObj C t0 none .none) := k2 _ _ (hk1 _ _ hx)
  have I2 : InstAt h2 h0.objs.size (excObj C t0 none .none) C none := ⟨hx2, rfl, rfl, trivial⟩
  obtain ⟨cd, hcd2, hm2⟩ : ∃ cd, clsIn K C = some cd ∧ alongIn K "__init__" ((cd.mro.dropWhile (· != .ref C)).drop 1) = some (some (.builtin initId)) := by
    have := I.sup
    unfold ks_superIn at this
    cases q : clsIn K C with
    | none => rw [q] at this; cases this
    | some cd => rw [q] at this; exact ⟨cd, rfl, this⟩
  refine kxs_getMethod (h := h2) I.kf e2 (looks_opaque X2 I.opq) (l₀ := cd.mro) (fun A Q E s k q => wpAny_bind ((looks_clsIn X2 hcd2) A _ E s k (wpAny_pure q))) rfl X2 hm2 (I2.type.andThen (looks_subIn X2 I.sB)) (ks_ne X2 I2 hcd2) (by decide) ?_
  have k3 : ∀ b o, h2.get? b = some o → (h2.push (kxs_mw initId h0.objs.size)).get? b = some o := fun b o e => Heap.get?_push_of_some _ e
  have u3 : (h2.push (kxs_mw initId h0.objs.size)).get? h2.objs.size = some (kxs_mw initId h0.objs.size) := Heap.get?_push_size h2 rfl
  have lt2 : h1.objs.size < h2.objs.size := Heap.lt_size e2
  have xlt : h0.objs.size < h2.objs.size := Heap.lt_size hx2
  have Llt : hs.objs.size < h2.objs.size := Nat.lt_trans L1 lt2
  generalize hh3 : h2.push (kxs_mw initId h0.objs.size) = h3 at k3 u3
  have none0 : ∀ a : Addr, h0.objs.size ≤ a → h0.get? a = none := fun a ha => by
    cases q : h0.get? a with
    | none => rfl
    | some o => exact absurd (Nat.lt_of_lt_of_le (Heap.lt_size q) ha) (Nat.lt_irrefl _)
  have N3 : News h0 hs.objs.size h3 [(h2.objs.size, kxs_mw initId h0.objs.size), (h0.objs.size, excObj C t0 none .none)] := fun p hp => by
    simp only [List.mem_cons, List.not_mem_nil, or_false] at hp
    rcases hp with rfl | rfl
    · exact ⟨u3, Nat.ne_of_gt Llt, none0 _ (Nat.le_of_lt xlt)⟩
    · exact ⟨k3 _ _ hx2, xL, hx0n⟩
  have F3 : PyProof.Rows.Fr h0 hs.objs.size h3 m := ⟨(hns.keeps k2).keeps k3, fun b o e => k3 b o (k02 b o e), by rw [sz]; exact Nat.le_succ _⟩
  refine kxs_callWith1 (i := initId) (x := h0.objs.size) N3 List.mem_cons_self ?_ rfl rfl
  refine spliced_cons (Constant_str (k := j) (pos := p3) (spliced_nil ⟨u3, ?_⟩))
  refine kxs_call (B := B) (newId := newId) (bmB := bmB) (C := C) (t := t0) (dv := none) (c2 := .none) (nw := fun o' => [(h2.objs.size, kxs_mw initId h0.objs.size), (h0.objs.size, o')]) F3 X N3 I.fb I.ini List.mem_cons_self (.tail (Nat.ne_of_gt xlt) (.head (by simp))) (by rw [sizeLine_eq]; simp) fun t1 h4 F4 N4 _ => ?_
  have hx4 : h4.get? h0.objs.size = some (excObj C t1 none .none) := (N4 (h0.objs.size, excObj C t1 none .none) (by simp)).1
  refine wpAt_of_wpAny (sto_all (h0 := h0) (x := h0.objs.size) (t1 := t1) (L := hs.objs.size) (m := m) I X hk rfl (hloc _ List.mem_cons_self) ms xL (Nat.le_refl _) us [] _ hst hl (fun n hn => ⟨hn, hloc n (List.mem_cons_of_mem _ hn)⟩) mn (by simp; omega) F4.keep F4.ns F4.ns.lt (fun dx _ e => by rw [hx4] at e; cases e) (.inl ⟨rfl, hx4⟩) fun h5 tk k5 hh5 => ?_)
  exact hq h5 tk t1 k5 (by simpa using hh5)
end
end Bk

set_option Elab.async false
set_option linter.all false
set_option maxRecDepth 100000
set_option maxHeartbeats 4000000
set_option pp.maxSteps 600
/-! Such exceptions in the judgements: made, raised. -/
namespace Bk
open PySem PySem.Spec PyProof.Rows L2
structure XcOk (P : Program) (K : PySem.W.Frag) (C : Addr) (ns : List Str) : Prop where
  ex : ∃ fI B newId initId bmB, IniC K C fI ns B newId initId bmB ∧ IniFn P K C fI ns
  kC : PySem.W.keepIn K (.ref C) = true
  exC : PySem.W.subIn K (.ref C) (.type "BaseException") = some true
  tyC : PySem.W.typeIn K (.ref C) = some (.type "type")
  len : 1 ≤ ns.length ∧ ns.length ≤ 50
  nd : ns.Nodup
  top : (P.main.scope.names.lookup ("super" : Str)).isSome = false
  mg : PySem.W.nsIn K mainGlobals ("super" : Str) = some none
theorem rel_zip : ∀ {ns : List Str} {vs : List V} {us : List Value} {fs : List (Str × V)} {gs : List (Str × Value)}, Vals vs us → (∀ y, RelO (fs.lookup y) (gs.lookup y)) → ∀ y, RelO (((ns.zip vs).reverse ++ fs).lookup y) (((ns.zip us).reverse ++ gs).lookup y)
  | [], _, _, _, _, _, r, y => by simpa using r y
  | n :: ns, _, _, fs, gs, .nil, r, y => by simpa using r y
  | n :: ns, v :: vs, u :: us, fs, gs, .cons h t, r, y => by
    simp only [List.zip_cons_cons, List.reverse_cons, List.append_assoc, List.singleton_append]
    refine rel_zip t (fun y => ?_) y
    rw [show ((n, v) :: fs).lookup y = (fun y => ((n, v) :: fs).lookup y) y from rfl, lookup_cons', show ((n, u) :: gs).lookup y = (fun y => ((n, u) :: gs).lookup y) y from rfl, lookup_cons']
    simp only
    by_cases e : y = n
    · rw [if_pos e, if_pos e]; exact h
    · rw [if_neg e, if_neg e]; exact r y
def tMkX (C : Addr) (ns : List Str) (ta : TA) : L2.St → Hp → XK → Prop := fun σ H Q => ta σ H fun vs H1 => vs.length = ns.length ∧ ∀ d, H1 d = none → Q (.ref C) (some d) (upd H1 d (.xd (ns.zip vs).reverse))
theorem pmk_x {X : Cx} {x : Str} {C : Addr} {ns : List Str} {e : Expr} {es : List Expr} {ta : TA} {p pos : Pos} (T : XcOk X.prog X.K C ns) (hr : Room 1 X.A) (hg : Gl X x) (hm : X.mg x = some (.ref C)) (ha : PA X (e :: es) ta)
    (hdb : (x == ("__debug__" : Str)) = false) (he : starEach (e :: es) X.env = (false, eval e X.env) :: starEach es X.env) (hpl : (backTo pos (starEach es X.env)).any (·.1) = false) :
    PMk X (.Call (.Name x p) (e :: es) [] pos) (tMkX C ns ta) := by
  intro pins s σ H Q I h
  obtain ⟨fI, B, newId, initId, bmB, ic, fn⟩ := T.ex
  refine wpAny_Call_Name_kw (ld_glob I hg hm ?_ hdb)
  refine PySem.W.callWith_K (h₀ := X.base) I.ok.mod.kin T.kC (thn (ha.run pos pins s σ H _ I h) fun us s1 ⟨vs, H1, I1, r1, hl, q1⟩ => ⟨I1.kIn, ?_⟩) he hpl
  show wpAny _ _ (call (.ref C) us) _ _ _
  obtain ⟨hp, g, dr, tk, os⟩ := s1
  have hlu : us.length = ns.length := by rw [← Paired.length r1, hl]
  obtain ⟨nm, N, qn, bs, bm, hdct, sn, sub, ab, col, dd, k0, k1, k2, k3, k5, hC, hT⟩ := PySem.W.excInit_of I1.kIn ic.ini
  have kp : ∀ b o, hp.get? b = some o → (hp.push (PySem.W.kdv_tup us)).get? b = some o := fun b o e => Heap.get?_push_of_some _ e
  have sz : (hp.push (PySem.W.kdv_tup us)).objs.size = hp.objs.size + 1 := Heap.size_push _ _
  have tf : TopF X.prog hp := ⟨T.top, ⟨X.mg, I1.mod.glob.keeps I1.bk, PySem.W.mg_none_of I1.mod.kin I1.mod.glob T.mg⟩, by
    obtain ⟨mb, h1, h2⟩ := I1.mod.blt
    exact ⟨mb, h1.keeps I1.bk, (h2 _ (by decide)).trans (by decide +kernel)⟩⟩
  refine wpAny_call (PySem.HandSPX.call_own ic.fb hT hC (PySem.W.looks_findIn I1.kIn ic.ic) (fun self => PySem.W.bind_fn I1.kIn self ic.ft) (by rw [hlu, sizeLine_eq]; have := T.len.2; omega) ?_)
  have run := ini_run (w := X.w) (A := X.A.under (.builtin "type.__call__" ⟨.ref C :: us, []⟩)) (R := PySem.W.InitBack (hp.objs.size + 1) (fun r s' => match r with | .ok (.ret v) => MkP X pins σ Q v s' | .ok _ => False | .error e => X.xe e s')) (h0 := hp.push (PySem.W.kdv_tup us)) (t0 := hp.objs.size) (us := us) (g := g) (d := dr) (t := tk) (os := os) ic fn (I1.kIn.keeps kp) (I1.nolimit.keeps kp) (tf.keeps kp) (by rw [make_depth]; have := hr.dp; omega) hlu T.len.2 (fun h' tk' t1 k' hh => ?_)
  · rw [sz] at run
    exact run
  · rw [sz] at hh
    rcases hh with ⟨e0, _⟩ | ⟨dx, hlt, hx, hns⟩
    · have : (ns.zip us).length = 0 := by rw [e0]; rfl
      rw [List.length_zip] at this
      have := T.len.1
      omega
    refine ⟨rfl, ?_⟩
    obtain ⟨G, g1', g2'⟩ := restrict h' fun b => decide (b ≠ hp.objs.size + 1)
    have gk : ∀ b, b ≠ hp.objs.size + 1 → G.get? b = h'.get? b := fun b hb => g1' b (decide_eq_true hb)
    have ge : G.get? (hp.objs.size + 1) = none := g2' _ (by simp)
    have hdne : dx ≠ hp.objs.size + 1 := Nat.ne_of_gt hlt
    have hdge : hp.objs.size ≤ dx := Nat.le_of_lt (Nat.lt_trans (Nat.lt_succ_self _) hlt)
    have kG : ∀ b o, hp.get? b = some o → G.get? b = some o := fun b o e => by
      rw [gk b (Nat.ne_of_lt (Nat.lt_trans (Heap.lt_size e) (Nat.lt_succ_self _)))]
      exact k' b o (kp b o e)
    have J : L2.Inv X pins σ (upd H1 dx (.xd (ns.zip vs).reverse)) ⟨G, g, dr, tk', os⟩ := I1.laid (t' := tk') (a := dx) (o := .xd (ns.zip vs).reverse) (h' := G) kG hdge ⟨_, hns.at fun o y => (gk dx hdne).trans y, fun y => by
      have := rel_zip (ns := ns) (fs := []) (gs := []) r1 (fun _ => True.intro) y
      simpa using this⟩
    have na : upd H1 dx (.xd (ns.zip vs).reverse) (hp.objs.size + 1) = none := by
      rw [upd_ne (Ne.symm hdne)]
      exact I1.hok.fresh (Nat.le_succ _)
    refine ⟨hp.objs.size + 1, _, _, ⟨G, g, dr, tk', os⟩, _, .ref C, some dx, rfl, J, fun b o z => ?_, ge, hx, ⟨rfl, rfl⟩, rfl, rfl, na, rfl, I1.bare, raises_own T.exC T.tyC, q1 dx (I1.hok.fresh hdge)⟩
    by_cases hb : b = hp.objs.size + 1
    · rw [hb, ge] at z; cases z
    · rw [← gk b hb]; exact z
end Bk

set_option Elab.async false
set_option linter.all false
set_option maxRecDepth 100000
set_option maxHeartbeats 4000000
set_option pp.maxSteps 800
/-! Lambdas without parameters, or with one that has a written default, handed to a def that calls them. -/
namespace Bk
open PySem PySem.Spec PyProof.Rows L2 LamX
inductive LPar : Arguments → List Str → Prop where
  | zero : LPar ⟨[], [], none, [], [], none, []⟩ []
  | one {y : Str} {p q : Pos} {i : Int} {j : Nat} (hy : y = "_law_y" ∨ y = "_law_x" ∨ y = "_law_k") : LPar ⟨[], [⟨y, none, p⟩], none, [], [], none, [.Constant (.int i) j q]⟩ [y]
structure LamQ (N : List Str) (sc scope : Scope) (ys : List Str) : Prop where
  kind : scope.kind = .function
  co : scope.isCoroutine = false
  gen : scope.isGenerator = false
  nc : ∀ z ∈ scope.names, z.2 ≠ .cell
  loc : ∀ z ∈ scope.names, z.2 = .local → z.1 ∉ N
  par : ∀ y ∈ ys, scope.names.lookup y = some .local
  free : ∀ z ∈ scope.names, z.2 = .free → sc.names.lookup z.1 = some .cell ∨ sc.names.lookup z.1 = some .free
theorem LamQ.has {X : Cx} {N : List Str} {scope : Scope} {ys : List Str} (L : LamQ N X.env.scope scope ys) (ok : X.Ok) : ∀ z ∈ scope.names, z.2 = .free → ∃ c, X.env.cells.lookup z.1 = some c := fun z hz e => by
  rcases L.free z hz e with k | k
  · exact ok.has _ (.inl k)
  · exact ok.has _ (.inr k)
/-- the function that a lambda made -/
structure LamAt (X : Cx) (params : Arguments) (body : Expr) (scope : Scope) (f c' : Addr) (H : Hp) (s : Shared) : Prop where
  ex : ∃ (pm ctv doc dV : Value), s.heap.get? f = some (PySem.W.kdv_obj "<lambda>" (X.env.qual ++ "<lambda>") params (.expr body) scope (cloFrom X.env.cells scope.names []) dV doc pm c' ctv) ∧
    ((dV = .none ∧ params.defaults = []) ∨ ∃ (T : Addr) (v : Value), dV = .ref T ∧ params.defaults ≠ [] ∧ s.heap.get? T = some (PySem.W.kdv_tup [v]) ∧ H T = none ∧ T ∉ frs X.stack)
  hn : H f = none
  hf : f ∉ frs X.stack
  code : H c' = some (CodeO c' (X.env.qual ++ "<lambda>"))
section
variable {X : Cx} {pins : List (Addr × Obj)} {σ : L2.St} {H : Hp} {s : Shared}
theorem no_frame (I : L2.Inv X pins σ H s) {f : Addr} (hf : s.heap.objs.size ≤ f) : f ∉ frs X.stack := fun z => by
  rcases List.mem_cons.mp (I.stkSub _ z) with e | e
  · have h1 := I.lt
    rw [← e] at h1
    exact Nat.lt_irrefl _ (Nat.lt_of_lt_of_le h1 hf)
  · exact I.nofs hf e
/-- no further table -/
def TIn (H H1 : Hp) : Prop := ∀ b ps, H1 b = some (.tbl ps) → ∃ ps', H b = some (.tbl ps')
theorem TIn.refl (H : Hp) : TIn H H := fun b ps e => ⟨ps, e⟩
theorem lam_tail {T : List (Addr × Str)} {c P : Addr} {params : Arguments} {dV : Value} {body : Expr} {scope : Scope} {pos : Pos} {ln : Nat} {E : Value → Shared → Prop} {Q : Value → Shared → Prop} (I : L2.Inv X pins σ H s) (TB : TabB X.base X.mg c P) (hcode : X.env.code = .ref c)
    (hm : (P, X.env.qual ++ "<lambda>") ∈ T) (hu : ∀ p ∈ T, p.1 = P → p.2 = X.env.qual ++ "<lambda>") (hT : Tabs T H) (hfree : ∀ y ∈ scope.names, y.2 = .free → ∃ c, X.env.cells.lookup y.1 = some c)
    (h : ∀ (f c' : Addr) (pm ctv doc : Value) (H1 : Hp) (s' : Shared), L2.Inv X pins σ H1 s' → ExtN H H1 → TIn H H1 → Tabs T H1 → s'.heap.get? f = some (PySem.W.kdv_obj "<lambda>" (X.env.qual ++ "<lambda>") params (.expr body) scope (cloFrom X.env.cells scope.names []) dV doc pm c' ctv) →
      H1 f = none → f ∉ frs X.stack → H1 c' = some (CodeO c' (X.env.qual ++ "<lambda>")) → (∀ b o, H b = none → s.heap.get? b = some o → s'.heap.get? b = some o ∧ H1 b = none) → Q (.ref f) s') :
    wpAny (model X.prog X.w) X.A (makeTail "<lambda>" (X.env.qual ++ "<lambda>") params (.expr body) scope X.env dV .none none pos ln) Q E s := by
  obtain ⟨ps, hP, ht, ha⟩ := hT _ hm
  have bP : s.heap.BuiltinsAt X.mg P := TB.bm.keeps I.bk
  have hP' : s.heap.get? P = some { cls := .none, data := .fields ps } := I.hok P _ hP
  cases hc : codeAmong pos ps.toList with
  | none =>
    refine PySem.W.kdv_makeTail (mg := X.mg) (c := c) (P := P) (ps := ps) (closure_ok hfree) I.ok.glob (I.mod.glob.keeps I.bk) hcode (TB.code.keeps I.bk) hP' ht hc TB.gP bP fun c' ctv doc h' tk hx hge hlt hrec htb => ?_
    obtain ⟨c2, oc, vs, tt, e2, hoc, hd, hvq⟩ := hrec
    cases e2
    have hsz : s.heap.objs.size ≤ h'.objs.size := Nat.le_trans hge (Nat.le_of_lt hlt)
    have nC : H c' = none := I.hok.fresh hge
    have I1 := inv_table (t' := tk) (more := #[rawInt pos.line, rawInt pos.col, .ref c']) (h' := h'.push (PySem.W.kdv_obj "<lambda>" (X.env.qual ++ "<lambda>") params (.expr body) scope (cloFrom X.env.cells scope.names []) dV doc ((X.mg "__name__").getD .none) c' ctv)) I hP
      (fun b o hb e => Heap.get?_push_of_some _ (hx b o hb e)) (Heap.get?_push_of_some _ htb) hge ⟨oc, vs, tt, Heap.get?_push_of_some _ hoc, hd, hvq⟩
    have hE : ExtN H (upd (upd H P (.tbl (ps ++ #[rawInt pos.line, rawInt pos.col, .ref c']))) c' (CodeO c' (X.env.qual ++ "<lambda>"))) := fun b o e n => by
      rw [upd_ne (ne_of_none e nC), upd_ne (fun z => n ps (Option.some.inj (e.symm.trans (by rw [z]; exact hP))))]
      exact e
    have hI : TIn H (upd (upd H P (.tbl (ps ++ #[rawInt pos.line, rawInt pos.col, .ref c']))) c' (CodeO c' (X.env.qual ++ "<lambda>"))) := fun b ps' e => by
      by_cases z1 : b = c'
      · rw [z1, upd_same] at e
        exact absurd (Option.some.inj e) (codeO_ne _)
      · by_cases z2 : b = P
        · exact ⟨ps, by rw [z2]; exact hP⟩
        · rw [upd_ne z1, upd_ne z2] at e
          exact ⟨ps', e⟩
    have eL : (ps ++ #[rawInt pos.line, rawInt pos.col, .ref c']).toList = ps.toList ++ [rawInt pos.line, rawInt pos.col, .ref c'] := by simp
    refine h h'.objs.size c' _ _ _ _ _ I1 hE hI (fun r hr => ?_) (Heap.get?_push_size _ rfl) ?_ (no_frame I hsz) upd_same fun b o n e => ?_
    · by_cases hb : r.1 = P
      · rw [hu r hr hb, hb]
        refine ⟨_, by rw [upd_ne (ne_of_none hP nC), upd_same], by rw [eL]; exact PySem.TriplesOk_snoc _ _ _ _ ht, fun p' cv hcv => ?_⟩
        rw [eL] at hcv
        rcases among_app _ ht hcv with z | z
        · obtain ⟨c0, e1, e2⟩ := ha p' cv z
          exact ⟨c0, e1, hE _ _ e2 codeO_ne⟩
        · exact ⟨c', z, upd_same⟩
      · obtain ⟨ps', a1, a2, a3⟩ := hT r hr
        refine ⟨ps', by rw [upd_ne (ne_of_none a1 nC), upd_ne hb]; exact a1, a2, fun p' cv hcv => ?_⟩
        obtain ⟨c0, e1, e2⟩ := a3 p' cv hcv
        exact ⟨c0, e1, hE _ _ e2 codeO_ne⟩
    · have n1 : h'.objs.size ≠ c' := Nat.ne_of_gt hlt
      have n2 : h'.objs.size ≠ P := Nat.ne_of_gt (Nat.lt_of_lt_of_le (Heap.lt_size hP') hsz)
      rw [upd_ne n1, upd_ne n2]
      exact I.hok.fresh hsz
    · have nbP : b ≠ P := fun z => by rw [z, hP] at n; cases n
      have nbc : b ≠ c' := Nat.ne_of_lt (Nat.lt_of_lt_of_le (Heap.lt_size e) hge)
      exact ⟨Heap.get?_push_of_some _ (hx b o nbP e), by rw [upd_ne nbc, upd_ne nbP]; exact n⟩
  | some cv =>
    obtain ⟨c', e, hco⟩ := ha pos cv hc
    subst e
    refine PySem.W.kdv_makeTailHit (mg := X.mg) (c := c) (P := P) (ps := ps) (closure_ok hfree) I.ok.glob (I.mod.glob.keeps I.bk) hcode (TB.code.keeps I.bk) hP' ht hc bP fun ctv doc h' tk hx hsz => ?_
    exact h h'.objs.size c' _ _ _ H _ (I.kept (t' := tk) fun b o e => Heap.get?_push_of_some _ (hx b o e)) (ExtN.refl H) (TIn.refl H) hT (Heap.get?_push_size _ rfl) (I.hok.fresh hsz) (no_frame I hsz) hco fun b o n e => ⟨Heap.get?_push_of_some _ (hx b o e), n⟩
theorem lam_mk {T : List (Addr × Str)} {c P : Addr} {params : Arguments} {ys : List Str} {body : Expr} {scope : Scope} {pos : Pos} {E : Value → Shared → Prop} {Q : Value → Shared → Prop} (I : L2.Inv X pins σ H s) (TB : TabB X.base X.mg c P) (hcode : X.env.code = .ref c)
    (hm : (P, X.env.qual ++ "<lambda>") ∈ T) (hu : ∀ p ∈ T, p.1 = P → p.2 = X.env.qual ++ "<lambda>") (hT : Tabs T H) (hp : LPar params ys) (hfree : ∀ y ∈ scope.names, y.2 = .free → ∃ c, X.env.cells.lookup y.1 = some c)
    (h : ∀ (f c' : Addr) (H1 : Hp) (s' : Shared), L2.Inv X pins σ H1 s' → ExtN H H1 → TIn H H1 → Tabs T H1 → LamAt X params body scope f c' H1 s' → Q (.ref f) s') :
    wpAny (model X.prog X.w) X.A (eval (.Lambda params body scope pos) X.env) Q E s := by
  cases hp with
  | zero =>
    refine PySem.W.kla_eval rfl ?_
    rw [makeFunction_eq]
    simp only [List.zip_nil_right, List.filterMap_nil, List.isEmpty_nil, if_true, pure_bind]
    exact lam_tail I TB hcode hm hu hT hfree fun f c' pm ctv doc H1 s' I1 eN tI T1 hf hfn hfr hco _ => h f c' H1 s' I1 eN tI T1 ⟨⟨pm, ctv, doc, .none, hf, .inl ⟨rfl, rfl⟩⟩, hfn, hfr, hco⟩
  | @one y p q i j hy =>
    refine PySem.W.kdv_lam rfl rfl (PySem.W.kdv_all1 (wpAny_Constant_int (PySem.W.kdv_all0 ?_)))
    rw [makeFunction_eq]
    simp only [List.zip_nil_right, List.filterMap_nil, List.isEmpty_nil, if_true, pure_bind, List.isEmpty_cons, Bool.false_eq_true, if_false]
    refine wpAny_bind (wpAny_newTextTuple ?_)
    obtain ⟨hp, g, d, t, os⟩ := s
    simp only
    generalize hv : Value.int i _ = v
    have t0 : (hp.push (PySem.W.kdv_tup [v])).get? hp.objs.size = some (PySem.W.kdv_tup [v]) := Heap.get?_push_size hp rfl
    have nT : H hp.objs.size = none := I.hok.fresh (Nat.le_refl _)
    have fT := no_frame I (f := hp.objs.size) (Nat.le_refl _)
    refine lam_tail (I.kept fun b o e => Heap.get?_push_of_some _ e) TB hcode hm hu hT hfree fun f c' pm ctv doc H1 s' I1 eN tI T1 hf hfn hfr hco kk => h f c' H1 s' I1 eN tI T1 ⟨⟨pm, ctv, doc, _, hf, .inr ⟨hp.objs.size, v, rfl, (fun z => by cases z), (kk _ _ nT t0).1, (kk _ _ nT t0).2, fT⟩⟩, hfn, hfr, hco⟩
/-- the lambda's body begins -/
theorem lam_go {N : List Str} {ys : List Str} {s1 : Shared} {HZ : Hp} {A : Around} {outer : List Env} {E : XK} {scope : Scope} {f c' : Addr} {h1 : Heap} {tk : Nat} {m : Str → Option Value} (I : L2.Inv X pins σ H s) (hNN : X.N = N) (L : LamQ N X.env.scope scope ys) (e0 : Env0 X.prog X.w X.K X.mg X.base A outer s1 HZ) (hd : A.handled = none)
    (un : Un (frs X.stack) [] H HZ s.heap s1.heap) (hns : h1.Ns s1.heap.objs.size m) (kp : ∀ b o, s1.heap.get? b = some o → h1.get? b = some o) :
    L2.Inv (lamCx X A outer s1 HZ E scope f c') [] σ HZ { s1 with heap := h1, toks := tk } := by
  subst hNN
  have hfree := L.has I.ok
  have toX : ∀ {y : Str} {c : Addr}, (cloFrom X.env.cells scope.names []).lookup y = some c → X.env.cells.lookup y = some c := by
    intro y c e
    rcases cloFrom_mem (PySem.mem_of_lookup e) with z | ⟨z1, z2⟩
    · cases z
    · obtain ⟨c1, q⟩ := hfree _ z1 rfl
      have q : X.env.cells.lookup y = some c1 := q
      have : c = c1 := by rw [z2, q] <;> rfl
      rw [this]; exact q
  have ofFree : ∀ {y : Str}, scope.names.lookup y = some .free → ∃ c, (cloFrom X.env.cells scope.names []).lookup y = some c := by
    intro y e
    exact mem_lookup (cloFrom_has (cells := X.env.cells) (acc := []) (PySem.mem_of_lookup e))
  have cellH : ∀ {c : Addr} {v : Option Value}, H c = none → s.heap.IsCell c v → h1.IsCell c v := by
    rintro c v n ⟨o, ho, hdd⟩
    obtain ⟨sl, q⟩ := un.any ho n (by simp)
    exact ⟨_, kp _ _ q, hdd⟩
  have noEx : ∀ b : Addr, b ∉ (lamCx X A outer s1 HZ E scope f c').ex := fun b z => absurd (show b ∈ ([] : List Addr) from z) (by simp)
  have cellN : ∀ y, scope.names.lookup y ≠ some .cell := fun y z => L.nc _ (PySem.mem_of_lookup z) rfl
  constructor
  · refine ⟨e0.mod, L.kind, rfl, rfl, Nat.le_refl _, fun y z c e1 e2 => I.ok.inj y z c (toX e1) (toX e2), ?_, ?_, fun _ => hd, Around.frames_deeper e0.frames, .inr ⟨rfl, rfl⟩, fun b z => absurd z (noEx b), e0.bs, e0.bsz, fun b _ _ => noEx b, fun b z => absurd z (noEx b), e0.funs, e0.frf⟩
    · intro y hy
      have hy : scope.names.lookup y = some .cell ∨ scope.names.lookup y = some .free := hy
      rcases hy with hy | hy
      · exact absurd hy (cellN y)
      · exact ofFree hy
    · intro y c z _
      have z : false = true := z
      cases z
  · rfl
  · exact e0.bare
  · exact Un.kept kp
  · refine ⟨_, hns, fun i y v e1 e2 e3 => ?_⟩
    have e3 : Vis scope y := e3
    have e1 : X.N[i]? = some y := e1
    rcases e3 with k | k | k
    · exact absurd (List.mem_of_getElem? e1) (L.loc _ (PySem.mem_of_lookup k) rfl)
    · exact absurd k (cellN y)
    · obtain ⟨mm, hn, hl⟩ := I.loc
      have hvis : Vis X.env.scope y := (L.free _ (PySem.mem_of_lookup k) rfl).elim (fun k => .inr (.inl k)) (fun k => .inr (.inr k))
      obtain ⟨w', r, q⟩ := hl i y v e1 e2 hvis
      obtain ⟨c2, h2⟩ := ofFree k
      refine ⟨w', r, .inr ⟨.inr k, c2, h2, ?_⟩⟩
      have c1 := toX h2
      rcases q with ⟨k', _⟩ | ⟨_, c3, e', z⟩
      · have k' : X.env.scope.names.lookup y = some .local := k'
        rcases L.free _ (PySem.mem_of_lookup k) rfl with k2 | k2
        · rw [show X.env.scope.names.lookup y = _ from k2] at k'; cases k'
        · rw [show X.env.scope.names.lookup y = _ from k2] at k'; cases k'
      · rw [c1] at e'
        cases e'
        exact cellH (I.freeC y _ c1) z
  · intro y c e
    obtain ⟨w', z⟩ := I.cell y c (toX e)
    exact ⟨w', cellH (I.freeC y c (toX e)) z⟩
  · exact e0.hok.fresh (Nat.le_refl _)
  · intro y c e
    obtain ⟨v, o, ho, hdd⟩ := I.cell y c (toX e)
    exact un.free c o ho (I.freeC y c (toX e)) (by simp)
  · intro q hq
    exact absurd (show q ∈ ([] : List (Addr × Obj)) ++ [] from hq) (by simp)
  · exact e0.hok.kept kp
  · exact I.len
/-- what the parameters get -/
theorem lam_binds {params : Arguments} {ys : List Str} {body : Expr} {scope : Scope} {q : Str} {cl : List (Str × Addr)} {dV doc pm cv ctv : Value} {s1 : Shared} (hp : LPar params ys) (hd : (dV = .none ∧ params.defaults = []) ∨ ∃ (T : Addr) (v : Value), dV = .ref T ∧ params.defaults ≠ [] ∧ s1.heap.get? T = some (PySem.W.kdv_tup [v])) :
    ∃ binds : List (Str × Value), BindsTo s1 (PySem.W.kdv_fn "<lambda>" q params (.expr body) scope cl dV doc pm cv ctv) ⟨[], []⟩ binds ∧ ∀ y ∈ binds, y.1 ∈ ys := by
  cases hp with
  | zero =>
    rcases hd with ⟨rfl, _⟩ | ⟨T, v, _, z, _⟩
    · exact ⟨[], BindsTo.of_eq rfl, fun y hy => by cases hy⟩
    · exact absurd rfl z
  | @one y p q' i j hy =>
    rcases hd with ⟨_, z⟩ | ⟨T, v, rfl, _, hT⟩
    · cases z
    · refine ⟨[(y, v)], ?_, fun z hz => by simp at hz; subst hz; simp⟩
      rcases hy with rfl | rfl | rfl
      · exact BindsTo.of_defaults rfl hT rfl rfl (by kernel_rfl)
      · exact BindsTo.of_defaults rfl hT rfl rfl (by kernel_rfl)
      · exact BindsTo.of_defaults rfl hT rfl rfl (by kernel_rfl)
end
/-- x(), in the def that got the lambda: Z is that def's context, entered at s -/
theorem pe_actG {X : Cx} {pins : List (Addr × Obj)} {σ : L2.St} {H : Hp} {s : Shared} {CXg : CXT} {Eg : XK} {Ng ys : List Str} {qg : Str} {sg : Scope} {g f c' : Addr} {cdg : Value} {params : Arguments} {body : Expr} {scope : Scope} {k i : Nat} {a : Str} {pn : List (Addr × Obj)} {xe : Value → Shared → Prop} {W : WX} {E : XK} {tb : TE} {p1 p2 : Pos}
    (I : L2.Inv X pins σ H s) (L : LamQ X.N X.env.scope scope ys) (hp : LPar params ys) (F : LamAt X params body scope f c' H s) (hgd : X.A.guards = some [])
    (tk : Takes ((cxOf CXg X.prog X.w X.K X.mg X.base Ng qg sg g cdg X.A X.stack s H Eg).tr pn xe) W) (hW : ∀ cls d σ' H', E cls d H' → W cls d σ' H') (hr : Room (k + 1) (X.A.deeper (envOfC qg sg s.heap.objs.size g cdg)))
    (hbody : ∀ (A : Around) (outer : List Env) (s : Shared) (H : Hp), Room k (A.deeper (lamEnv X scope s.heap.objs.size f c')) → (A.deeper (lamEnv X scope s.heap.objs.size f c')).guards = some [] → PE (lamCx X A outer s H E scope f c') body tb)
    (hN : Ng[i]? = some a) (hv : Vis sg a) (hdb : (a == ("__debug__" : Str)) = false) (hcd : (a == ("__classdict__" : Str)) = false) :
    PE ((cxOf CXg X.prog X.w X.K X.mg X.base Ng qg sg g cdg X.A X.stack s H Eg).tr pn xe) (.Call (.Name a p1) [] [] p2)
      (fun σZ HZ Q => σZ[i]? = some (some (.ref f)) ∧ HZ c' = some (CodeO c' (X.env.qual ++ "<lambda>")) ∧ tb σ HZ Q) := by
  refine ⟨fun pinsZ sZ σZ HZ Q IZ h => ?_⟩
  obtain ⟨hs, hc, ht⟩ := h
  obtain ⟨⟨pm, ctv, doc, dV, of, hdv⟩, hfn, hfr, _⟩ := F
  refine wpAny_Call_Name_kw (thn ((pe_var (pos := p1) (i := i) hN hv hdb hcd).run pinsZ sZ σZ HZ (fun v H1 => v = .ref f ∧ H1 = HZ) IZ ⟨.ref f, hs, rfl, rfl⟩) fun u s1 ⟨v, H1, I1, r1, q1⟩ => ?_)
  obtain ⟨ev, eH⟩ := q1
  subst ev
  rw [eH] at I1
  obtain rfl : u = Value.ref f := r1
  have keep : ∀ b o, s.heap.get? b = some o → H b = none → b ∉ frs X.stack → s1.heap.get? b = some o := fun b o e n nf => I1.base.keep b o e n nf (fun z => nomatch (show b ∈ ([] : List Addr) from z))
  have of1 := keep f _ of hfn hfr
  refine PySem.W.callWith_F0 ⟨_, _, _, _, of1⟩ ?_
  have un : Un (frs X.stack) [] H HZ s.heap s1.heap := I1.base
  obtain ⟨⟨oc, vs, t, hoc, hdc, hvc⟩, _, _⟩ := I1.hok c' _ hc
  obtain ⟨binds, hb, hby⟩ := lam_binds (body := body) (scope := scope) (q := X.env.qual ++ "<lambda>") (cl := cloFrom X.env.cells scope.names []) (doc := doc) (pm := pm) (cv := .ref c') (ctv := ctv) (s1 := s1) hp (by
    rcases hdv with z | ⟨T, v, z1, z0, z2, z3, z4⟩
    · exact .inl z
    · exact .inr ⟨T, v, z1, z0, keep T _ z2 z3 z4⟩)
  have rc : codeAny (model X.prog X.w) (X.A.deeper (envOfC qg sg s.heap.objs.size g cdg)) (.call (.ref f) ⟨[], []⟩) (CR (L2.CX X.prog X.w) (envOfC qg sg s.heap.objs.size g cdg :: X.stack) X.prog X.w HZ s1 Q E) s1 := by
    refine PySem.W.kla_callFunE hr.depth of1 rfl L.co L.gen rfl ⟨c', oc, vs, t, rfl, hoc, hdc, hvc⟩ (hb _ _ _ _ ?_)
    refine wpAny_newFunctionEnv L.nc (fun y hy => L.par _ (hby y hy)) (fun h1 hns hsb => ⟨I1.nolimit.fresh _ hsb, ?_⟩) L.kind
    show codeAny _ _ (.expr body (lamEnv X scope s1.heap.objs.size f c')) _ _
    have kp : ∀ b o, s1.heap.get? b = some o → h1.get? b = some o := fun b o e => hsb.extBut b o (Nat.ne_of_lt (Heap.lt_size e)) (Heap.get?_push_of_some _ e)
    have J := lam_go (A := X.A.deeper (envOfC qg sg s.heap.objs.size g cdg)) (outer := envOfC qg sg s.heap.objs.size g cdg :: X.stack) (E := E) (f := f) (c' := c') (tk := s1.toks + binds.length) I rfl L I1.env0 hr.hd un hns kp
    refine PySem.W.kla_codeExpr (wpAny_mono ((hbody _ _ s1 HZ (hr.deeper _) (by rw [guards_deeper, guards_deeper]; exact hgd)).run [] _ _ HZ Q J ht) (fun v s' hq => ?_) fun e s' hq => hq)
    obtain ⟨w', H', J', rv, q⟩ := hq
    exact ⟨w', H', J'.os, J'.bare, J'.base, J'.hok, rv, q⟩
  have hx : Passes (L2.CX X.prog X.w) ((cxOf CXg X.prog X.w X.K X.mg X.base Ng qg sg g cdg X.A X.stack s H Eg).tr pn xe) E := passes_call tk hW
  refine wpAny_call (codeAny_mono rc fun r s' hq => ?_)
  rcases r with e | (u | _ | _ | _)
  · exact hx pinsZ σZ HZ s1 e s' I1 hq
  · exact False.elim hq
  · exact False.elim hq
  · exact False.elim hq
  · exact I1.after hq
end Bk

set_option Elab.async false
set_option linter.all false
set_option maxRecDepth 100000
set_option maxHeartbeats 4000000
set_option pp.maxSteps 800
/-! try .. except C as n, several of them. -/
namespace Bk
open PySem PySem.Spec PyProof.Rows L2
/-- what the clauses wish of an exception of the body: a clause's class, the slot of its name, its suite -/
def wAll (K : PySem.W.Frag) (Wout : WX) (D : Ends) : List (Value × Nat × (Addr → Value → Option Addr → TS)) → WX
  | [] => Wout
  | (c, i, ts) :: r => fun cls d σ H => ∃ b, PySem.W.exmOne K cls c = some b ∧
      (b = true → ∀ a, H a = none → ts a cls d { nx := fun σ' H' => D.nx (σ'.set i none) H', rt := D.rt, bk := fun σ' H' => D.bk (σ'.set i none) H', ct := fun σ' H' => D.ct (σ'.set i none) H' } (σ.set i (some (.ref a))) H) ∧
      (b = false → wAll K Wout D r cls d σ H)
inductive HdsAs (X : Cx) : List ExceptHandler → List (Value × Nat × (Addr → Value → Option Addr → TS)) → Prop where
  | nil : HdsAs X [] []
  | cons {x n : Str} {i : Nat} {c : Value} {ts : Addr → Value → Option Addr → TS} {b0 : Stmt} {suite : List Stmt} {np pos' : Pos} {hds : List ExceptHandler} {l : List (Value × Nat × (Addr → Value → Option Addr → TS))} (hc : Names X x c) (hi : X.N[i]? = some n) (hln : X.env.kindOf n = some .local)
      (hsu : ∀ (a : Addr) (oe : Obj) (cls : Value) (d : Option Addr) (pn : List (Addr × Obj)), Zc cls d oe → (∃ vs, oe.data = .fields vs) → PSs (X.suite a ((a, oe) :: pn)) (b0 :: suite) (ts a cls d)) (r : HdsAs X hds l) :
      HdsAs X (.ExceptHandler (some (.Name x np)) (some n) (b0 :: suite) pos' :: hds) ((c, i, ts) :: l)
section
variable {X : Cx} {body : List Stmt} {h0 : ExceptHandler} {hds : List ExceptHandler} {l : List (Value × Nat × (Addr → Value → Option Addr → TS))} {pos : Pos} {tb : WX → TS} {Wout : WX}
theorem ps_tryAs (hs : X.stack = X.env :: X.outer) (hf : X.env.frame = some X.env.locals) (hN : X.N.Nodup) (tk : Takes X Wout)
    (hb : ∀ (W : WX) (pn : List (Addr × Obj)) (xe : Value → Shared → Prop), Takes (X.tr pn xe) W → PassesOwn (model X.prog X.w) X.A X.env xe → PSs (X.tr pn xe) body (tb W))
    (hh : HdsAs X (h0 :: hds) l) : PS X (.Try body (h0 :: hds) [] [] pos) (fun D σ H => tb (wAll X.K Wout D l) D σ H) := by
  constructor
  intro pins s σ H D I h
  have ok := I.ok
  have hfr : X.A.frames = some (X.env :: X.outer) := by rw [ok.frames, hs]
  refine wpAny_Try_except ?_
  refine wpAny_mono ((hb (wAll X.K Wout D l) (X.pn ++ pins) _ ?tk PassesOwn.looking).run [] s σ H D (I.toTry _) h) (fun f s1 hsp => ?_) (fun e s1 he => he)
  case tk =>
    rintro u s' ⟨a, B, sI, pins', σ', H', cls, d, rfl, J', nb, up, sky, na, os, ag, w⟩
    have J : L2.Inv X pins σ' H' sI := J'.ofTry ok
    have sky' : Sky B (X.env :: X.outer) a (Zc cls d) X.env.locals s'.heap := by rw [← hs]; exact sky
    refine Sky.land Zc.steady hfr hf sky' fun h3 fl3 up3 => ?_
    have J3 : L2.Inv X pins σ' H' { s' with heap := h3 } := J.landed nb fl3.1 (up.trans up3) os ag
    obtain ⟨oe3, vs3, he3, hz3, hd3⟩ := fl3.there
    have nfr : a ∉ frs (X.env :: X.outer) := fun hm => by
      obtain ⟨_, o', e', hnf⟩ := fl3.2.2.1.mem hm
      rw [he3] at e'
      cases e'
      exact hnf _ hd3
    have nL : a ≠ X.env.locals := fun z => nfr (List.mem_filterMap.mpr ⟨X.env, List.mem_cons_self, by rw [hf, z]⟩)
    have nF : a ∉ X.fs := fun hm => by
      obtain ⟨e, he, q⟩ := List.mem_filterMap.mp hm
      exact nfr (List.mem_filterMap.mpr ⟨e, List.mem_cons_of_mem _ he, q⟩)
    have S3 := J3.suite he3 hd3 na nL nF
    have go : ∀ {hds' : List ExceptHandler} {l' : List (Value × Nat × (Addr → Value → Option Addr → TS))}, HdsAs X hds' l' → wAll X.K Wout D l' cls d σ' H' →
        wpAny (model X.prog X.w) X.A (handleBy (.ref a) X.env hds') (SP X pins D) X.xe { s' with heap := h3 } := by
      intro hds' l' hk
      induction hk with
      | nil =>
        intro w
        refine wpAny_handleBy_nil ?_
        obtain ⟨k1, k2, k3, oe, vs, T, oT, ts', he, hz, hd, h1, hr⟩ := id fl3
        have fin : wpAny (model X.prog X.w) X.A (setFlight (.ref a) X.env.frame) (fun _ s4 => wpAny (model X.prog X.w) X.A (throw (.ref a) : Sem Flow) (SP X pins D) X.xe s4) X.xe { s' with heap := h3 } := by
          rw [hf]
          refine HandSPX.setFlight_upZ fl3 fun h4 hh4 up4 => wpAny_throw (tk _ _ ?_)
          exact ⟨a, B, sI, pins, σ', H', cls, d, rfl, J, nb, (up.trans up3).trans up4, .inr (.inr (by rw [hs]; exact hh4)), na, os, ag, w⟩
        unfold PySem.passOn
        refine wpAny_bind (wpAny_field he hd h1 ?_)
        rw [if_neg (show ¬ ((Value.ref T == Value.none) = true) by simp)]
        first
          | exact wpAny_bind (wpAny_pure (wpAny_bind fin))
          | exact wpAny_bind fin
      | @cons x n i c ts b0 suite np pos' hds2 l2 hc hi hln hsu r ih =>
        rintro ⟨b, hb1, hyes, hno⟩
        refine wpAny_handleBy_cons (codeAny_handlers_test ?_) (by intro q; cases q)
        have LT : PySem.W.Looks (model X.prog X.w) h3 (typeOf (.ref a)) cls := fun A Q E s k q => wpAny_typeOf_ref (k _ _ he3) (by rw [hz3.1]; exact q)
        have LM := PySem.W.exm_one (M := model X.prog X.w) (J3.kIn) LT hb1
        have test : ∀ {Q : Value → Shared → Prop} {E : Value → Shared → Prop}, Q c { s' with heap := h3 } → wpAny (model X.prog X.w) (X.A.mark (some (.ref a))) (eval (.Name x np) X.env) Q E { s' with heap := h3 } := by
          intro Q E q
          obtain ⟨hg, hdbg, hm | ⟨hm, hv, hnn⟩⟩ := hc
          · exact ld_glob (X := X.suite a ((a, oe3) :: (X.pn ++ pins))) S3 hg hm q hdbg
          · exact ld_blt (X := X.suite a ((a, oe3) :: (X.pn ++ pins))) S3 hg hm hv q hnn hdbg
        refine test (LM.here ?_)
        cases b with
        | false => exact ih (hno rfl)
        | true =>
          refine codeAny_handlers_suite_as ?_
          refine HandSPX.lands_againZ fl3 fun h4 fl4 up4 => ?_
          have J4 : L2.Inv X pins σ' H' { s' with heap := h4 } := J.landed nb fl4.1 ((up.trans up3).trans up4) os ag
          obtain ⟨oe4, vs4, he4, hz4, hd4⟩ := fl4.there
          have S4 := J4.suite he4 hd4 na nL nF
          refine store_ok (X := X.suite a ((a, oe4) :: (X.pn ++ pins))) (v := .ref a) S4 hN hi (.inl hln) rfl (fun s5 S5 => ?_) (.inr hln)
          refine wpAny_mono ((hsu a oe4 cls d (X.pn ++ pins) hz4 ⟨_, hd4⟩).run [] s5 _ H' _ S5 (hyes rfl a na)) (fun f s6 hsp => ?_) (fun _ _ z => False.elim z)
          have end_ : ∀ {σ6 : L2.St} {H6 : Hp} {Q : Shared → Prop}, L2.Inv (X.suite a ((a, oe4) :: (X.pn ++ pins))) [] σ6 H6 s6 → (∀ s7, L2.Inv X pins (σ6.set i none) H6 s7 → Q s7) →
              wpAny (model X.prog X.w) X.A (do bindName X.env n .none; unbindBehindTheSuite X.env n pos') (fun _ s7 => Q s7) X.xe s6 := fun {σ6 H6 Q} S6 hq => gone_ok (S6.unsuite ok) hN hi hln hq
          rcases f with u | _ | _ | _
          · obtain ⟨σ6, H6, S6, q6⟩ := hsp
            exact end_ S6 fun s7 J7 => ⟨_, _, J7, q6⟩
          · obtain ⟨σ6, H6, S6, q6⟩ := hsp
            exact end_ S6 fun s7 J7 => ⟨_, _, J7, q6⟩
          · obtain ⟨σ6, H6, S6, q6⟩ := hsp
            exact end_ S6 fun s7 J7 => ⟨_, _, J7, q6⟩
          · obtain ⟨v6, σ6, H6, S6, r6, q6⟩ := hsp
            exact end_ S6 fun s7 J7 => ⟨_, _, _, J7, r6, q6⟩
    exact go hh w
  rcases f with u | _ | _ | _
  · obtain ⟨σ', H', J', q⟩ := hsp
    exact wpAny_execs_nil ⟨σ', H', J'.ofTry ok, q⟩
  · obtain ⟨σ', H', J', q⟩ := hsp
    exact ⟨σ', H', J'.ofTry ok, q⟩
  · obtain ⟨σ', H', J', q⟩ := hsp
    exact ⟨σ', H', J'.ofTry ok, q⟩
  · obtain ⟨v, σ', H', J', r, q⟩ := hsp
    exact ⟨v, σ', H', J'.ofTry ok, r, q⟩
end
end Bk

set_option Elab.async false
set_option linter.all false
set_option maxRecDepth 100000
set_option maxHeartbeats 4000000
set_option pp.maxSteps 800
/-! The def that calls what it got, and tells what comes of it: in a list, or the error's label with its fields. -/
namespace Bk
open PySem PySem.Spec PyProof.Rows L2 LamX
theorem pss_imp {X : Cx} {s : List Stmt} {t t' : TS} (h : PSs X s t') (i : ∀ D σ H, t D σ H → t' D σ H) : PSs X s t := ⟨fun pins s σ H D I q => h.run pins s σ H D I (i D σ H q)⟩
def Lk (fs : List (Str × V)) : List Str → List V → Prop
  | [], [] => True
  | n :: ns, v :: vs => fs.lookup n = some v ∧ Lk fs ns vs
  | _, _ => False
/-- e.f1, e.f2 .. -/
inductive FldE : List Expr → List Str → Prop where
  | nil : FldE [] []
  | cons {n : Str} {p q : Pos} {es : List Expr} {ns : List Str} : FldE es ns → FldE (.Attribute (.Name "e" p) n q :: es) (n :: ns)
structure ClsF (K : PySem.W.Frag) (C : Addr) (ns : List Str) : Prop where
  xf : XfC K C
  no : ∀ n ∈ ns, PySem.W.findIn K (.ref C) n = some none
def tFl (a : Addr) (cls : Value) (d : Option Addr) (C : Addr) (ns : List Str) : TA := fun σ H Q => σ[2]? = some (some (.ref a)) ∧ cls = .ref C ∧ ∃ (dd : Addr) (fs : List (Str × V)) (vs : List V), d = some dd ∧ H dd = some (.xd fs) ∧ Lk fs ns vs ∧ Q vs H
theorem pa_fl {X : Cx} {a C : Addr} {oe : Obj} {cls : Value} {d : Option Addr} {pn : List (Addr × Obj)} (hN : X.N[2]? = some ("e" : Str)) (hv : Vis X.env.scope "e") (hz : Zc cls d oe) (hf : ∃ vs, oe.data = .fields vs) (xf : XfC X.K C) : ∀ {es : List Expr} {ns : List Str}, FldE es ns → (∀ n ∈ ns, PySem.W.findIn X.K (.ref C) n = some none) → PA (X.suite a ((a, oe) :: pn)) es (tFl a cls d C ns) := by
  intro es ns h
  induction h with
  | nil =>
    intro _
    refine PA.imp pa_nil fun σ H Q ⟨_, _, dd, fs, vs, _, _, hl, q⟩ => ?_
    cases vs with
    | nil => exact q
    | cons _ _ => exact hl.elim
  | @cons n p q es ns t ih =>
    intro hno
    have h1 : PE (X.suite a ((a, oe) :: pn)) (.Attribute (.Name "e" p) n q) (tXf a cls d C n (tVar 2)) := pe_xf xf (hno n List.mem_cons_self) hz hf (pe_var (X := X.suite a ((a, oe) :: pn)) (i := 2) hN hv)
    refine PA.imp (pa_cons h1 (ih fun m hm => hno m (List.mem_cons_of_mem _ hm)) rfl) fun σ H Q ⟨e1, e2, dd, fs, vs, e3, e4, hl, hq⟩ => ?_
    cases vs with
    | nil => exact hl.elim
    | cons v vs => exact ⟨_, e1, rfl, e2, dd, fs, v, e3, e4, hl.1, e1, e2, dd, fs, vs, e3, e4, hl.2, hq⟩
/-- a clause: its class, its label -/
inductive HdL (Z : Cx) (xc : List (Nat × Addr × List Str)) : List ExceptHandler → List (Nat × Str) → Prop where
  | nil : HdL Z xc [] []
  | cons {c : Nat} {x cn : Str} {C : Addr} {ns : List Str} {np p1 p2 p3 p4 pos' : Pos} {j k : Nat} {es : List Expr} {hds : List ExceptHandler} {tb : List (Nat × Str)} (hc : Names Z cn (.ref C)) (hx : xc.lookup c = some (C, ns)) (he : FldE es ns) (hl : ns.length ≤ 50) (cf : ClsF Z.K C ns) (r : HdL Z xc hds tb) :
      HdL Z xc (.ExceptHandler (some (.Name cn np)) (some "e") [.Assign [.Name "_law_told_so" p1] (.Tuple (.Constant (.str x) j p2 :: es) k p3) p4] pos' :: hds) ((c, x) :: tb)
abbrev nSaid : List Str := ["_law_call", "_law_told_so", "e"]
def tClause (C : Addr) (x : Str) (ns : List Str) (a : Addr) (cls : Value) (d : Option Addr) : TS := fun D σ H => σ[2]? = some (some (.ref a)) ∧ cls = .ref C ∧ ∃ (dd : Addr) (fs : List (Str × V)) (vs : List V), d = some dd ∧ H dd = some (.xd fs) ∧ Lk fs ns vs ∧ ∀ p, H p = none → D.nx (σ.set 1 (some (.ref p))) (upd H p (.tup (.str x :: vs)))
theorem Lk.len {fs : List (Str × V)} : ∀ {ns : List Str} {vs : List V}, Lk fs ns vs → vs.length = ns.length
  | [], [], _ => rfl
  | [], _ :: _, h => h.elim
  | _ :: _, [], h => h.elim
  | n :: ns, v :: vs, h => by simp [Lk.len h.2]
/-- what is wished of an error -/
def Esaid (xc : List (Nat × Addr × List Str)) (tb : List (Nat × Str)) (Q : VK) : XK := fun cls dx H' => ∃ (c : Nat) (x : Str) (C : Addr) (ns : List Str) (d : Addr) (fs : List (Str × V)) (vs : List V),
  (c, x) ∈ tb ∧ xc.lookup c = some (C, ns) ∧ cls = .ref C ∧ dx = some d ∧ H' d = some (.xd fs) ∧ Lk fs ns vs ∧ ∀ p, H' p = none → Q (.ref p) (upd H' p (.tup (.str x :: vs)))
def TSaid (xc : List (Nat × Addr × List Str)) (tb : List (Nat × Str)) : (XK → Hp → VK → Prop) → Hp → VK → Prop := fun tl H Q =>
  ∀ p0, H p0 = none → tl (Esaid xc tb Q) (upd H p0 (.lst [])) fun v H' => ∀ p, H' p = none → Q (.ref p) (upd H' p (.lst [v]))
/-- as the library's GivesTo, where more may be concluded of what the lambda tells -/
def GivesM (X : Cx) (Ng : List Str) (x : Str) (sg : Scope) (g : Addr) (cdg : Value) (bg : List Stmt) (a : Str) (q : Str) (TT : (XK → Hp → VK → Prop) → Hp → VK → Prop) : Prop :=
  ∀ (f c' : Addr) (s : Shared) (H : Hp) (Q : VK) (tl : XK → Hp → VK → Prop), (∀ E H Q Q', (∀ v H', Q v H' → Q' v H') → tl E H Q → tl E H Q') →
    (∀ (W : WX) (pn : List (Addr × Obj)) (xe : Value → Shared → Prop) (E : XK) (p1 p2 : Pos), Takes ((cxOf C8.CX0 X.prog X.w X.K X.mg X.base Ng x sg g cdg X.A X.stack s H C8.E0).tr pn xe) W → (∀ cls d σ' H', E cls d H' → W cls d σ' H') →
      PE ((cxOf C8.CX0 X.prog X.w X.K X.mg X.base Ng x sg g cdg X.A X.stack s H C8.E0).tr pn xe) (.Call (.Name a p1) [] [] p2) (fun σZ HZ Q => σZ[0]? = some (some (.ref f)) ∧ HZ c' = some (CodeO c' q) ∧ tl E HZ Q)) →
    H c' = some (CodeO c' q) → TT tl H Q →
    ∃ t, PSs (cxOf C8.CX0 X.prog X.w X.K X.mg X.base Ng x sg g cdg X.A X.stack s H C8.E0).nox bg t ∧ t { nx := fun _ H' => Q .non H', rt := Q } (L2.start Ng [.ref f]) H
theorem takes_len {X : Cx} {W : WX} (t : Takes X W) : Takes X (fun cls d σ H => σ.length = X.N.length → W cls d σ H) := by
  rintro u s' ⟨a, B, sI, pins, σ, H, cls, d, e, I, nb, up, sky, na, os, ag, w⟩
  exact t u s' ⟨a, B, sI, pins, σ, H, cls, d, e, I, nb, up, sky, na, os, ag, w I.len⟩
section
variable {X : Cx}
/-- the clauses -/
theorem hds_as {Z : Cx} {xc : List (Nat × Addr × List Str)} (hN : Z.N = nSaid) (hnd : Z.N.Nodup) (ht : Z.env.scope.names.lookup ("_law_told_so" : Str) = some .local) (he : Z.env.scope.names.lookup ("e" : Str) = some .local) :
    ∀ {hds : List ExceptHandler} {tb : List (Nat × Str)}, HdL Z xc hds tb → ∃ l : List (Value × Nat × (Addr → Value → Option Addr → TS)), HdsAs Z hds l ∧
      ∀ (D : Ends) (Q : VK) (cls : Value) (d : Option Addr) (σ : L2.St) (H : Hp), σ.length = 3 → (∀ c c' C C' ns ns', xc.lookup c = some (C, ns) → xc.lookup c' = some (C', ns') → PySem.W.exmOne Z.K (.ref C) (.ref C') = some (decide (c = c'))) → (tb.map (·.1)).Nodup →
        (∀ (σ' : L2.St) (H' : Hp) (v : V), σ'[1]? = some (some v) → σ'.length = 3 → Q v H' → D.nx σ' H') → Esaid xc tb Q cls d H → wAll Z.K (fun _ _ _ _ => False) D l cls d σ H := by
  intro hds tb h
  induction h with
  | nil => exact ⟨[], .nil, fun D Q cls d σ H _ _ _ _ ⟨c, x, C, ns, dd, fs, vs, hm, _⟩ => by cases hm⟩
  | @cons c x cn C ns np p1 p2 p3 p4 pos' j k es hds tb hc hx hfe hl cf r ih =>
    obtain ⟨l, hl1, hl2⟩ := ih
    refine ⟨(.ref C, 2, tClause C x ns) :: l, .cons hc (by rw [hN]; rfl) he (fun a oe cls d pn hz hf => ?_) hl1, ?_⟩
    · have hv : Vis Z.env.scope "e" := .inl he
      have pa := pa_fl (X := Z) (a := a) (pn := pn) (by rw [hN]; rfl) hv hz hf cf.xf hfe cf.no
      have pt : PE (Z.suite a ((a, oe) :: pn)) (.Tuple (.Constant (.str x) j p2 :: es) k p3) _ := pe_tup (pa_cons (pe_str (X := Z.suite a ((a, oe) :: pn))) pa rfl)
      refine pss_imp (pss_one (ps_set (X := Z.suite a ((a, oe) :: pn)) (i := 1) hnd (by show Z.N[1]? = _; rw [hN]; rfl) (.inl ht) pt rfl (.inr ht))) fun D σ H ⟨e1, e2, dd, fs, vs, e3, e4, lk, q⟩ => ?_
      exact ⟨e1, e2, dd, fs, vs, e3, e4, lk, by rw [List.length_cons, lk.len, sizeLine_eq]; omega, fun p hp => q p hp⟩
    · intro D Q cls d σ H sl ex nd hD hE
      obtain ⟨c', x', C', ns', dd, fs, vs, hm, hx', hcls, hd, hH, lk, q⟩ := hE
      subst hcls
      refine ⟨decide (c' = c), ex c' c C' C ns' ns hx' hx, fun hb a ha => ?_, fun hb => ?_⟩
      · have hcc : c' = c := of_decide_eq_true hb
        subst hcc
        have hxx : x' = x := by
          rcases List.mem_cons.mp hm with e | e
          · cases e; rfl
          · rw [List.map_cons, List.nodup_cons] at nd
            exact absurd (List.mem_map.mpr ⟨_, e, rfl⟩) nd.1
        subst hxx
        rw [hx] at hx'
        cases hx'
        refine ⟨by simp [sl], rfl, dd, fs, vs, hd, hH, lk, fun p hp => ?_⟩
        refine hD _ _ (.ref p) (by simp [sl]) (by simp [sl]) (q p hp)
      · have hcc : c' ≠ c := of_decide_eq_false hb
        rw [List.map_cons, List.nodup_cons] at nd
        refine hl2 D Q (.ref C') d σ H sl ex nd.2 hD ⟨c', x', C', ns', dd, fs, vs, ?_, hx', rfl, hd, hH, lk, q⟩
        rcases List.mem_cons.mp hm with e | e
        · cases e; exact absurd rfl hcc
        · exact e
theorem said_gives {xc : List (Nat × Addr × List Str)} {tb : List (Nat × Str)} {x q : Str} {sg : Scope} {g : Addr} {cdg : Value} {h0 : ExceptHandler} {hds : List ExceptHandler} {p1 p2 p3 p4 p5 p6 p7 p8 p9 p10 p11 p12 : Pos}
    (S : FnScope nSaid ["_law_call"] sg) (hca : Vis sg "_law_call") (ht : sg.names.lookup ("_law_told_so" : Str) = some .local) (he : sg.names.lookup ("e" : Str) = some .local)
    (hh : ∀ (s : Shared) (H : Hp), HdL (cxOf C8.CX0 X.prog X.w X.K X.mg X.base nSaid x sg g cdg X.A X.stack s H C8.E0).nox xc (h0 :: hds) tb)
    (ex : ∀ c c' C C' ns ns', xc.lookup c = some (C, ns) → xc.lookup c' = some (C', ns') → PySem.W.exmOne X.K (.ref C) (.ref C') = some (decide (c = c'))) (nd : (tb.map (·.1)).Nodup) :
    GivesM X nSaid x sg g cdg [.Assign [.Name "_law_told_so" p1] (.List [] p2) p3, .Try [.Assign [.Name "_law_told_so" p4] (.List [.Call (.Name "_law_call" p5) [] [] p6] p7) p8] (h0 :: hds) [] [] p9, .Return (some (.Name "_law_told_so" p10)) p11] "_law_call" q (TSaid xc tb) := by
  intro f c' s H Q tl mono act hc h
  obtain ⟨l, hl1, hl2⟩ := hds_as (Z := (cxOf C8.CX0 X.prog X.w X.K X.mg X.base nSaid x sg g cdg X.A X.stack s H C8.E0).nox) rfl S.nd ht he (hh s H)
  have vt : Vis sg "_law_told_so" := .inl ht
  refine ⟨_, pss_cons (ps_set (X := (cxOf C8.CX0 X.prog X.w X.K X.mg X.base nSaid x sg g cdg X.A X.stack s H C8.E0).nox) (i := 1) S.nd rfl (.inl ht) (pe_lst pa_nil) rfl (.inr ht))
    (pss_cons (ps_tryAs (X := (cxOf C8.CX0 X.prog X.w X.K X.mg X.base nSaid x sg g cdg X.A X.stack s H C8.E0).nox) (l := l) (Wout := fun _ _ _ _ => False)
      (tb := fun W D σ H => ∃ Ech : XK, (∀ cls d σ' H', σ'.length = 3 → Ech cls d H' → W cls d σ' H') ∧ σ[0]? = some (some (.ref f)) ∧ H c' = some (CodeO c' q) ∧ tl Ech H fun v H' => ∀ p, H' p = none → D.nx (σ.set 1 (some (.ref p))) (upd H' p (.lst [v])))
      rfl rfl S.nd takes0 (fun W pn xe tk _ => ?_) hl1)
    (pss_one (ps_ret (pe_var (X := (cxOf C8.CX0 X.prog X.w X.K X.mg X.base nSaid x sg g cdg X.A X.stack s H C8.E0).nox) (i := 1) rfl vt)))), ?_⟩
  · refine ⟨fun pins s' σ H' D I h' => ?_⟩
    obtain ⟨Ech, hW, h1, h2, h3⟩ := h'
    have hp := act _ pn xe Ech p5 p6 (takes_len tk) fun cls d σ' H' hE hl => hW cls d σ' H' hl hE
    refine (pss_one (ps_set (X := (cxOf C8.CX0 X.prog X.w X.K X.mg X.base nSaid x sg g cdg X.A X.stack s H C8.E0).tr pn xe) (i := 1) (pos := p8) (pos' := p4) S.nd rfl (.inl ht) (pe_lst (pos := p7) (pa_cons hp pa_nil rfl)) rfl (.inr ht))).run pins s' σ H' D I ?_
    refine ⟨h1, h2, mono _ _ _ _ (fun v H1 q1 => ?_) h3⟩
    exact ⟨by rw [sizeLine_eq]; simp, fun p hp => q1 p hp⟩
  · refine ⟨by rw [sizeLine_eq]; simp, fun p0 hp0 => ?_⟩
    have hcp : upd H p0 (.lst []) c' = some (CodeO c' q) := by rw [upd_ne (ne_of_none hc hp0)]; exact hc
    refine ⟨Esaid xc tb Q, fun cls d σ' H' sl hE => hl2 _ Q cls d σ' H' sl ex nd (fun σ2 H2 v e1 _ q2 => ⟨v, e1, q2⟩) hE, rfl, hcp, mono _ _ _ _ (fun v H1 q1 p hp => ?_) (h p0 hp0)⟩
    exact ⟨.ref p, rfl, q1 p hp⟩
end
def tLamG (T : List (Addr × Str)) (TT : (XK → Hp → VK → Prop) → Hp → VK → Prop) (t : XK → TE) : TE := fun σ H Q => Tabs T H ∧ ∀ H1, ExtN H H1 → TIn H H1 → Tabs T H1 → TT (fun E H' Q' => t E σ H' Q') H1 Q
/-- x(lambda: body) -/
theorem pe_lamG {X : Cx} {T : List (Addr × Str)} {TT : (XK → Hp → VK → Prop) → Hp → VK → Prop} {x a : Str} {g c P : Addr} {k : Nat} {pg : Arguments} {bg : List Stmt} {sg : Scope} {dV kV doc pm cdv ct oc : Value} {an od : Option Addr} {osl : Array (Option Value)} {Ng ys : List Str}
    {params : Arguments} {body : Expr} {scope : Scope} {t : XK → TE} {p lpos pos : Pos} (hg : Gl X x) (hm : X.mg x = some (.ref g)) (hk : PySem.W.keepIn X.K (.ref g) = true)
    (lk : X.K.lookup g = some ⟨oc, od, .func (PySem.W.fnOf x x pg bg sg dV kV doc pm an cdv ct), osl⟩) (hcg : PySem.W.codeIn X.K cdv x = true) (hb : L2.Binds X.K (PySem.W.fnOf x x pg bg sg dV kV doc pm an cdv ct) [a] []) (Sg : FnScope Ng [a] sg) (hNg : Ng[0]? = some a) (hva : Vis sg a)
    (hG : GivesM X Ng x sg g cdv bg a (X.env.qual ++ "<lambda>") TT)
    (TB : TabB X.base X.mg c P) (hcode : X.env.code = .ref c) (hmT : (P, X.env.qual ++ "<lambda>") ∈ T) (hu : ∀ p ∈ T, p.1 = P → p.2 = X.env.qual ++ "<lambda>") (hr : Room (k + 2) X.A) (hgd : X.A.guards = some []) (L : LamQ X.N X.env.scope scope ys) (hp : LPar params ys)
    (mono : ∀ E σ H Q Q', (∀ v H', Q v H' → Q' v H') → t E σ H Q → t E σ H Q')
    (hbody : ∀ (A : Around) (outer : List Env) (s : Shared) (H : Hp) (E : XK) (f c' : Addr), Room k (A.deeper (lamEnv X scope s.heap.objs.size f c')) → (A.deeper (lamEnv X scope s.heap.objs.size f c')).guards = some [] → PE (lamCx X A outer s H E scope f c') body (t E))
    (hdb : (x == ("__debug__" : Str)) = false) (hd : (a == ("__debug__" : Str)) = false) (hcd : (a == ("__classdict__" : Str)) = false) :
    PE X (.Call (.Name x p) [.Lambda params body scope lpos] [] pos) (tLamG T TT t) := by
  constructor
  rintro pins s σ H Q I ⟨hT, h⟩
  refine wpAny_Call_Name_kw (ld_glob I hg hm ?_ hdb)
  refine PySem.W.callWith_K (h₀ := X.base) I.ok.mod.kin hk ?_ (by rfl) (by rfl)
  show wpAny _ _ (spliced ((false, eval (.Lambda params body scope lpos) X.env) :: [])) _ _ s
  refine Calls.spliced_cons (lam_mk I TB hcode hmT hu hT hp (L.has I.ok) fun f c' H1 s' I1 eN tI T1 F => ?_)
  refine Calls.spliced_nil ⟨I1.kIn, ?_⟩
  have rc : codeAny (model X.prog X.w) X.A (.call (.ref g) ⟨[.ref f], []⟩) (CR C8.CX0 X.stack X.prog X.w H1 s' Q C8.E0) s' := by
    refine run_ofS (N := Ng) (ps := [a]) (us := [.ref f]) (vs := [.ref f]) lk hcg Sg hr I1.env0 (hb s' [.ref f] I1.kIn rfl) (.cons rfl .nil) rfl fun hr' => ?_
    obtain ⟨t', ht', hq'⟩ := hG f c' s' H1 Q (fun E H' Q' => t E σ H' Q') (fun E H Q Q' hQ => mono E σ H Q Q' hQ) (fun W pn xe E p1 p2 tk hW => pe_actG (i := 0) I1 L hp F hgd tk hW hr' (fun A outer s H hr2 hg2 => hbody A outer s H E f c' hr2 hg2) hNg hva hd hcd) F.code (h H1 eN tI T1)
    exact ⟨t', ht'.nox, hq'⟩
  refine wpAny_call (codeAny_mono rc fun r s2 hq => ?_)
  rcases r with e | (_ | _ | _ | u)
  · exact (show False from hq).elim
  · exact False.elim hq
  · exact False.elim hq
  · exact False.elim hq
  · exact I1.after hq
end Bk

set_option Elab.async false
set_option linter.all false
set_option maxRecDepth 100000
set_option maxHeartbeats 1000000
/-! The text held against the compact language. -/
namespace Bk
open PySem L2
structure Cxt where
  N : List Str
  sc : Scope
  fn : Str → Bool
  /-- lambdas may be made here -/
  lam : Bool
structure PrN where
  cs : List (Nat × Str)
  ds : List (Nat × Str)
  /-- classes of exceptions: names, fields -/
  xs : List (Nat × Str × List Str)
  /-- defs that tell what comes of a call: names, labels by classes -/
  sd : List (Nat × Str × List (Nat × Str))
def visB (sc : Scope) (x : Str) : Bool := match sc.names.lookup x with
  | some .local => true
  | some .cell => true
  | some .free => true
  | _ => false
def glB (sc : Scope) (x : Str) : Bool := match sc.names.lookup x with
  | some .globalImplicit => true
  | _ => false
def locB (c : Cxt) (x : Str) : Bool := match c.sc.names.lookup x with
  | some .local => true
  | some .cell => c.fn x
  | _ => false
def okN (x : Str) : Bool := !(x == ("__debug__" : Str)) && !(x == ("__classdict__" : Str)) && !(x == ("__name__" : Str))
def nSt : Expr → Bool
  | .Starred .. => false
  | _ => true
def nSet : Expr → Bool
  | .Set .. => false
  | _ => true
def nSli : Expr → Bool
  | .Slice .. => false
  | _ => true
def opB : Op → Operator → Bool
  | .add, .Add => true
  | .sub, .Sub => true
  | .mul, .Mult => true
  | .div, .FloorDiv => true
  | .mod, .Mod => true
  | .pow, .Pow => true
  | _, _ => false
def cmB : Cm → CmpOp → Bool
  | .eq, .Eq => true
  | .ne, .NotEq => true
  | .lt, .Lt => true
  | .le, .LtE => true
  | .gt, .Gt => true
  | .ge, .GtE => true
  | .isin, .In => true
  | .notin, .NotIn => true
  | .isN, .Is => true
  | .notN, .IsNot => true
  | _, _ => false
def cstB : Const → D → Bool
  | .none, .non => true
  | .bool b, .bl b' => b == b'
  | .int i, .int i' => decide (i = i')
  | .str x, .str x' => decide (x = x')
  | _, _ => false
def biN : Bi → Str
  | .len => "len"
  | .all => "all"
  | .any => "any"
  | .sum => "sum"
  | .min => "min"
  | .max => "max"
  | .min2 => "min"
  | .max2 => "max"
  | .sorted => "sorted"
  | .tuple => "tuple"
  | .list => "list"
  | .int => "int"
  | .repr => "repr"
  | .maxd => "max"
  | .mind => "min"
  | .sortd => "sorted"
def tyB (c : Cxt) : Expr → Ty → Bool
  | .Name y _, t => decide (y = Str.ofString (tyN t)) && glB c.sc y
  | _, _ => false
def ownOf (c : Cxt) (t : T) : List (Str × Nat) := t.vars.map fun i => (c.N.getD i "", i)
def blkCtx (c : Cxt) (scope : Scope) : Cxt := ⟨c.N, relS scope c.sc, fun x => scope.names.lookup x == some .cell, false⟩
def lamCtx (c : Cxt) (scope : Scope) : Cxt := ⟨c.N, scope, fun _ => false, false⟩
def lamYs : Arguments → Option (List Str)
  | ⟨[], [], none, [], [], none, []⟩ => some []
  | ⟨[], [⟨y, none, _⟩], none, [], [], none, [.Constant (.int _) _ _]⟩ => if y = "_law_y" ∨ y = "_law_x" ∨ y = "_law_k" then some [y] else none
  | _ => none
theorem lamYs_ok {a : Arguments} {ys : List Str} (h : lamYs a = some ys) : LPar a ys := by
  unfold lamYs at h
  split at h
  · cases h; exact .zero
  · split at h
    · cases h; exact .one (by assumption)
    · cases h
  · cases h
def lamQB (N : List Str) (sc scope : Scope) (ys : List Str) : Bool := decide (scope.kind = .function) && !scope.isCoroutine && !scope.isGenerator && (ys.all fun y => decide (scope.names.lookup y = some .local)) &&
  scope.names.all fun z => !decide (z.2 = .cell) && (!decide (z.2 = .local) || !decide (z.1 ∈ N)) && (!decide (z.2 = .free) || decide (sc.names.lookup z.1 = some .cell) || decide (sc.names.lookup z.1 = some .free))
theorem lamQ_ok {N : List Str} {sc scope : Scope} {ys : List Str} (h : lamQB N sc scope ys = true) : LamQ N sc scope ys := by
  unfold lamQB at h
  simp only [Bool.and_eq_true, Bool.or_eq_true, Bool.not_eq_true', decide_eq_true_eq, decide_eq_false_iff_not, List.all_eq_true] at h
  obtain ⟨⟨⟨⟨h1, h2⟩, h3⟩, h4⟩, h5⟩ := h
  refine ⟨h1, h2, h3, fun z hz => (h5 z hz).1.1, fun z hz e => ?_, h4, fun z hz e => ?_⟩
  · rcases (h5 z hz).1.2 with q | q
    · exact absurd e q
    · exact q
  · rcases (h5 z hz).2 with (q | q) | q
    · exact absurd e q
    · exact .inl q
    · exact .inr q
mutual
def chkT : Nat → Cxt → Expr → T → Bool
  | 0, _, _, _ => false
  | n + 1, c, e, t => match t with
    | .var i => (match e with
      | .Name x _ => decide (c.N[i]? = some x) && locB c x
      | _ => false)
    | .tup ts => (match e with
      | .Tuple es _ _ => chkTs n c es ts
      | _ => false)
def chkTs : Nat → Cxt → List Expr → List T → Bool
  | 0, _, _, _ => false
  | _ + 1, _, [], [] => true
  | n + 1, c, e :: es, t :: ts => nSt e && chkT n c e t && chkTs n c es ts
  | _ + 1, _, _, _ => false
end
def one? : Expr → Option Expr
  | .BoolOp _ [x] _ => some x
  | _ => none
mutual
def chkE : Nat → PrN → Cxt → Expr → E → Bool
  | 0, _, _, _, _ => false
  | n + 1, pn, c, e, E => match one? e with
    | some x => chkE n pn c x E
    | none => match E with
      | .cst d => (match e with
        | .Constant k _ _ => cstB k d
        | _ => false)
      | .var i => (match e with
        | .Name x _ => decide (c.N[i]? = some x) && visB c.sc x
        | _ => false)
      | .glb i => (match e with
        | .Name x _ => decide (pn.cs.lookup i = some x) && glB c.sc x
        | _ => false)
      | .bin o a' b' => (match e with
        | .BinOp a op b _ => opB o op && chkE n pn c a a' && chkE n pn c b b'
        | _ => false)
      | .neg a' => (match e with
        | .UnaryOp .USub a _ => chkE n pn c a a'
        | _ => false)
      | .cmp o a' b' => (match e with
        | .Compare a [op] [b] _ => cmB o op && chkE n pn c a a' && chkE n pn c b b' && nSet b
        | _ => false)
      | .chn o o' a' b' d' => (match e with
        | .Compare a [op, op'] [b, d] _ => cmB o op && cmB o' op' && chkE n pn c a a' && chkE n pn c b b' && chkE n pn c d d' && nSet d
        | _ => false)
      | .and a b => (match e with
        | .BoolOp .And (x :: y :: r) pos => chkE n pn c x a && chkE n pn c (.BoolOp .And (y :: r) pos) b
        | _ => false)
      | .or a b => (match e with
        | .BoolOp .Or (x :: y :: r) pos => chkE n pn c x a && chkE n pn c (.BoolOp .Or (y :: r) pos) b
        | _ => false)
      | .not a' => (match e with
        | .UnaryOp .Not a _ => chkE n pn c a a'
        | _ => false)
      | .ife t' a' b' => (match e with
        | .IfExp t a b _ => chkE n pn c t t' && chkE n pn c a a' && chkE n pn c b b'
        | _ => false)
      | .tup as => (match e with
        | .Tuple es _ _ => chkA n pn c es as && decide (es.length ≤ 1000)
        | _ => false)
      | .lst as => (match e with
        | .List es _ => chkA n pn c es as && decide (es.length ≤ 1000)
        | _ => false)
      | .sl a' lo' hi' => (match e with
        | .Subscript a (.Slice lo hi none _) _ => chkE n pn c a a' && chkO n pn c lo lo' && chkO n pn c hi hi'
        | _ => false)
      | .idx a' b' => (match e with
        | .Subscript a b _ => chkE n pn c a a' && chkE n pn c b b' && nSli b
        | _ => false)
      | .lc elt' t it cond => (match e with
        | .ListComp elt [⟨tg, iter, ifs, z⟩] scope _ => decide (z = 0) && blkC c.N c.sc scope (ownOf c t) && nSet iter && chkT n (blkCtx c scope) tg t && chkI n pn c tg iter it &&
          (match ifs, cond with
            | [], none => true
            | [q], some q' => chkE n pn (blkCtx c scope) q q'
            | _, _ => false) && chkE n pn (blkCtx c scope) elt elt'
        | _ => false)
      | .call f as => (match e with
        | .Call (.Name x _) es [] _ => decide (pn.ds.lookup f = some x) && glB c.sc x && chkA n pn c es as
        | _ => false)
      | .bi b as => (match e with
        | .Call (.Name x _) es [] _ => decide (x = biN b) && glB c.sc x && chkA n pn c es as && !es.isEmpty
        | _ => false)
      | .isi a' ts => (match e with
        | .Call (.Name x _) [a, b] [] _ => decide (x = ("isinstance" : Str)) && glB c.sc x && chkE n pn c a a' && nSt a && (match ts with
          | [t] => tyB c b t
          | [t, u] => (match b with
            | .Tuple [b1, b2] _ _ => tyB c b1 t && tyB c b2 u
            | _ => false)
          | _ => false)
        | _ => false)
      | .cat a' b' => (match e with
        | .BinOp a .Add b _ => chkE n pn c a a' && chkE n pn c b b'
        | _ => false)
      | .rev a' => (match e with
        | .Subscript a (.Slice none none (some (.UnaryOp .USub (.Constant (.int i) _ _) _)) _) _ => decide (i = 1) && chkE n pn c a a'
        | _ => false)
      | .idxO i b' => (match e with
        | .Subscript (.Name x _) b _ => decide (c.N[i]? = some x) && visB c.sc x && chkE n pn c b b' && nSli b
        | _ => false)
      | .emO neg i => (match e with
        | .Compare (.Name x _) [op] [.List [] _] _ => (match neg, op with
          | true, .NotEq => true
          | false, .Eq => true
          | _, _ => false) && decide (c.N[i]? = some x) && visB c.sc x
        | _ => false)
      | .dnil => (match e with
        | .Dict [] [] _ => true
        | _ => false)
      | .done k' v' => (match e with
        | .Dict [some k] [v] _ => chkE n pn c k k' && chkE n pn c v v'
        | _ => false)
      | .inO neg a' i => (match e with
        | .Compare a [op] [.Name x _] _ => (match neg, op with
          | true, .NotIn => true
          | false, .In => true
          | _, _ => false) && chkE n pn c a a' && decide (c.N[i]? = some x) && visB c.sc x
        | _ => false)
      | .lrng1 a' => (match e with
        | .Call (.Name f _) [.Call (.Name r _) [a] [] _] [] _ => decide (f = ("list" : Str)) && glB c.sc f && decide (r = ("range" : Str)) && glB c.sc r && chkE n pn c a a' && nSt a
        | _ => false)
      | .lrng2 a' b' => (match e with
        | .Call (.Name f _) [.Call (.Name r _) [a, b] [] _] [] _ => decide (f = ("list" : Str)) && glB c.sc f && decide (r = ("range" : Str)) && glB c.sc r && chkE n pn c a a' && nSt a && chkE n pn c b b' && nSt b
        | _ => false)
      | .lenO i => (match e with
        | .Call (.Name f _) [.Name x _] [] _ => decide (f = ("len" : Str)) && glB c.sc f && decide (c.N[i]? = some x) && visB c.sc x
        | _ => false)
      | .tupS as => (match e with
        | .Tuple es _ _ => chkAS n pn c es as
        | _ => false)
      | .lstS as => (match e with
        | .List es _ => chkAS n pn c es as
        | _ => false)
      | .said v tb e' => (match e with
        | .Call (.Name x _) [.Lambda params body scope _] [] _ => c.lam && decide (pn.sd.lookup v = some (x, tb)) && glB c.sc x && (match lamYs params with
          | some ys => lamQB c.N c.sc scope ys
          | none => false) && chkE n pn (lamCtx c scope) body e'
        | _ => false)
      | .draw a' b' => (match e with
        | .Call (.Name x _) [a, b] [] _ => decide (x = ("_law_draw" : Str)) && glB c.sc x && chkE n pn c a a' && chkE n pn c b b' && nSt a && nSt b
        | _ => false)
def chkO : Nat → PrN → Cxt → Option Expr → Option E → Bool
  | 0, _, _, _, _ => false
  | _ + 1, _, _, none, none => true
  | n + 1, pn, c, some e, some e' => chkE n pn c e e'
  | _ + 1, _, _, _, _ => false
def chkA : Nat → PrN → Cxt → List Expr → A → Bool
  | 0, _, _, _, _ => false
  | _ + 1, _, _, [], .nil => true
  | n + 1, pn, c, e :: es, .cons e' as => nSt e && chkE n pn c e e' && chkA n pn c es as
  | _ + 1, _, _, _, _ => false
def chkAS : Nat → PrN → Cxt → List Expr → A → Bool
  | 0, _, _, _, _ => false
  | _ + 1, _, _, [], .nil => true
  | n + 1, pn, c, e :: es, .cons e' as => nSt e && chkE n pn c e e' && chkAS n pn c es as
  | n + 1, pn, c, .Starred e _ :: es, .star e' as => chkE n pn c e e' && chkAS n pn c es as
  | _ + 1, _, _, _, _ => false
def chkI : Nat → PrN → Cxt → Expr → Expr → I → Bool
  | 0, _, _, _, _, _ => false
  | n + 1, pn, c, tg, e, i => match i with
    | .seq e' => chkE n pn c e e'
    | .rng1 a' => (match e with
      | .Call (.Name x _) [a] [] _ => decide (x = ("range" : Str)) && glB c.sc x && chkE n pn c a a' && nSt a
      | _ => false)
    | .rng2 a' b' => (match e with
      | .Call (.Name x _) [a, b] [] _ => decide (x = ("range" : Str)) && glB c.sc x && chkE n pn c a a' && chkE n pn c b b' && nSt a && nSt b
      | _ => false)
    | .zip a' b' => (match tg, e with
      | .Tuple _ _ _, .Call (.Name x _) [a, b] [] _ => decide (x = ("zip" : Str)) && glB c.sc x && chkE n pn c a a' && chkE n pn c b b' && nSt a && nSt b
      | _, _ => false)
    | .enum a' => (match tg, e with
      | .Tuple _ _ _, .Call (.Name x _) [a] [] _ => decide (x = ("enumerate" : Str)) && glB c.sc x && chkE n pn c a a' && nSt a
      | _, _ => false)
end
end Bk

set_option Elab.async false
set_option linter.all false
set_option maxRecDepth 100000
set_option maxHeartbeats 2000000
/-! The evaluator is sound: expressions. -/
namespace Bk
open PySem L2
open Evl (Ex ex_l ex_t)
theorem vis_of {sc : Scope} {x : Str} (h : visB sc x = true) : Vis sc x := by
  unfold visB at h
  split at h
  · exact .inl (by assumption)
  · exact .inr (.inl (by assumption))
  · exact .inr (.inr (by assumption))
  · cases h
theorem gl_of {sc : Scope} {x : Str} (h : glB sc x = true) : sc.names.lookup x = some .globalImplicit := by
  unfold glB at h
  split at h
  · assumption
  · cases h
theorem star_of {e : Expr} (h : nSt e = true) (es : List Expr) (env : Env) : starEach (e :: es) env = (false, eval e env) :: starEach es env := by
  cases e <;> first | rfl | cases h
def nSts : List Expr → Bool
  | [] => true
  | e :: es => nSt e && nSts es
theorem back_of (pos : Pos) (env : Env) : ∀ {es : List Expr}, nSts es = true → (backTo pos (starEach es env)).any (·.1) = false
  | [], _ => rfl
  | e :: es, h => by
    simp only [nSts, Bool.and_eq_true] at h
    rw [star_of h.1]
    show (false || (backTo pos (starEach es env)).any (·.1)) = false
    rw [back_of pos env h.2]
    rfl
theorem set_of {e : Expr} (h : nSet e = true) (env : Env) (x : Value) : foldedSetIterable e env x = pure x := by
  cases e <;> first | rfl | cases h
theorem marks_of {e : Expr} (h : nSet e = true) (op : CmpOp) : behindInMarks op e = false := by
  cases e <;> first | rfl | cases h
theorem ix_of {e : Expr} (h : nSli e = true) : PlainIx e := by
  intro o i
  cases e <;> first | rfl | cases h
theorem op_of {o : Op} {op : Operator} (h : opB o op = true) : op = opOf o := by
  cases o <;> cases op <;> first | rfl | cases h
theorem cm_of {o : Cm} {op : CmpOp} (h : cmB o op = true) : op = cmOf o := by
  cases o <;> cases op <;> first | rfl | cases h
def bNames : List Str := ["len", "all", "any", "sum", "min", "max", "sorted", "tuple", "list", "int", "repr", "isinstance", "range", "zip", "enumerate", "bool", "str"]
/-- how deep a call of level k may go -/
abbrev ix (k : Nat) : Nat := 4 * k + 2
/-- the def x is one that tells what comes of a call -/
structure SaidOk (P : Program) (w : World) (K : PySem.W.Frag) (mg : Str → Option Value) (base : Heap) (xc : List (Nat × Addr × List Str)) (x : Str) (tb : List (Nat × Str)) : Prop where
  ex : ∃ (g : Addr) (pg : Arguments) (bg : List Stmt) (sg : Scope) (dV kV doc pm cdv ct oc : Value) (an od : Option Addr) (osl : Array (Option Value)) (a : Str) (Ng : List Str), mg x = some (.ref g) ∧ PySem.W.keepIn K (.ref g) = true ∧
    K.lookup g = some ⟨oc, od, .func (PySem.W.fnOf x x pg bg sg dV kV doc pm an cdv ct), osl⟩ ∧ PySem.W.codeIn K cdv x = true ∧ L2.Binds K (PySem.W.fnOf x x pg bg sg dV kV doc pm an cdv ct) [a] [] ∧ FnScope Ng [a] sg ∧ Ng[0]? = some a ∧ Vis sg a ∧ okN a = true ∧ okN x = true ∧
    ∀ X : Cx, X.prog = P → X.w = w → X.K = K → X.mg = mg → X.base = base → GivesM X Ng x sg g cdv bg a (X.env.qual ++ "<lambda>") (TSaid xc tb)
/-- lambdas may be made -/
structure LamC (W : Wd) (pn : PrN) (k : Nat) (X : Cx) : Prop where
  room : Room (4 * k + 5) X.A
  ex : ∃ c0 P, X.env.code = .ref c0 ∧ LamX.TabB X.base X.mg c0 P ∧ (P, X.env.qual ++ "<lambda>") ∈ W.tb ∧ ∀ p ∈ W.tb, p.1 = P → p.2 = X.env.qual ++ "<lambda>"
  sd : ∀ v x tb, pn.sd.lookup v = some (x, tb) → SaidOk X.prog X.w X.K X.mg X.base W.xc x tb
structure Ok (CX : CXT) (W : Wd) (pn : PrN) (p : Pr) (k : Nat) (c : Cxt) (Ew : XK) (X : Cx) : Prop where
  N : X.N = c.N
  sc : X.env.scope = c.sc
  fn : X.fn = c.fn
  nd : X.N.Nodup
  nm : ∀ x ∈ X.N, okN x = true
  calm : X.calm = true
  room : Room (ix k) X.A
  gd : X.A.guards = some []
  pass : Passes CX X Ew
  own : PassesOwn (model X.prog X.w) X.A X.env X.xe
  cxf : ∀ outer H s e s', CX outer H s E0 e s' → False
  cs : ∀ (i : Nat) (d : D) (x : Str), p.cs.lookup i = some d → pn.cs.lookup i = some x → ∃ u v, okN x = true ∧ X.mg x = some u ∧ RelV v u ∧ ∀ H, Rp X.K W H d v
  ds : ∀ (f : Nat) (x : Str), pn.ds.lookup f = some x → ∃ a fd ps, okN x = true ∧ X.mg x = some (.ref a) ∧ PySem.W.keepIn X.K (.ref a) = true ∧ Binds X.K fd ps [] ∧ FnOkG X.prog X.w X.K X.mg X.base CX (ix k) a fd ps (spD X.K W ps (den p k f)) ∧ ∀ ds g, den p k f ds g ≠ .st → ds.length = ps.length
  dr : ∃ a fd ps, X.mg "_law_draw" = some (.ref a) ∧ PySem.W.keepIn X.K (.ref a) = true ∧ Binds X.K fd ps [] ∧ FnOkG X.prog X.w X.K X.mg X.base CX (ix k) a fd ps (spDraw W)
  bn : ∀ x ∈ bNames, X.mg x = none
  w : W.w = X.w
  kk : W.k = X.K
  cx : CX = L2.CX X.prog X.w
  tk : Takes X (fun cls d _ H => Ew cls d H)
  xs : ∀ (c : Nat) (x : Str) (ns : List Str), pn.xs.lookup c = some (x, ns) → ∃ C, W.xc.lookup c = some (C, ns) ∧ okN x = true ∧ X.mg x = some (.ref C) ∧ XcOk X.prog X.K C ns
  lm : c.lam = true → LamC W pn k X
section
variable {CX : CXT} {W : Wd} {pn : PrN} {p : Pr} {k : Nat} {c : Cxt} {Ew : XK} {X : Cx}
theorem okN1 {x : Str} (h : okN x = true) : (x == ("__debug__" : Str)) = false := by
  unfold okN at h
  simp only [Bool.and_eq_true, Bool.not_eq_true'] at h
  exact h.1.1
theorem okN2 {x : Str} (h : okN x = true) : (x == ("__classdict__" : Str)) = false := by
  unfold okN at h
  simp only [Bool.and_eq_true, Bool.not_eq_true'] at h
  exact h.1.2
theorem okN3 {x : Str} (h : okN x = true) : x ≠ "__name__" := by
  unfold okN at h
  simp only [Bool.and_eq_true, Bool.not_eq_true'] at h
  intro e
  have h2 := h.2
  rw [e] at h2
  revert h2
  decide
theorem Ok.gl (o : Ok CX W pn p k c Ew X) {x : Str} (h : glB c.sc x = true) : Gl X x := by
  show X.env.scope.names.lookup x = some .globalImplicit
  rw [o.sc]
  exact gl_of h
theorem Ok.un (o : Ok CX W pn p k c Ew X) : X.A.units + 64 < cLine := o.room.units
theorem Ok.un2 (o : Ok CX W pn p k c Ew X) : X.A.units + 66 < cLine := by have := o.room.un; omega
theorem Ok.blk (o : Ok CX W pn p k c Ew X) (s : Shared) (H : Hp) (scope : Scope) (cl : List (Str × Addr)) (C : Addr) (fp : List Addr) : Ok CX W pn p k (blkCtx c scope) E0 (X.blk s H scope (compEnvC scope cl C X.env) fp) where
  N := o.N
  sc := by
    show relS scope X.env.scope = relS scope c.sc
    rw [o.sc]
  fn := rfl
  nd := o.nd
  nm := o.nm
  calm := o.calm
  room := o.room
  gd := o.gd
  pass := fun pins σ H s e s' I h => o.cxf _ _ _ _ _ h
  own := PassesOwn.never
  cxf := o.cxf
  cs := o.cs
  ds := o.ds
  dr := o.dr
  bn := o.bn
  w := o.w
  kk := o.kk
  cx := o.cx
  tk := LamX.takes0
  xs := o.xs
  lm := fun z => by cases z
theorem Ok.lamc (o : Ok CX W pn p k c Ew X) {scope : Scope} {A : Around} {outer : List Env} {s : Shared} {H : Hp} {E : XK} {f c' : Addr} (hr : Room (4 * k + 3) (A.deeper (LamX.lamEnv X scope s.heap.objs.size f c'))) (hg : (A.deeper (LamX.lamEnv X scope s.heap.objs.size f c')).guards = some []) :
    Ok CX W pn p k (lamCtx c scope) E (LamX.lamCx X A outer s H E scope f c') := by
  have tk : Takes (LamX.lamCx X A outer s H E scope f c') (fun cls d _ H => E cls d H) := takes_of rfl rfl rfl rfl
  exact {
    N := o.N
    sc := rfl
    fn := rfl
    nd := o.nd
    nm := o.nm
    calm := rfl
    room := hr.mono (by unfold ix; omega)
    gd := hg
    pass := by
      have e : CX = L2.CX X.prog X.w := o.cx
      rw [e]
      exact passes_call tk fun _ _ _ _ h => h
    own := passes_of rfl
    cxf := o.cxf
    cs := o.cs
    ds := o.ds
    dr := o.dr
    bn := o.bn
    w := o.w
    kk := o.kk
    cx := o.cx
    tk := tk
    xs := o.xs
    lm := fun z => by cases z }
theorem flds_lk {K : PySem.W.Frag} {W : Wd} {Hk : Hp} {fs : List (Str × V)} : ∀ {ns : List Str} {ds : List D}, Flds K W Hk ns ds fs → ∃ vs, Lk fs ns vs ∧ RpL K W Hk ds vs
  | [], [], _ => ⟨[], True.intro, rfl⟩
  | [], _ :: _, h => h.elim
  | _ :: _, [], h => h.elim
  | n :: ns, d :: ds, h => by
    obtain ⟨⟨v, e, r⟩, h2⟩ := h
    obtain ⟨vs, l, q⟩ := flds_lk h2
    exact ⟨v :: vs, ⟨e, l⟩, .cons r q⟩
theorem flds_zip {K : PySem.W.Frag} {W : Wd} {Hk : Hp} {fs : List (Str × V)} : ∀ {ns : List Str} {ds : List D} {vs : List V}, vs.length = ns.length → RpL K W Hk ds vs → (∀ q ∈ ns.zip vs, fs.lookup q.1 = some q.2) → Flds K W Hk ns ds fs
  | [], [], _, _, _, _ => True.intro
  | [], d :: ds, vs, hl, h, _ => by
    obtain ⟨y, ys, rfl, _⟩ := h
    simp at hl
  | n :: ns, [], vs, hl, h, _ => by
    have h : vs = [] := h
    subst h
    simp at hl
  | n :: ns, d :: ds, vs, hl, h, hq => by
    obtain ⟨y, ys, rfl, h1, h2⟩ := h
    exact ⟨⟨y, hq (n, y) (by simp), h1⟩, flds_zip (by simpa using hl) h2 fun q z => hq q (by simp [z])⟩
theorem mem_lookup' {α : Type} : ∀ {l : List (Nat × α)} {i : Nat} {x : α}, l.lookup i = some x → (i, x) ∈ l
  | [], _, _, h => by cases h
  | (j, y) :: l, i, x, h => by
    rw [List.lookup_cons] at h
    cases e : i == j with
    | true => rw [e] at h; cases h; rw [eq_of_beq e]; exact List.mem_cons_self
    | false => rw [e] at h; exact List.mem_cons_of_mem _ (mem_lookup' h)
/-- a lambda is made: the drawing state stays -/
theorem DrawAt.lam {g : G} {H H1 : Hp} (h : DrawAt W g H) (e : LamX.ExtN H H1) (t : TIn H H1) (T : LamX.Tabs W.tb H1) : DrawAt W g H1 :=
  ⟨e _ _ h.m (fun ps z => by cases z), e _ _ h.c (fun ps z => by cases z), e _ _ h.gr (fun ps z => by cases z), h.ne, h.ok, T, fun b ps q => by
    obtain ⟨ps', q'⟩ := t b ps q
    exact h.tin b ps' q'⟩
theorem e_said (o : Ok CX W pn p k c Ew X) (hl : c.lam = true) {v : Nat} {x : Str} {tb : List (Nat × Str)} (hv : pn.sd.lookup v = some (x, tb)) (hg : glB c.sc x = true) {params : Arguments} {ys : List Str} {body : Expr} {scope : Scope} {q lp pos : Pos} {ev : Gm → G → R D} (hp : LPar params ys) (L : LamQ c.N c.sc scope ys)
    (hbody : ∀ {A : Around} {outer : List Env} {s : Shared} {H : Hp} {E : XK} {f c' : Addr}, Room (4 * k + 3) (A.deeper (LamX.lamEnv X scope s.heap.objs.size f c')) → (A.deeper (LamX.lamEnv X scope s.heap.objs.size f c')).guards = some [] → PE (LamX.lamCx X A outer s H E scope f c') body (tE X.K W E ev)) :
    PE X (.Call (.Name x q) [.Lambda params body scope lp] [] pos) (tE X.K W Ew (fun Γ g => caughtR tb (ev Γ g))) := by
  have lm := o.lm hl
  obtain ⟨c0, P0, hc0, TB, hm0, hu0⟩ := lm.ex
  obtain ⟨g0, pg, bg, sg, dV, kV, doc, pm, cdv, ct, oc, an, od, osl, a, Ng, mx, kp, lk, cd, bd, S, n0, va, oka, okx, gv⟩ := (lm.sd v x tb hv).ex
  have LQ : LamQ X.N X.env.scope scope ys := by rw [o.N, o.sc]; exact L
  refine PE.imp (pe_lamG (k := 4 * k + 3) (t := fun E => tE X.K W E ev) (T := W.tb) (TT := TSaid W.xc tb) (o.gl hg) mx kp lk cd bd S n0 va (gv X rfl rfl rfl rfl rfl) TB hc0 hm0 hu0 lm.room o.gd LQ hp (fun E σ H Q Q' hQ ⟨Hk0, H0, Γ, g, Hk, fr, h⟩ => ⟨Hk0, H0, Γ, g, Hk, fr, h.mono fun d g' Hk' H' _ _ z v r => hQ _ _ (z v r)⟩) (fun A outer s H E f c' hr hg' => hbody hr hg') (okN1 okx) (okN1 oka) (okN2 oka)) ?_
  intro σ H Q ⟨Hk0, H0, Γ, g, Hk, fr, h⟩
  have h : Fin W Ew Hk H (caughtR tb (ev Γ g)) _ := h
  refine ⟨fr.wk.dr.tab, fun H1 eN tI T1 p0 hp0 => ?_⟩
  have s1 : Step W Hk H Hk H1 := Step.lam fr.wk.ex fr.wk.dr fr.wk.tk eN T1
  have dr1 : DrawAt W g H1 := fr.wk.dr.lam eN tI T1
  have fr1 := fr.step s1 dr1
  have s2 : Step W Hk H1 Hk (upd H1 p0 (.lst [])) := Step.hid fr1.wk.ex hp0
  have fr2 := fr1.step s2 (dr1.new hp0)
  have s12 := s1.trans s2
  refine ⟨Hk0, H0, Γ, g, Hk, fr2, ?_⟩
  cases e : ev Γ g with
  | st => rw [e] at h; exact h.elim
  | ok d g' =>
    rw [e] at h
    intro Hk' H' st dr v r p hp'
    have fr3 := fr2.step st dr
    have s3 : Step W Hk' H' (upd Hk' p (.lst [v])) (upd H' p (.lst [v])) := Step.new fr3.wk.ex hp'
    exact h _ _ ((s12.trans st).trans s3) (dr.new hp') (.ref p) ⟨p, [v], rfl, upd_same, v, [], rfl, r.mono s3.k, rfl⟩
  | ex cc ds g' =>
    rw [e] at h
    have h : Fin W Ew Hk H (match tb.lookup cc with | some x => R.ok (D.tup (.str x :: ds)) g' | none => .st) _ := h
    cases hx : tb.lookup cc with
    | none => rw [hx] at h; exact h.elim
    | some y =>
      rw [hx] at h
      intro Hk' H' cls dx st dr ⟨C, ns, d, fs, z1, z2, z3, z4, z5⟩
      obtain ⟨vs, lkv, rv⟩ := flds_lk z5
      refine ⟨cc, y, C, ns, d, fs, vs, mem_lookup' hx, z1, z2, z3, z4, lkv, fun p hp' => ?_⟩
      have fr3 := fr2.step st dr
      rw [o.kk] at rv
      have s3 : Step W Hk' H' (upd Hk' p (.tup (.str y :: vs))) (upd H' p (.tup (.str y :: vs))) := Step.new fr3.wk.ex hp'
      exact h _ _ ((s12.trans st).trans s3) (dr.new hp') (.ref p) ⟨p, _, rfl, SqT.of upd_same, .cons rfl (rv.mono s3.k)⟩
theorem Ok.ty (o : Ok CX W pn p k c Ew X) {e : Expr} {t : Ty} (h : tyB c e t = true) : PE X e (tC (.ty (tyN t))) := by
  unfold tyB at h
  split at h
  · simp only [Bool.and_eq_true, decide_eq_true_eq] at h
    have hg := o.gl h.2
    rw [h.1] at hg ⊢
    refine pe_bltn hg (o.bn _ ?_) (u := .type (tyN t)) ?_ rfl ?_ ?_
    · cases t <;> simp [bNames, tyN]
    · cases t <;> simp only [tyN] <;> decide +kernel
    · cases t <;> simp only [tyN] <;> decide
    · cases t <;> simp only [tyN] <;> decide
  · cases h
theorem ty_nst {e : Expr} {t : Ty} (h : tyB c e t = true) : nSt e = true := by
  cases e <;> first | rfl | (unfold tyB at h; cases h)
theorem Ok.bi (o : Ok CX W pn p k c Ew X) {a : Expr} {es : List Expr} {pos q : Pos} {fs : Gm → G → R (List D)} (b : Bi) (hg : glB c.sc (biN b) = true) (ha : PA X (a :: es) (tAa X.K W Ew fs)) (hn : nSts (a :: es) = true) :
    PE X (.Call (.Name (biN b) q) (a :: es) [] pos) (tE X.K W Ew fun Γ g => (fs Γ g).bind fun xs g => lift (biD b xs) g) := by
  simp only [nSts, Bool.and_eq_true] at hn
  have hh := o.gl hg
  have hm : X.mg (biN b) = none := o.bn _ (by cases b <;> simp [biN, bNames])
  have hc := call_D (W := W) o.calm o.gd o.un2 b
  cases b with
  | tuple => exact e_biT hc hh hm (by decide +kernel) ha (by decide) (by decide) (star_of hn.1 _ _) (back_of _ _ hn.2)
  | list => exact e_biT hc hh hm (by decide +kernel) ha (by decide) (by decide) (star_of hn.1 _ _) (back_of _ _ hn.2)
  | int => exact e_biT hc hh hm (by decide +kernel) ha (by decide) (by decide) (star_of hn.1 _ _) (back_of _ _ hn.2)
  | _ => exact e_biB hc hh hm (by decide +kernel) ha (by decide) (by decide) (star_of hn.1 _ _) (back_of _ _ hn.2)
theorem own_map (c : Cxt) (t : T) : (ownOf c t).map (·.2) = t.vars := by
  unfold ownOf
  rw [List.map_map]
  exact List.map_id' _
/-! ### targets -/
theorem asg_of {e : Expr} (h : nSt e = true) (es : List Expr) (env : Env) : assignEach (e :: es) env = (false, assign e env) :: assignEach es env := by
  cases e <;> first | rfl | cases h
theorem chkTs_nst : ∀ {n : Nat} {es : List Expr} {ts : List T}, chkTs n c es ts = true → ts.length = es.length ∧ ∀ env, (assignEach es env).length = es.length ∧ (assignEach es env).findIdx? (·.1) = none
  | 0, _, _, h => by cases h
  | n + 1, [], [], _ => ⟨rfl, fun _ => ⟨rfl, rfl⟩⟩
  | n + 1, [], _ :: _, h => by cases h
  | n + 1, _ :: _, [], h => by cases h
  | n + 1, e :: es, t :: ts, h => by
    simp only [chkTs, Bool.and_eq_true] at h
    obtain ⟨h1, h2⟩ := chkTs_nst h.2
    refine ⟨by simp [h1], fun env => ?_⟩
    rw [asg_of h.1.1]
    refine ⟨by simp [(h2 env).1], ?_⟩
    rw [List.findIdx?_cons]
    simp [(h2 env).2]
theorem sndT (o : Ok CX W pn p k c Ew X) : ∀ n, (∀ e t, chkT n c e t = true → PG X e (tGg X.K W t)) ∧ (∀ es ts, chkTs n c es ts = true → PGs X es (tGgs X.K W ts))
  | 0 => ⟨fun _ _ h => (by cases h), fun _ _ h => (by cases h)⟩
  | n + 1 => by
    obtain ⟨i1, i2⟩ := sndT o n
    refine ⟨fun e t h => ?_, fun es ts h => ?_⟩
    · cases t with
      | var i =>
        simp only [chkT] at h
        split at h
        · rename_i x q
          simp only [Bool.and_eq_true, decide_eq_true_eq] at h
          have h2 := h.2
          unfold locB at h2
          refine g_var (pg_name o.nd (by rw [o.N]; exact h.1) ?_ ?_)
          · show X.env.scope.names.lookup x = some .local ∨ X.env.scope.names.lookup x = some .cell
            rw [o.sc]
            revert h2
            cases c.sc.names.lookup x with
            | none => intro h; cases h
            | some kd => cases kd <;> intro h <;> first | exact .inl rfl | exact .inr rfl | cases h
          · rw [o.sc, o.fn]
            revert h2
            cases c.sc.names.lookup x with
            | none => intro h; cases h
            | some kd => cases kd <;> intro h <;> first | exact .inr rfl | exact .inl h | cases h
        · cases h
      | tup ts =>
        simp only [chkT] at h
        split at h
        · rename_i es _ _
          obtain ⟨h1, h2⟩ := chkTs_nst h
          exact g_tup o.calm (i2 es ts h) (h2 X.env).1 (h2 X.env).2 h1
        · cases h
    · cases es with
      | nil =>
        cases ts with
        | nil => exact gs_nil
        | cons _ _ => cases h
      | cons e es =>
        cases ts with
        | nil => cases h
        | cons t ts =>
          simp only [chkTs, Bool.and_eq_true] at h
          exact gs_cons (i1 e t h.1.2) (i2 es ts h.2) (by rw [asg_of h.1.1]; rfl)
theorem chkA_len {n : Nat} : ∀ {n : Nat} {es : List Expr} {as : A}, chkA n pn c es as = true → nSts es = true ∧ ∀ cs call Γ g ds g', evA cs call as Γ g = .ok ds g' → ds.length = es.length
  | 0, _, _, h => by cases h
  | n + 1, [], .nil, _ => ⟨rfl, fun _ _ _ _ ds g' e => by simp only [evA] at e; cases e; rfl⟩
  | n + 1, [], .cons _ _, h => by cases h
  | n + 1, [], .star _ _, h => by cases h
  | n + 1, _ :: _, .star _ _, h => by cases h
  | n + 1, _ :: _, .nil, h => by cases h
  | n + 1, e :: es, .cons e' as, h => by
    simp only [chkA, Bool.and_eq_true] at h
    obtain ⟨h1, h2⟩ := chkA_len (n := n) h.2
    refine ⟨by simp only [nSts, Bool.and_eq_true]; exact ⟨h.1.1, h1⟩, fun cs call Γ g ds g' e => ?_⟩
    simp only [evA] at e
    obtain ⟨x, g1, _, e⟩ := bind_ok e
    obtain ⟨xs, g2, e2, e⟩ := bind_ok e
    cases e
    simp [h2 _ _ _ _ _ _ e2]
/-! ### tests -/
/-- c if t else d, as a test -/
theorem t_ife {t a b : Expr} {pos : Pos} {ft fa fb : Gm → G → R D} (ht : PT X t (tTt X.K W Ew fun Γ g => blR (ft Γ g))) (ha : PT X a (tTt X.K W Ew fun Γ g => blR (fa Γ g))) (hb : PT X b (tTt X.K W Ew fun Γ g => blR (fb Γ g))) :
    PT X (.IfExp t a b pos) (tTt X.K W Ew fun Γ g => blR (ifeR ft fa fb Γ g)) := by
  refine ⟨fun pins s σ H Q I ⟨Hk0, H0, Γ, g, Hk, fr, h⟩ => ?_⟩
  unfold PySem.isTrue
  have h : Fin W Ew Hk H (blR (ifeR ft fa fb Γ g)) _ := h
  have e : blR (ifeR ft fa fb Γ g) = (blR (ft Γ g)).bind fun k g => if k then blR (fa Γ g) else blR (fb Γ g) := by
    unfold ifeR
    cases blR (ft Γ g) with
    | ok k g1 => cases k <;> rfl
    | ex _ _ _ => rfl
    | st => rfl
  rw [e] at h
  refine wpAny_bind (thn (ht.run pins s σ H (fun k H1 => if k = true then tTt X.K W Ew (fun Γ g => blR (fa Γ g)) σ H1 Q else tTt X.K W Ew (fun Γ g => blR (fb Γ g)) σ H1 Q) I (seqT (f := fun Γ g => blR (ft Γ g)) fr h fun k g1 Hk1 H1 fr1 s1 h1 => ?_)) fun k s1 ⟨H1, I1, q1⟩ => ?_)
  · cases k with
    | true => exact iteT ⟨Hk0, H0, Γ, g1, Hk1, fr1, h1⟩
    | false => exact iteF ⟨Hk0, H0, Γ, g1, Hk1, fr1, h1⟩
  · cases k with
    | true => exact ha.run pins s1 σ H1 Q I1 q1
    | false => exact hb.run pins s1 σ H1 Q I1 q1
end
end Bk

set_option Elab.async false
set_option linter.all false
set_option maxRecDepth 100000
set_option maxHeartbeats 4000000
/-! The evaluator is sound: expressions, by induction. -/
namespace Bk
open PySem L2
open Evl (Ex ex_l ex_t)
section
variable {CX : CXT} {W : Wd} {pn : PrN} {p : Pr} {k : Nat}
/-- new lists -/
def frE : E → Bool
  | .lst _ => true
  | .lc _ _ _ _ => true
  | .cat _ _ => true
  | .rev _ => true
  | .lstS _ => true
  | .dnil => true
  | .done _ _ => true
  | .bi .list _ => true
  | .bi .sorted _ => true
  | .bi .sortd _ => true
  | .lrng1 _ => true
  | .lrng2 _ _ => true
  | _ => false
structure SE (CX : CXT) (W : Wd) (pn : PrN) (p : Pr) (k n : Nat) : Prop where
  e : ∀ {c : Cxt} {Ew : XK} {X : Cx}, Ok CX W pn p k c Ew X → ∀ {e : Expr} {E : E}, chkE n pn c e E = true → PE X e (tE X.K W Ew (evE p.cs (den p k) E))
  t : ∀ {c : Cxt} {Ew : XK} {X : Cx}, Ok CX W pn p k c Ew X → ∀ {e : Expr} {E : E}, chkE n pn c e E = true → PT X e (tTt X.K W Ew fun Γ g => blR (evE p.cs (den p k) E Γ g))
  w : ∀ {c : Cxt} {Ew : XK} {X : Cx}, Ok CX W pn p k c Ew X → ∀ {op : BoolOp} {es : List Expr} {pos : Pos} {E : E}, chkE n pn c (.BoolOp op es pos) E = true → PW X (.BoolOp op es pos) (tTt X.K W Ew fun Γ g => blR (evE p.cs (den p k) E Γ g))
  o : ∀ {c : Cxt} {Ew : XK} {X : Cx}, Ok CX W pn p k c Ew X → ∀ {e : Option Expr} {E : Option E}, chkO n pn c e E = true → PO X e (tOo X.K W Ew (evO p.cs (den p k) E))
  a : ∀ {c : Cxt} {Ew : XK} {X : Cx}, Ok CX W pn p k c Ew X → ∀ {e : List Expr} {E : A}, chkA n pn c e E = true → PA X e (tAa X.K W Ew (evA p.cs (den p k) E))
  as : ∀ {c : Cxt} {Ew : XK} {X : Cx}, Ok CX W pn p k c Ew X → ∀ {e : List Expr} {E : A}, chkAS n pn c e E = true → PA X e (tAa X.K W Ew (evA p.cs (den p k) E))
  i : ∀ {c : Cxt} {Ew : XK} {X : Cx}, Ok CX W pn p k c Ew X → ∀ {tg e : Expr} {E : I}, chkI n pn c tg e E = true → PI X tg e (tIi X.K W Ew (evI p.cs (den p k) E))
theorem one_some {e x : Expr} (h : one? e = some x) : ∃ op pos, e = .BoolOp op [x] pos := by
  unfold one? at h
  split at h
  · cases h; exact ⟨_, _, rfl⟩
  · cases h
theorem nost {op : BoolOp} {pos : Pos} {x : Expr} (h : one? (.BoolOp op [x] pos) = none) : False := by
  simp only [one?] at h; cases h
theorem cst_snd {X : Cx} {Ew : XK} {kc : Const} {j : Nat} {pos : Pos} {d : D} (h : cstB kc d = true) : PE X (.Constant kc j pos) (tE X.K W Ew fun _ g => .ok d g) := by
  cases kc <;> cases d <;> (try (cases h; done))
  · exact e_cst pe_non fun _ => rfl
  · have e := eq_of_beq h; subst e; exact e_cst pe_bl fun _ => rfl
  · have e := of_decide_eq_true h; subst e; exact e_cst pe_int fun _ => rfl
  · have e := of_decide_eq_true h; subst e; exact e_cst pe_str fun _ => rfl
theorem lc_snd {n : Nat} (ih : SE CX W pn p k n) {c : Cxt} {Ew : XK} {X : Cx} (ok : Ok CX W pn p k c Ew X) {elt tg iter : Expr} {ifs : List Expr} {scope : Scope} {elt' : E} {t : T} {it : I} {cond : Option E}
    (hb : blkC c.N c.sc scope (ownOf c t) = true) (hs : nSet iter = true) (ht : chkT n (blkCtx c scope) tg t = true) (hi : chkI n pn c tg iter it = true)
    (hc : (match ifs, cond with | [], none => true | [q], some q' => chkE n pn (blkCtx c scope) q q' | _, _ => false) = true) (he : chkE n pn (blkCtx c scope) elt elt' = true) :
    ∃ (wi : TI) (g : TG) (tt : TT) (te : TE) (own : List (Str × Nat)), PI X tg iter wi ∧ BlkOk X.N X.env.scope scope own ∧
      (∀ (s : Shared) (H : Hp) (C : Addr) (cl : List (Str × Addr)) (fp : List Addr), PG (X.blk s H scope (compEnvC scope cl C X.env) fp) tg g) ∧
      (∀ (s : Shared) (H : Hp) (C : Addr) (cl : List (Str × Addr)) (fp : List Addr), PTs (X.blk s H scope (compEnvC scope cl C X.env) fp) ifs tt) ∧
      (∀ (s : Shared) (H : Hp) (C : Addr) (cl : List (Str × Addr)) (fp : List Addr), PE (X.blk s H scope (compEnvC scope cl C X.env) fp) elt te) ∧
      (∀ x, foldedSetIterable iter X.env x = pure x) ∧
      ∀ σ H Q, tFf X.K W Ew (evE p.cs (den p k) (.lc elt' t it cond)) σ H Q → tLc wi g tt te (own.map (·.2)) σ H Q := by
  have bo : BlkOk X.N X.env.scope scope (ownOf c t) := by rw [ok.N, ok.sc]; exact blkOk_by hb
  have hi' := ih.i ok hi
  have hg : ∀ (s : Shared) (H : Hp) (C : Addr) (cl : List (Str × Addr)) (fp : List Addr), PG (X.blk s H scope (compEnvC scope cl C X.env) fp) tg (tGg X.K W t) := fun s H C cl fp => (sndT (ok.blk s H scope cl C fp) n).1 tg t ht
  have he' : ∀ (s : Shared) (H : Hp) (C : Addr) (cl : List (Str × Addr)) (fp : List Addr), PE (X.blk s H scope (compEnvC scope cl C X.env) fp) elt (tE X.K W E0 (evE p.cs (den p k) elt')) := fun s H C cl fp => ih.e (ok.blk s H scope cl C fp) he
  match ifs, cond, hc with
  | [], none, _ =>
    have ht' : ∀ (s : Shared) (H : Hp) (C : Addr) (cl : List (Str × Addr)) (fp : List Addr), PTs (X.blk s H scope (compEnvC scope cl C X.env) fp) [] (tTt X.K W E0 fun _ g => .ok true g) := fun s H C cl fp => ts_nil
    refine ⟨_, _, _, _, _, hi', bo, hg, ht', he', set_of hs X.env, fun σ H Q h => f_lc ok.calm ok.nd hi' bo (own_map c t) hg ht' he' (set_of hs X.env) σ H Q ?_⟩
    simp only [evE] at h
    exact h
  | [q], some q', hq =>
    have ht' : ∀ (s : Shared) (H : Hp) (C : Addr) (cl : List (Str × Addr)) (fp : List Addr), PTs (X.blk s H scope (compEnvC scope cl C X.env) fp) [q] (tTt X.K W E0 fun Γ g => blR (evE p.cs (den p k) q' Γ g)) := fun s H C cl fp => pts_one (ih.t (ok.blk s H scope cl C fp) hq)
    refine ⟨_, _, _, _, _, hi', bo, hg, ht', he', set_of hs X.env, fun σ H Q h => f_lc ok.calm ok.nd hi' bo (own_map c t) hg ht' he' (set_of hs X.env) σ H Q ?_⟩
    simp only [evE] at h
    exact h
  | [], some _, h => cases h
  | [_], none, h => cases h
  | _ :: _ :: _, none, h => cases h
  | _ :: _ :: _, some _, h => cases h
theorem lst_shape {cs : List (Nat × D)} {call : Nat → List D → G → R D} {as : A} {Γ : Gm} {g g' : G} {d : D} (h : evE cs call (.lst as) Γ g = .ok d g') : isOb d = true := by
  simp only [evE] at h
  obtain ⟨x, g1, _, h⟩ := bind_ok h
  cases h
  rfl
theorem lc_shape {cs : List (Nat × D)} {call : Nat → List D → G → R D} {elt : E} {t : T} {it : I} {cond : Option E} {Γ : Gm} {g g' : G} {d : D} (h : evE cs call (.lc elt t it cond) Γ g = .ok d g') : isOb d = true := by
  simp only [evE] at h
  obtain ⟨x, g1, _, h⟩ := bind_ok h
  obtain ⟨x, g1, _, h⟩ := bind_ok h
  cases h
  rfl
theorem lst_snd {n : Nat} (ih : SE CX W pn p k n) {c : Cxt} {Ew : XK} {X : Cx} (ok : Ok CX W pn p k c Ew X) {es : List Expr} {pos : Pos} {as : A} (h : chkA n pn c es as = true) (hl : es.length ≤ 1000) : PE X (.List es pos) (tFf X.K W Ew (evE p.cs (den p k) (.lst as))) := by
  have q := f_lst (pos := pos) (fs := evA p.cs (den p k) as) (fun Γ g ds g' e => by rw [(chkA_len (n := n) h).2 _ _ _ _ _ _ e]; omega) (ih.a ok h)
  have e : evE p.cs (den p k) (.lst as) = fun Γ g => (evA p.cs (den p k) as Γ g).bind fun xs g => .ok (.lst xs) g := by funext Γ g; first | rfl | (simp only [evE]; done) | (simp only [evE]; rfl)
  rw [e]
  exact q
theorem snd_e {n : Nat} (ih : SE CX W pn p k n) {c : Cxt} {Ew : XK} {X : Cx} (ok : Ok CX W pn p k c Ew X) {e : Expr} {E : E} (h : chkE (n + 1) pn c e E = true) : PE X e (tE X.K W Ew (evE p.cs (den p k) E)) := by
  unfold chkE at h
  split at h
  · rename_i x hx
    obtain ⟨op, pos, rfl⟩ := one_some hx
    exact pe_one (ih.e ok h)
  · rename_i h1
    cases E with
    | cst d =>
      dsimp only at h
      split at h
      · have e : evE p.cs (den p k) (.cst d) = fun _ g => .ok d g := by funext Γ g; first | rfl | (simp only [evE]; done) | (simp only [evE]; rfl)
        rw [e]
        exact cst_snd h
      · cases h
    | var i =>
      dsimp only at h
      split at h
      · rename_i x q
        simp only [Bool.and_eq_true, decide_eq_true_eq] at h
        have hN : X.N[i]? = some x := by rw [ok.N]; exact h.1
        have hm := ok.nm x (List.mem_of_getElem? hN)
        have e : evE p.cs (den p k) (.var i) = fun Γ g => match Γ[i]? with | some (.val d) => .ok d g | _ => .st := by funext Γ g; first | rfl | (simp only [evE]; done) | (simp only [evE]; rfl)
        rw [e]
        exact e_var (pe_var hN (by rw [ok.sc]; exact vis_of h.2) (okN1 hm) (okN2 hm))
      · cases h
    | glb i =>
      dsimp only at h
      split at h
      · rename_i x q
        simp only [Bool.and_eq_true, decide_eq_true_eq] at h
        cases hd : p.cs.lookup i with
        | none =>
          refine ⟨fun pins s σ H Q I ⟨Hk0, H0, Γ, g, Hk, fr, hf⟩ => ?_⟩
          simp only [evE, hd] at hf
          exact hf.elim
        | some d =>
          obtain ⟨u, v, h1, h2, h3, h4⟩ := ok.cs i d x hd h.1
          have e : evE p.cs (den p k) (.glb i) = fun _ g => .ok d g := by funext Γ g; simp only [evE, hd]; rfl
          rw [e]
          exact e_cst (pe_glob (ok.gl h.2) h2 h3 (okN1 h1)) h4
      · cases h
    | bin o a' b' =>
      dsimp only at h
      split at h
      · simp only [Bool.and_eq_true] at h
        rw [op_of h.1.1]
        have e := e_bin (pos := ‹Pos›) o (ih.e ok h.1.2) (ih.e ok h.2)
        have e2 : evE p.cs (den p k) (.bin o a' b') = fun Γ g => (evE p.cs (den p k) a' Γ g).bind fun x g => (evE p.cs (den p k) b' Γ g).bind fun y g => lift (opD o x y) g := by funext Γ g; first | rfl | (simp only [evE]; done) | (simp only [evE]; rfl)
        rw [e2]
        exact e
      · cases h
    | neg a' =>
      dsimp only at h
      split at h
      · have e := e_neg (pos := ‹Pos›) (ih.e ok h)
        have e2 : evE p.cs (den p k) (.neg a') = fun Γ g => (evE p.cs (den p k) a' Γ g).bind fun x g => match x with | .int i => .ok (.int (-i)) g | _ => .st := by funext Γ g; first | rfl | (simp only [evE]; done) | (simp only [evE]; rfl)
        rw [e2]
        exact e
      · cases h
    | cmp o a' b' =>
      dsimp only at h
      split at h
      · simp only [Bool.and_eq_true] at h
        rw [cm_of h.1.1.1]
        have e := e_cmp (pos := ‹Pos›) ok.un ok.w o (ih.e ok h.1.1.2) (ih.e ok h.1.2) (marks_of h.2 _)
        have e2 : evE p.cs (den p k) (.cmp o a' b') = fun Γ g => (evE p.cs (den p k) a' Γ g).bind fun x g => (evE p.cs (den p k) b' Γ g).bind fun y g => lift ((cmpD o x y).map .bl) g := by funext Γ g; first | rfl | (simp only [evE]; done) | (simp only [evE]; rfl)
        rw [e2]
        exact e
      · cases h
    | chn o o' a' b' d' =>
      dsimp only at h
      split at h
      · simp only [Bool.and_eq_true] at h
        rw [cm_of h.1.1.1.1.1, cm_of h.1.1.1.1.2]
        have e := e_chn (pos := ‹Pos›) ok.un ok.w o o' (ih.e ok h.1.1.1.2) (ih.e ok h.1.1.2) (ih.e ok h.1.2) (by show behindInMarks _ _ = false; exact marks_of h.2 _)
        have e2 : evE p.cs (den p k) (.chn o o' a' b' d') = chnR o o' (evE p.cs (den p k) a') (evE p.cs (den p k) b') (evE p.cs (den p k) d') := by funext Γ g; simp only [evE, chnR]
        rw [e2]
        exact e
      · cases h
    | and a b =>
      dsimp only at h
      split at h
      · simp only [Bool.and_eq_true] at h
        have e := e_and (ih.e ok h.1) (ih.e ok h.2)
        have e2 : evE p.cs (den p k) (.and a b) = andR (evE p.cs (den p k) a) (evE p.cs (den p k) b) := by funext Γ g; simp only [evE, andR]
        rw [e2]
        exact e
      · cases h
    | or a b =>
      dsimp only at h
      split at h
      · simp only [Bool.and_eq_true] at h
        have e := e_or (ih.e ok h.1) (ih.e ok h.2)
        have e2 : evE p.cs (den p k) (.or a b) = orR (evE p.cs (den p k) a) (evE p.cs (den p k) b) := by funext Γ g; simp only [evE, orR]
        rw [e2]
        exact e
      · cases h
    | not a' =>
      dsimp only at h
      split at h
      · have e := e_not (pos := ‹Pos›) (ih.e ok h)
        have e2 : evE p.cs (den p k) (.not a') = fun Γ g => (blR (evE p.cs (den p k) a' Γ g)).bind fun k g => .ok (.bl (!k)) g := by funext Γ g; first | rfl | (simp only [evE]; done) | (simp only [evE]; rfl)
        rw [e2]
        exact e
      · cases h
    | ife t' a' b' =>
      dsimp only at h
      split at h
      · simp only [Bool.and_eq_true] at h
        have e := e_ife (pos := ‹Pos›) (ih.t ok h.1.1) (ih.e ok h.1.2) (ih.e ok h.2)
        have e2 : evE p.cs (den p k) (.ife t' a' b') = ifeR (evE p.cs (den p k) t') (evE p.cs (den p k) a') (evE p.cs (den p k) b') := by funext Γ g; simp only [evE, ifeR]
        rw [e2]
        exact e
      · cases h
    | tup as =>
      dsimp only at h
      split at h
      · simp only [Bool.and_eq_true, decide_eq_true_eq] at h
        have e := e_tup (pos := ‹Pos›) (x1 := ‹Nat›) (fs := evA p.cs (den p k) as) (fun Γ g ds g' e => by rw [(chkA_len (n := n) h.1).2 _ _ _ _ _ _ e]; omega) (ih.a ok h.1)
        have e2 : evE p.cs (den p k) (.tup as) = fun Γ g => (evA p.cs (den p k) as Γ g).bind fun xs g => .ok (.tup xs) g := by funext Γ g; first | rfl | (simp only [evE]; done) | (simp only [evE]; rfl)
        rw [e2]
        exact e
      · cases h
    | lst as =>
      dsimp only at h
      split at h
      · simp only [Bool.and_eq_true, decide_eq_true_eq] at h
        exact f_tell (lst_snd ih ok h.1 h.2) fun Γ g d g' e => lst_shape e
      · cases h
    | sl a' lo' hi' =>
      dsimp only at h
      split at h
      · simp only [Bool.and_eq_true] at h
        have e := e_sl (pos := ‹Pos›) (p2 := ‹Pos›) (ih.e ok h.1.1) (ih.o ok h.1.2) (ih.o ok h.2)
        have e2 : evE p.cs (den p k) (.sl a' lo' hi') = fun Γ g => (evE p.cs (den p k) a' Γ g).bind fun x g => (evO p.cs (den p k) lo' Γ g).bind fun l g => (evO p.cs (den p k) hi' Γ g).bind fun h g => lift (slD x l h) g := by funext Γ g; first | rfl | (simp only [evE]; done) | (simp only [evE]; rfl)
        rw [e2]
        exact e_sl (ih.e ok h.1.1) (ih.o ok h.1.2) (ih.o ok h.2)
      · cases h
    | idx a' b' =>
      dsimp only at h
      split at h
      · simp only [Bool.and_eq_true] at h
        have e2 : evE p.cs (den p k) (.idx a' b') = fun Γ g => (evE p.cs (den p k) a' Γ g).bind fun x g => (evE p.cs (den p k) b' Γ g).bind fun y g => lift (idxD x y) g := by funext Γ g; first | rfl | (simp only [evE]; done) | (simp only [evE]; rfl)
        rw [e2]
        exact e_idx ok.un ok.w (ih.e ok h.1.1) (ih.e ok h.1.2) (ix_of h.2)
      · cases h
    | lc elt' t it cond =>
      dsimp only at h
      split at h
      · rename_i elt tg iter ifs z scope pos
        simp only [Bool.and_eq_true, decide_eq_true_eq] at h
        obtain ⟨⟨⟨⟨⟨⟨hz, hb⟩, hs⟩, ht⟩, hi⟩, hc⟩, he⟩ := h
        subst hz
        obtain ⟨wi, g, tt, te, own, q1, q2, q3, q4, q5, q6, q7⟩ := lc_snd ih ok hb hs ht hi hc he
        exact f_tell (PE.imp (pe_lc ok.calm ok.nd q1 q2 q3 q4 q5 q6) q7) fun Γ g d g' e => lc_shape e
      · cases h
    | call f as =>
      dsimp only at h
      split at h
      · rename_i x q es pos
        simp only [Bool.and_eq_true, decide_eq_true_eq] at h
        obtain ⟨a, fd, ps, n1, n2, n3, n4, n5, n6⟩ := ok.ds f x h.1.1
        have hn := (chkA_len (n := n) h.2).1
        have e2 : evE p.cs (den p k) (.call f as) = fun Γ g => (evA p.cs (den p k) as Γ g).bind fun xs g => den p k f xs g := by funext Γ g; first | rfl | (simp only [evE]; done) | (simp only [evE]; rfl)
        rw [e2]
        cases es with
        | nil =>
          cases as with
          | nil =>
            have e3 : (fun Γ g => (evA p.cs (den p k) .nil Γ g).bind fun xs g => den p k f xs g) = fun (Γ : Gm) g => R.bind (R.ok [] g) fun xs g => den p k f xs g := by funext Γ g; simp only [evA]
            rw [e3]
            exact e_call0 n5 ok.room ok.gd (ok.gl h.1.2) n2 n3 n4 ok.pass n6 (okN1 n1)
          | cons _ _ => cases n <;> cases h.2
          | star _ _ => cases n <;> cases h.2
        | cons e es =>
          simp only [nSts, Bool.and_eq_true] at hn
          exact e_call n5 ok.room ok.gd (ok.gl h.1.2) n2 n3 n4 ok.pass n6 (ih.a ok h.2) (okN1 n1) (star_of hn.1 _ _) (back_of _ _ hn.2)
      · cases h
    | bi b as =>
      dsimp only at h
      split at h
      · rename_i x q es pos
        simp only [Bool.and_eq_true, decide_eq_true_eq] at h
        obtain ⟨⟨⟨rfl, hg⟩, ha⟩, hne⟩ := h
        have hn := (chkA_len (n := n) ha).1
        have e2 : evE p.cs (den p k) (.bi b as) = fun Γ g => (evA p.cs (den p k) as Γ g).bind fun xs g => lift (biD b xs) g := by funext Γ g; first | rfl | (simp only [evE]; done) | (simp only [evE]; rfl)
        rw [e2]
        cases es with
        | nil => cases hne
        | cons e es => exact ok.bi b hg (ih.a ok ha) hn
      · cases h
    | isi a' ts =>
      dsimp only at h
      split at h
      · rename_i x q a b pos
        simp only [Bool.and_eq_true, decide_eq_true_eq] at h
        obtain ⟨⟨⟨⟨rfl, hg⟩, ha⟩, hn⟩, ht⟩ := h
        have e2 : evE p.cs (den p k) (.isi a' ts) = fun Γ g => (evE p.cs (den p k) a' Γ g).bind fun x g => lift ((isiD ts x).map .bl) g := by funext Γ g; first | rfl | (simp only [evE]; done) | (simp only [evE]; rfl)
        rw [e2]
        have hm : X.mg "isinstance" = none := ok.bn _ (by simp [bNames])
        match ts, ht with
        | [t], ht =>
          have hb := ty_nst ht
          exact e_isi1 (tx := "") (p2 := q) (ih.e ok ha) (ok.ty ht) (ok.gl hg) hm (star_of hn _ _) (star_of hb _ _) (back_of _ _ (by simp only [nSts, Bool.and_eq_true]; exact ⟨hb, trivial⟩))
        | [t, u], ht =>
          dsimp only at ht
          split at ht
          · rename_i b1 b2 _ _ _
            simp only [Bool.and_eq_true] at ht
            have n1 := ty_nst ht.1
            have n2 := ty_nst ht.2
            have hb : PE X (.Tuple [b1, b2] ‹Nat› ‹Pos›) (tTup fun _ H Q => Q [.ty (tyN t), .ty (tyN u)] H) := pe_tup (pa_cons (ok.ty ht.1) (pa_cons (ok.ty ht.2) pa_nil (star_of n2 _ _)) (star_of n1 _ _))
            exact e_isi2 (tc := tNil) (ih.e ok ha) hb (ok.gl hg) hm (star_of hn _ _) rfl rfl
          · cases ht
        | [], ht => cases ht
        | _ :: _ :: _ :: _, ht => cases ht
      · cases h
    | cat a' b' =>
      dsimp only at h
      split at h
      · simp only [Bool.and_eq_true] at h
        have e2 : evE p.cs (den p k) (.cat a' b') = catR (evE p.cs (den p k) a') (evE p.cs (den p k) b') := by funext Γ g; simp only [evE, catR] <;> rfl
        rw [e2]
        exact f_tell (f_cat (ih.e ok h.1) (ih.e ok h.2)) fun Γ g d g' e => cat_shape e
      · cases h
    | rev a' =>
      dsimp only at h
      split at h
      · simp only [Bool.and_eq_true, decide_eq_true_eq] at h
        obtain ⟨rfl, h⟩ := h
        have e2 : evE p.cs (den p k) (.rev a') = revR (evE p.cs (den p k) a') := by funext Γ g; simp only [evE, revR] <;> rfl
        rw [e2]
        exact f_tell (f_rev (ih.e ok h)) fun Γ g d g' e => rev_shape e
      · cases h
    | idxO i b' =>
      dsimp only at h
      split at h
      · rename_i x q b pos
        simp only [Bool.and_eq_true, decide_eq_true_eq] at h
        obtain ⟨⟨⟨hN0, hv⟩, hb⟩, hs⟩ := h
        have hN : X.N[i]? = some x := by rw [ok.N]; exact hN0
        have hm := ok.nm x (List.mem_of_getElem? hN)
        have e2 : evE p.cs (den p k) (.idxO i b') = idxOR i (evE p.cs (den p k) b') := by funext Γ g; simp only [evE, idxOR] <;> rfl
        rw [e2]
        exact e_idxO ok.un ok.w (pe_var hN (by rw [ok.sc]; exact vis_of hv) (okN1 hm) (okN2 hm)) (ih.e ok hb) (ix_of hs)
      · cases h
    | emO neg i =>
      dsimp only at h
      split at h
      · rename_i x q op q2 pos
        simp only [Bool.and_eq_true, decide_eq_true_eq] at h
        obtain ⟨⟨h1, hN0⟩, hv⟩ := h
        have hN : X.N[i]? = some x := by rw [ok.N]; exact hN0
        have hm := ok.nm x (List.mem_of_getElem? hN)
        have e2 : evE p.cs (den p k) (.emO neg i) = emOR neg i := by funext Γ g; simp only [evE, emOR] <;> rfl
        rw [e2]
        have pv : PE X (.Name x q) (tVar i) := pe_var hN (by rw [ok.sc]; exact vis_of hv) (okN1 hm) (okN2 hm)
        cases neg <;> cases op <;> (try (cases h1; done))
        · exact PE.imp (pe_cmpR (op_eqNil ok.un) pv (pe_lst pa_nil) rfl) fun σ H Q z => em_read z
        · exact PE.imp (pe_cmpR (op_neNil ok.un) pv (pe_lst pa_nil) rfl) fun σ H Q z => em_read z
      · cases h
    | tupS as =>
      dsimp only at h
      split at h
      · have e2 : evE p.cs (den p k) (.tupS as) = fun Γ g => (evA p.cs (den p k) as Γ g).bind fun xs g => if xs.length ≤ 1000000 then .ok (.tup xs) g else .st := by funext Γ g; simp only [evE] <;> rfl
        rw [e2]
        exact e_tupS (ih.as ok h)
      · cases h
    | dnil =>
      dsimp only at h
      split at h
      · have e2 : evE p.cs (den p k) .dnil = fun _ g => .ok (.dct [] []) g := by funext Γ g; simp only [evE]
        rw [e2]
        exact f_tell f_dnil fun Γ g d g' e => by cases e; rfl
      · cases h
    | done k' v' =>
      dsimp only at h
      split at h
      · simp only [Bool.and_eq_true] at h
        have e2 : evE p.cs (den p k) (.done k' v') = doneR (evE p.cs (den p k) k') (evE p.cs (den p k) v') := by funext Γ g; simp only [evE, doneR] <;> rfl
        rw [e2]
        exact f_tell (f_done ok.un ok.w (ih.e ok h.1) (ih.e ok h.2)) fun Γ g d g' e => done_shape e
      · cases h
    | inO neg a' i =>
      dsimp only at h
      split at h
      · rename_i a op x q pos
        simp only [Bool.and_eq_true, decide_eq_true_eq] at h
        obtain ⟨⟨⟨h1, ha⟩, hN0⟩, hv⟩ := h
        have hN : X.N[i]? = some x := by rw [ok.N]; exact hN0
        have hm := ok.nm x (List.mem_of_getElem? hN)
        have e2 : evE p.cs (den p k) (.inO neg a' i) = inOR neg (evE p.cs (den p k) a') i := by funext Γ g; simp only [evE, inOR] <;> rfl
        rw [e2]
        have pv : PE X (.Name x q) (tVar i) := pe_var hN (by rw [ok.sc]; exact vis_of hv) (okN1 hm) (okN2 hm)
        cases neg <;> cases op <;> (try (cases h1; done))
        · exact e_inO (neg := false) ok.un ok.w (ih.e ok ha) pv rfl
        · exact e_inO (neg := true) ok.un ok.w (ih.e ok ha) pv rfl
      · cases h
    | lrng1 a' =>
      dsimp only at h
      split at h
      · rename_i f q1 r q2 a q3 q4
        simp only [Bool.and_eq_true, decide_eq_true_eq] at h
        obtain ⟨⟨⟨⟨⟨rfl, hg⟩, rfl⟩, hg2⟩, ha⟩, hn⟩ := h
        have e2 : evE p.cs (den p k) (.lrng1 a') = lrng1R (evE p.cs (den p k) a') := by funext Γ g; simp only [evE, lrng1R] <;> rfl
        rw [e2]
        exact f_tell (f_lrng1 ok.calm (ok.gl hg) (ok.bn _ (by simp [bNames])) (ok.gl hg2) (ok.bn _ (by simp [bNames])) (ih.e ok ha) (star_of hn _ _)) fun Γ g d g' e => lrng1_shape e
      · cases h
    | lrng2 a' b' =>
      dsimp only at h
      split at h
      · rename_i f q1 r q2 a b q3 q4
        simp only [Bool.and_eq_true, decide_eq_true_eq] at h
        obtain ⟨⟨⟨⟨⟨⟨⟨rfl, hg⟩, rfl⟩, hg2⟩, ha⟩, hn⟩, hb⟩, hn2⟩ := h
        have e2 : evE p.cs (den p k) (.lrng2 a' b') = lrng2R (evE p.cs (den p k) a') (evE p.cs (den p k) b') := by funext Γ g; simp only [evE, lrng2R] <;> rfl
        rw [e2]
        exact f_tell (f_lrng2 ok.calm (ok.gl hg) (ok.bn _ (by simp [bNames])) (ok.gl hg2) (ok.bn _ (by simp [bNames])) (ih.e ok ha) (ih.e ok hb) (star_of hn _ _) (star_of hn2 _ _) (by rw [star_of hn2]; rfl)) fun Γ g d g' e => lrng2_shape e
      · cases h
    | lenO i =>
      dsimp only at h
      split at h
      · rename_i f q x q2 pos
        simp only [Bool.and_eq_true, decide_eq_true_eq] at h
        obtain ⟨⟨⟨rfl, hg⟩, hN0⟩, hv⟩ := h
        have hN : X.N[i]? = some x := by rw [ok.N]; exact hN0
        have hm := ok.nm x (List.mem_of_getElem? hN)
        have e2 : evE p.cs (den p k) (.lenO i) = lenOR i := by funext Γ g; simp only [evE, lenOR] <;> rfl
        rw [e2]
        exact e_lenO ok.w (pe_var hN (by rw [ok.sc]; exact vis_of hv) (okN1 hm) (okN2 hm)) (ok.gl hg) (ok.bn _ (by simp [bNames]))
      · cases h
    | lstS as =>
      dsimp only at h
      split at h
      · have e2 : evE p.cs (den p k) (.lstS as) = fun Γ g => (evA p.cs (den p k) as Γ g).bind fun xs g => if xs.length ≤ 1000000 then .ok (.lst xs) g else .st := by funext Γ g; simp only [evE] <;> rfl
        rw [e2]
        exact f_tell (f_lstS (ih.as ok h)) fun Γ g d g' e => lstS_shape e
      · cases h
    | said v tb e' =>
      dsimp only at h
      split at h
      · rename_i x q params body scope lp pos
        simp only [Bool.and_eq_true, decide_eq_true_eq] at h
        obtain ⟨⟨⟨⟨h1, h2⟩, h3⟩, h4⟩, h5⟩ := h
        split at h4
        · rename_i ys hys
          have e2 : evE p.cs (den p k) (.said v tb e') = fun Γ g => caughtR tb (evE p.cs (den p k) e' Γ g) := by funext Γ g; simp only [evE]
          rw [e2]
          exact e_said ok h1 h2 h3 (lamYs_ok hys) (lamQ_ok h4) fun hr hg => ih.e (ok.lamc hr hg) h5
        · cases h4
      · cases h
    | draw a' b' =>
      dsimp only at h
      split at h
      · rename_i x q a b pos
        simp only [Bool.and_eq_true, decide_eq_true_eq] at h
        obtain ⟨⟨⟨⟨⟨rfl, hg⟩, ha⟩, hb⟩, n1⟩, n2⟩ := h
        obtain ⟨f, fd, ps, d1, d2, d3, d4⟩ := ok.dr
        have e2 : evE p.cs (den p k) (.draw a' b') = fun Γ g => (evE p.cs (den p k) a' Γ g).bind fun x g => (evE p.cs (den p k) b' Γ g).bind fun y g => drawR x y g := by funext Γ g; simp only [evE]; rfl
        rw [e2]
        exact e_draw d4 ok.room ok.gd (ok.gl hg) d1 d2 d3 ok.pass (ih.e ok ha) (ih.e ok hb) (by decide) (star_of n1 _ _) (star_of n2 _ _) (back_of _ _ (by simp only [nSts, Bool.and_eq_true]; exact ⟨n2, trivial⟩))
      · cases h
end
end Bk

set_option Elab.async false
set_option linter.all false
set_option maxRecDepth 100000
set_option maxHeartbeats 4000000
/-! The evaluator is sound: tests, arguments, walks. -/
namespace Bk
open PySem L2
open Evl (Ex ex_l ex_t)
section
variable {CX : CXT} {W : Wd} {pn : PrN} {p : Pr} {k : Nat}
theorem snd_w {n : Nat} (ih : SE CX W pn p k n) {c : Cxt} {Ew : XK} {X : Cx} (ok : Ok CX W pn p k c Ew X) {op : BoolOp} {es : List Expr} {pos : Pos} {E : E} (h : chkE (n + 1) pn c (.BoolOp op es pos) E = true) :
    PW X (.BoolOp op es pos) (tTt X.K W Ew fun Γ g => blR (evE p.cs (den p k) E Γ g)) := by
  unfold chkE at h
  split at h
  · rename_i x hx
    obtain ⟨op', pos', e⟩ := one_some hx
    cases e
    cases op with
    | And => exact pw_and1 (ih.t ok h)
    | Or => exact pw_or1 (ih.t ok h)
  · cases E with
    | and a b =>
      dsimp only at h
      split at h
      · rename_i x y r pos' e
        cases e
        simp only [Bool.and_eq_true] at h
        have e2 : evE p.cs (den p k) (.and a b) = andR (evE p.cs (den p k) a) (evE p.cs (den p k) b) := by funext Γ g; first | rfl | (simp only [evE, andR]; done) | (simp only [evE, andR]; rfl)
        rw [e2]
        exact w_and (ih.t ok h.1) (ih.w ok h.2)
      · cases h
    | or a b =>
      dsimp only at h
      split at h
      · rename_i x y r pos' e
        cases e
        simp only [Bool.and_eq_true] at h
        have e2 : evE p.cs (den p k) (.or a b) = orR (evE p.cs (den p k) a) (evE p.cs (den p k) b) := by funext Γ g; first | rfl | (simp only [evE, orR]; done) | (simp only [evE, orR]; rfl)
        rw [e2]
        exact w_or (ih.t ok h.1) (ih.w ok h.2)
      · cases h
    | _ => cases h
/-- what is asked by its value -/
def plT : Expr → Bool
  | .UnaryOp .Not _ _ => false
  | .BoolOp .. => false
  | .IfExp .. => false
  | .Compare .. => false
  | _ => true
theorem plT_of {e : Expr} (h : plT e = true) (env : Env) : ∀ whole, PySem.isTrue e env whole = (do let v ← whole; standAt e.pos; holding [v] (truthy v)) := by
  intro whole
  cases e <;> first | rfl | (cases h; done) | skip
  rename_i op a pos
  cases op <;> first | rfl | cases h
theorem snd_t {n : Nat} (ih : SE CX W pn p k n) {c : Cxt} {Ew : XK} {X : Cx} (ok : Ok CX W pn p k c Ew X) {e : Expr} {E : E} (h : chkE (n + 1) pn c e E = true) : PT X e (tTt X.K W Ew fun Γ g => blR (evE p.cs (den p k) E Γ g)) := by
  by_cases hp : plT e = true
  · exact t_val (snd_e ih ok h) (plT_of hp X.env)
  · cases e with
    | BoolOp op es pos => exact (snd_w ih ok h).pt
    | UnaryOp op a pos =>
      cases op with
      | Not =>
        unfold chkE at h
        split at h
        · rename_i x hx; cases hx
        · cases E with
          | not a' =>
            dsimp only at h
            have e2 : evE p.cs (den p k) (.not a') = fun Γ g => (blR (evE p.cs (den p k) a' Γ g)).bind fun k g => .ok (.bl (!k)) g := by funext Γ g; first | rfl | (simp only [evE]; done) | (simp only [evE]; rfl)
            rw [e2]
            exact t_not (ih.t ok h)
          | _ => cases h
      | _ => exact absurd rfl hp
    | IfExp t a b pos =>
      unfold chkE at h
      split at h
      · rename_i x hx; cases hx
      · cases E with
        | ife t' a' b' =>
          dsimp only at h
          simp only [Bool.and_eq_true] at h
          have e2 : evE p.cs (den p k) (.ife t' a' b') = ifeR (evE p.cs (den p k) t') (evE p.cs (den p k) a') (evE p.cs (den p k) b') := by funext Γ g; first | rfl | (simp only [evE, ifeR]; done) | (simp only [evE, ifeR]; rfl)
          rw [e2]
          exact t_ife (ih.t ok h.1.1) (ih.t ok h.1.2) (ih.t ok h.2)
        | _ => cases h
    | Compare a ops bs pos =>
      unfold chkE at h
      split at h
      · rename_i x hx; cases hx
      · cases E with
        | cmp o a' b' =>
          dsimp only at h
          split at h
          · rename_i e
            cases e
            simp only [Bool.and_eq_true] at h
            rw [cm_of h.1.1.1]
            have e2 : evE p.cs (den p k) (.cmp o a' b') = fun Γ g => (evE p.cs (den p k) a' Γ g).bind fun x g => (evE p.cs (den p k) b' Γ g).bind fun y g => lift ((cmpD o x y).map .bl) g := by funext Γ g; first | rfl | (simp only [evE]; done) | (simp only [evE]; rfl)
            rw [e2]
            exact t_cmp ok.un ok.w o (ih.e ok h.1.1.2) (ih.e ok h.1.2) (marks_of h.2 _)
          · cases h
        | emO neg i =>
          dsimp only at h
          split at h
          · rename_i x q op q2 pos' e
            cases e
            simp only [Bool.and_eq_true, decide_eq_true_eq] at h
            obtain ⟨⟨h1, hN0⟩, hv⟩ := h
            have hN : X.N[i]? = some x := by rw [ok.N]; exact hN0
            have hm := ok.nm x (List.mem_of_getElem? hN)
            have e2 : evE p.cs (den p k) (.emO neg i) = emOR neg i := by funext Γ g; simp only [evE, emOR] <;> rfl
            rw [e2]
            have pv : PE X (.Name x q) (tVar i) := pe_var hN (by rw [ok.sc]; exact vis_of hv) (okN1 hm) (okN2 hm)
            cases neg <;> cases op <;> (try (cases h1; done))
            · exact PT.imp (pt_cmpR (op_eqNil ok.un) pv (pe_lst pa_nil) rfl) fun σ H Q z => tm_read z
            · exact PT.imp (pt_cmpR (op_neNil ok.un) pv (pe_lst pa_nil) rfl) fun σ H Q z => tm_read z
          · cases h
        | inO neg a' i =>
          dsimp only at h
          split at h
          · rename_i a0 op x q pos' e
            cases e
            simp only [Bool.and_eq_true, decide_eq_true_eq] at h
            obtain ⟨⟨⟨h1, ha⟩, hN0⟩, hv⟩ := h
            have hN : X.N[i]? = some x := by rw [ok.N]; exact hN0
            have hm := ok.nm x (List.mem_of_getElem? hN)
            have e2 : evE p.cs (den p k) (.inO neg a' i) = inOR neg (evE p.cs (den p k) a') i := by funext Γ g; simp only [evE, inOR] <;> rfl
            rw [e2]
            have pv : PE X (.Name x q) (tVar i) := pe_var hN (by rw [ok.sc]; exact vis_of hv) (okN1 hm) (okN2 hm)
            cases neg <;> cases op <;> (try (cases h1; done))
            · exact t_inO (neg := false) ok.un ok.w (ih.e ok ha) pv rfl
            · exact t_inO (neg := true) ok.un ok.w (ih.e ok ha) pv rfl
          · cases h
        | chn o o' a' b' d' =>
          dsimp only at h
          split at h
          · rename_i e
            cases e
            simp only [Bool.and_eq_true] at h
            rw [cm_of h.1.1.1.1.1, cm_of h.1.1.1.1.2]
            have e2 : evE p.cs (den p k) (.chn o o' a' b' d') = chnR o o' (evE p.cs (den p k) a') (evE p.cs (den p k) b') (evE p.cs (den p k) d') := by funext Γ g; first | rfl | (simp only [evE, chnR]; done) | (simp only [evE, chnR]; rfl)
            rw [e2]
            exact t_chn ok.un ok.w o o' (ih.e ok h.1.1.1.2) (ih.e ok h.1.1.2) (ih.e ok h.1.2) (by show behindInMarks _ _ = false; exact marks_of h.2 _)
          · cases h
        | _ => cases h
    | _ => exact absurd rfl hp
theorem snd_o {n : Nat} (ih : SE CX W pn p k n) {c : Cxt} {Ew : XK} {X : Cx} (ok : Ok CX W pn p k c Ew X) {e : Option Expr} {E : Option E} (h : chkO (n + 1) pn c e E = true) : PO X e (tOo X.K W Ew (evO p.cs (den p k) E)) := by
  cases e with
  | none =>
    cases E with
    | none =>
      have e2 : evO p.cs (den p k) none = fun _ g => .ok none g := by funext Γ g; first | rfl | (simp only [evO]; done) | (simp only [evO]; rfl)
      rw [e2]
      exact o_none
    | some _ => cases h
  | some e =>
    cases E with
    | none => cases h
    | some E =>
      simp only [chkO] at h
      have e2 : evO p.cs (den p k) (some E) = fun Γ g => (evE p.cs (den p k) E Γ g).bind fun x g => match x with | .int i => .ok (some i) g | _ => .st := by funext Γ g; first | rfl | (simp only [evO]; done) | (simp only [evO]; rfl)
      rw [e2]
      exact o_some (ih.e ok h)
theorem snd_a {n : Nat} (ih : SE CX W pn p k n) {c : Cxt} {Ew : XK} {X : Cx} (ok : Ok CX W pn p k c Ew X) {es : List Expr} {as : A} (h : chkA (n + 1) pn c es as = true) : PA X es (tAa X.K W Ew (evA p.cs (den p k) as)) := by
  cases es with
  | nil =>
    cases as with
    | nil =>
      have e2 : evA p.cs (den p k) .nil = fun _ g => .ok [] g := by funext Γ g; first | rfl | (simp only [evA]; done) | (simp only [evA]; rfl)
      rw [e2]
      exact a_nil
    | cons _ _ => cases h
    | star _ _ => cases h
  | cons e es =>
    cases as with
    | nil => cases h
    | star _ _ => cases h
    | cons e' as =>
      simp only [chkA, Bool.and_eq_true] at h
      have e2 : evA p.cs (den p k) (.cons e' as) = fun Γ g => (evE p.cs (den p k) e' Γ g).bind fun x g => (evA p.cs (den p k) as Γ g).bind fun xs g => .ok (x :: xs) g := by funext Γ g; first | rfl | (simp only [evA]; done) | (simp only [evA]; rfl)
      rw [e2]
      exact a_cons (ih.e ok h.1.2) (ih.a ok h.2) (star_of h.1.1 _ _)
theorem snd_as {n : Nat} (ih : SE CX W pn p k n) {c : Cxt} {Ew : XK} {X : Cx} (ok : Ok CX W pn p k c Ew X) {es : List Expr} {as : A} (h : chkAS (n + 1) pn c es as = true) : PA X es (tAa X.K W Ew (evA p.cs (den p k) as)) := by
  cases as with
  | nil =>
    cases es with
    | nil =>
      have e2 : evA p.cs (den p k) .nil = fun _ g => .ok [] g := by funext Γ g; first | rfl | (simp only [evA]; done) | (simp only [evA]; rfl)
      rw [e2]
      exact a_nil
    | cons e es => simp only [chkAS] at h; cases h
  | cons e' as =>
    cases es with
    | nil => simp only [chkAS] at h; cases h
    | cons e es =>
      simp only [chkAS, Bool.and_eq_true] at h
      have e2 : evA p.cs (den p k) (.cons e' as) = fun Γ g => (evE p.cs (den p k) e' Γ g).bind fun x g => (evA p.cs (den p k) as Γ g).bind fun xs g => .ok (x :: xs) g := by funext Γ g; first | rfl | (simp only [evA]; done) | (simp only [evA]; rfl)
      rw [e2]
      exact a_cons (ih.e ok h.1.2) (ih.as ok h.2) (star_of h.1.1 _ _)
  | star e' as =>
    have e2 : evA p.cs (den p k) (.star e' as) = starR (evE p.cs (den p k) e') (evA p.cs (den p k) as) := by funext Γ g; simp only [evA, starR] <;> rfl
    rw [e2]
    cases es with
    | nil => simp only [chkAS] at h; cases h
    | cons e es =>
      cases e with
      | Starred e pos =>
        simp only [chkAS, Bool.and_eq_true] at h
        exact a_star (ih.e ok h.1) (ih.as ok h.2)
      | _ => simp only [chkAS] at h; cases h
theorem snd_i {n : Nat} (ih : SE CX W pn p k n) {c : Cxt} {Ew : XK} {X : Cx} (ok : Ok CX W pn p k c Ew X) {tg e : Expr} {E : I} (h : chkI (n + 1) pn c tg e E = true) : PI X tg e (tIi X.K W Ew (evI p.cs (den p k) E)) := by
  have mr : X.mg "range" = none := ok.bn _ (by simp [bNames])
  have mz : X.mg "zip" = none := ok.bn _ (by simp [bNames])
  have me : X.mg "enumerate" = none := ok.bn _ (by simp [bNames])
  cases E with
  | seq e' =>
    simp only [chkI] at h
    have e2 : evI p.cs (den p k) (.seq e') = fun Γ g => (evE p.cs (den p k) e' Γ g).bind fun x g => lift (seqD x) g := by funext Γ g; first | rfl | (simp only [evI]; done) | (simp only [evI]; rfl)
    rw [e2]
    exact i_seq (ih.e ok h)
  | rng1 a' =>
    simp only [chkI] at h
    split at h
    · simp only [Bool.and_eq_true, decide_eq_true_eq] at h
      obtain ⟨⟨⟨rfl, hg⟩, ha⟩, hn⟩ := h
      have e2 : evI p.cs (den p k) (.rng1 a') = fun Γ g => (evE p.cs (den p k) a' Γ g).bind fun x g => match x with | .int i => if -1000000 ≤ i ∧ i ≤ 1000000 then .ok (rngD 0 i.toNat) g else .st | _ => .st := by funext Γ g; first | rfl | (simp only [evI]; done) | (simp only [evI]; rfl)
      rw [e2]
      exact i_rng1 (ok.gl hg) mr (ih.e ok ha) (star_of hn _ _)
    · cases h
  | rng2 a' b' =>
    simp only [chkI] at h
    split at h
    · simp only [Bool.and_eq_true, decide_eq_true_eq] at h
      obtain ⟨⟨⟨⟨⟨rfl, hg⟩, ha⟩, hb⟩, n1⟩, n2⟩ := h
      have e2 : evI p.cs (den p k) (.rng2 a' b') = fun Γ g => (evE p.cs (den p k) a' Γ g).bind fun x g => (evE p.cs (den p k) b' Γ g).bind fun y g => match x, y with
        | .int i, .int j => if (-1000000 ≤ i ∧ i ≤ 1000000) ∧ -1000000 ≤ j ∧ j ≤ 1000000 then .ok (rngD i (j - i).toNat) g else .st
        | _, _ => .st := by funext Γ g; first | rfl | (simp only [evI]; done) | (simp only [evI]; rfl)
      rw [e2]
      exact i_rng2 (ok.gl hg) mr (ih.e ok ha) (ih.e ok hb) (star_of n1 _ _) (star_of n2 _ _)
    · cases h
  | zip a' b' =>
    simp only [chkI] at h
    split at h
    · simp only [Bool.and_eq_true, decide_eq_true_eq] at h
      obtain ⟨⟨⟨⟨⟨rfl, hg⟩, ha⟩, hb⟩, n1⟩, n2⟩ := h
      have e2 : evI p.cs (den p k) (.zip a' b') = fun Γ g => (evE p.cs (den p k) a' Γ g).bind fun x g => (evE p.cs (den p k) b' Γ g).bind fun y g => match itemsD x, itemsD y with
        | some xs, some ys => .ok (zipD xs ys) g
        | _, _ => .st := by funext Γ g; first | rfl | (simp only [evI]; done) | (simp only [evI]; rfl)
      rw [e2]
      exact i_zip (ok.gl hg) mz (ih.e ok ha) (ih.e ok hb) (star_of n1 _ _) (star_of n2 _ _) (back_of _ _ (by simp only [nSts, Bool.and_eq_true]; exact ⟨n2, trivial⟩))
    · cases h
  | enum a' =>
    simp only [chkI] at h
    split at h
    · simp only [Bool.and_eq_true, decide_eq_true_eq] at h
      obtain ⟨⟨⟨rfl, hg⟩, ha⟩, hn⟩ := h
      have e2 : evI p.cs (den p k) (.enum a') = fun Γ g => (evE p.cs (den p k) a' Γ g).bind fun x g => match itemsD x with
        | some xs => .ok (enumD 0 xs) g
        | _ => .st := by funext Γ g; first | rfl | (simp only [evI]; done) | (simp only [evI]; rfl)
      rw [e2]
      exact i_enum (ok.gl hg) me (ih.e ok ha) (star_of hn _ _)
    · cases h
theorem se_all : ∀ n, SE CX W pn p k n
  | 0 => ⟨fun _ _ _ h => (by unfold chkE at h; cases h), fun _ _ _ h => (by unfold chkE at h; cases h), fun _ _ _ _ _ h => (by unfold chkE at h; cases h), fun _ _ _ h => (by unfold chkO at h; cases h), fun _ _ _ h => (by unfold chkA at h; cases h), fun _ _ _ h => (by unfold chkAS at h; cases h), fun _ _ _ _ h => (by unfold chkI at h; cases h)⟩
  | n + 1 => by
    have ih := se_all n
    exact ⟨fun ok _ _ h => snd_e ih ok h, fun ok _ _ h => snd_t ih ok h, fun ok _ _ _ _ h => snd_w ih ok h, fun ok _ _ h => snd_o ih ok h, fun ok _ _ h => snd_a ih ok h, fun ok _ _ h => snd_as ih ok h, fun ok _ _ _ h => snd_i ih ok h⟩
end
end Bk

set_option Elab.async false
set_option linter.all false
set_option maxRecDepth 100000
set_option maxHeartbeats 4000000
/-! Statements: a rule for each form. -/
namespace Bk
open PySem L2
open Evl (Ex ex_l ex_t)
section
variable (K : PySem.W.Frag) (W : Wd) (Ew : XK) (Hk0 H0 : Hp)
def FinS (Hb : Hp) (Dn : Ends) (r : R Fl) : Prop := match r with
  | .ok (.nx Γ') g' => ∀ σ' Hk' H', Fr K W Hk0 H0 Γ' g' σ' Hk' H' → Ex Hb Hk' → Dn.nx σ' H'
  | .ok (.rt d) g' => ∀ v Hk' H', Step W Hk0 H0 Hk' H' → DrawAt W g' H' → Rp K W Hk' d v → Dn.rt v H'
  | .ex c ds g' => ∀ Hk' H' cls dx, Step W Hk0 H0 Hk' H' → DrawAt W g' H' → ExcAt W c ds cls dx Hk' H' → Ew cls dx H'
  | .st => False
def tSt (ev : Gm → G → R Fl) : TS := fun Dn σ H => ∃ Hb Γ g Hk, Fr K W Hk0 H0 Γ g σ Hk H ∧ Ex Hb Hk ∧ FinS K W Ew Hk0 H0 Hb Dn (ev Γ g)
end
section
variable {X : Cx} {W : Wd} {Ew : XK} {Hk0 H0 Hk H : Hp} {Γ : Gm} {g : G} {σ : L2.St} {K : PySem.W.Frag} {Dn : Ends} {Hb : Hp}
theorem PS.imp {s : Stmt} {t t' : TS} (h : PS X s t') (i : ∀ D σ H, t D σ H → t' D σ H) : PS X s t := ⟨fun pins s σ H D I q => h.run pins s σ H D I (i D σ H q)⟩
theorem PSs.imp {s : List Stmt} {t t' : TS} (h : PSs X s t') (i : ∀ D σ H, t D σ H → t' D σ H) : PSs X s t := ⟨fun pins s σ H D I q => h.run pins s σ H D I (i D σ H q)⟩
theorem FinS.bind {α : Type} {r : R α} {k : α → G → R Fl} (fr : Fr K W Hk0 H0 Γ g σ Hk H) (h : FinS K W Ew Hk0 H0 Hb Dn (r.bind k)) : Fin W Ew Hk H r fun a g' _ _ => FinS K W Ew Hk0 H0 Hb Dn (k a g') := by
  cases r with
  | ok a g' => exact fun _ _ _ _ => h
  | ex c ds g' => exact fun Hk' H' cls dx s dr x => h Hk' H' cls dx (fr.en.trans s) dr x
  | st => exact h
theorem seqSE {f : Gm → G → R D} {k : D → G → R Fl} {Q : VK} (fr : Fr K W Hk0 H0 Γ g σ Hk H) (h : FinS K W Ew Hk0 H0 Hb Dn ((f Γ g).bind k))
    (hq : ∀ v d g' Hk' H', Fr K W Hk0 H0 Γ g' σ Hk' H' → Step W Hk H Hk' H' → Rp K W Hk' d v → FinS K W Ew Hk0 H0 Hb Dn (k d g') → Q v H') : tE K W Ew f σ H Q :=
  ⟨Hk0, H0, Γ, g, Hk, fr, (FinS.bind fr h).mono fun d g' Hk' H' s dr kq v r => hq v d g' Hk' H' (fr.step s dr) s r kq⟩
theorem seqST {f : Gm → G → R Bool} {k : Bool → G → R Fl} {Q : Bool → Hp → Prop} (fr : Fr K W Hk0 H0 Γ g σ Hk H) (h : FinS K W Ew Hk0 H0 Hb Dn ((f Γ g).bind k))
    (hq : ∀ b g' Hk' H', Fr K W Hk0 H0 Γ g' σ Hk' H' → Step W Hk H Hk' H' → FinS K W Ew Hk0 H0 Hb Dn (k b g') → Q b H') : tTt K W Ew f σ H Q :=
  ⟨Hk0, H0, Γ, g, Hk, fr, (FinS.bind fr h).mono fun d g' Hk' H' s dr kq => hq d g' Hk' H' (fr.step s dr) s kq⟩
theorem seqSI {f : Gm → G → R (List D)} {k : List D → G → R Fl} {Q : It → Hp → Prop} (fr : Fr K W Hk0 H0 Γ g σ Hk H) (h : FinS K W Ew Hk0 H0 Hb Dn ((f Γ g).bind k))
    (hq : ∀ J ds g' Hk' H', Fr K W Hk0 H0 Γ g' σ Hk' H' → Step W Hk H Hk' H' → ItOk K W J ds Hk' → FinS K W Ew Hk0 H0 Hb Dn (k ds g') → Q J H') : tIi K W Ew f σ H Q :=
  ⟨Hk0, H0, Γ, g, Hk, fr, (FinS.bind fr h).mono fun d g' Hk' H' s dr kq v r => hq v d g' Hk' H' (fr.step s dr) s r kq⟩
/-- a new list, then the rest -/
theorem seqSF {f : Gm → G → R D} {k : D → G → R Fl} {Q : VK} (fr : Fr K W Hk0 H0 Γ g σ Hk H) (h : FinS K W Ew Hk0 H0 Hb Dn ((f Γ g).bind k))
    (hq : ∀ p u d g' Hk' H', Fr K W Hk0 H0 Γ g' σ Hk' H' → Step W Hk H Hk' H' → H p = none → Hk' p = none → H' p = some u → Ob K W Hk' d p u → FinS K W Ew Hk0 H0 Hb Dn (k d g') → Q (.ref p) H') : tFf K W Ew f σ H Q :=
  ⟨Hk0, H0, Γ, g, Hk, fr, (FinS.bind fr h).mono fun d g' Hk' H' s dr kq p u h1 h2 h3 h4 => hq p u d g' Hk' H' (fr.step s dr) s h1 h2 h3 h4 kq⟩
theorem Fr.hn (fr : Fr K W Hk0 H0 Γ g σ Hk H) {p : Addr} (hp : H p = none) : ∀ (j : Nat) (q : D), Γ[j]? = some (Slot.own q) → σ[j]? ≠ some (some (V.ref p)) := by
  intro j q e1 e2
  obtain ⟨os, sl, _⟩ := fr.sl
  obtain ⟨p', xs, h2, _, h4, _⟩ := sl.obj_at e1
  rw [e2] at h2
  cases h2
  rw [hp] at h4
  cases h4
theorem Fr.outp (fr : Fr K W Hk0 H0 Γ g σ Hk H) {p : Addr} (hp : H p = none) : W.out p := ex_upd_out fr.wk.dr hp
theorem Fr.h0 (fr : Fr K W Hk0 H0 Γ g σ Hk H) {p : Addr} (hp : H p = none) : H0 p = none := none_back fr.en hp
/-- blocks -/
def seqR (f h : Gm → G → R Fl) : Gm → G → R Fl := fun Γ g => (f Γ g).bind fun fl g => match fl with
  | .nx Γ' => h Γ' g
  | .rt d => .ok (.rt d) g
theorem s_cons {st : Stmt} {rest : List Stmt} {f h : Gm → G → R Fl} (h1 : PS X st (tSt X.K W Ew Hk0 H0 f)) (h2 : PSs X rest (tSt X.K W Ew Hk0 H0 h)) : PSs X (st :: rest) (tSt X.K W Ew Hk0 H0 (seqR f h)) :=
  PSs.imp (pss_cons h1 h2) fun Dn σ H ⟨Hb, Γ, g, Hk, fr, eb, q⟩ => ⟨Hb, Γ, g, Hk, fr, eb, by
    unfold seqR at q
    cases e : f Γ g with
    | ok fl g' =>
      rw [e] at q
      cases fl with
      | nx Γ' => exact fun σ' Hk' H' fr' eb' => ⟨Hb, Γ', g', Hk', fr', eb', q⟩
      | rt d => exact q
    | ex c ds g' => rw [e] at q; exact q
    | st => rw [e] at q; exact q⟩
theorem s_nil : PSs X [] (tSt X.K W Ew Hk0 H0 fun Γ g => .ok (.nx Γ) g) := PSs.imp pss_nil fun Dn σ H ⟨Hb, Γ, g, Hk, fr, eb, q⟩ => q σ Hk H fr eb
theorem s_stop {st : Stmt} : PS X st (tSt X.K W Ew Hk0 H0 fun _ _ => .st) := PS.imp ps_never fun Dn σ H ⟨Hb, Γ, g, Hk, fr, eb, q⟩ => q.elim
/-- raise C(e, ..) -/
theorem s_rais {CX : CXT} {pn : PrN} {p : Pr} {k : Nat} {cc : Cxt} (o : Ok CX W pn p k cc Ew X) {c : Nat} {x : Str} {ns : List Str} (hx : pn.xs.lookup c = some (x, ns)) (hg : glB cc.sc x = true) {e : Expr} {es : List Expr} {q q' pos : Pos} {fs : Gm → G → R (List D)} (ha : PA X (e :: es) (tAa X.K W Ew fs)) (hn : nSts (e :: es) = true)
    (hlen : ∀ Γ g ds g', fs Γ g = .ok ds g' → ds.length = ns.length) : PS X (.Raise (some (.Call (.Name x q) (e :: es) [] q')) none pos) (tSt X.K W Ew Hk0 H0 fun Γ g => (fs Γ g).bind fun ds g => .ex c ds g) := by
  obtain ⟨C, h1, h2, h3, h4⟩ := o.xs c x ns hx
  simp only [nSts, Bool.and_eq_true] at hn
  refine PS.imp (ps_raise o.calm o.tk (pmk_x h4 (o.room.mono (by unfold ix; omega)) (o.gl hg) h3 ha (okN1 h2) (star_of hn.1 _ _) (back_of _ _ hn.2))) fun Dn σ H ⟨Hb, Γ, g, Hk, fr, eb, qq⟩ => ?_
  refine ⟨Hk0, H0, Γ, g, Hk, fr, (FinS.bind fr qq).monoE fun ds g' Hk' H' ee s dr kq vs r => ?_⟩
  have hl := hlen Γ g ds g' ee
  have hvl : vs.length = ns.length := by rw [r.len, hl]
  refine ⟨hvl, fun d hd => ?_⟩
  have fr1 := fr.step s dr
  refine kq Hk' (upd H' d (.xd (ns.zip vs).reverse)) (.ref C) (some d) (fr1.en.trans (Step.hid fr1.wk.ex hd)) (dr.new hd) ⟨C, ns, d, _, h1, rfl, rfl, upd_same, ?_⟩
  rw [o.kk]
  refine flds_zip hvl r fun z hz => ?_
  refine lookup_nd ?_ (by simpa using hz)
  rw [List.map_reverse]
  refine (List.reverse_perm _).nodup_iff.mpr ?_
  rw [map_zip hvl]
  exact h4.nd
theorem s_pass {pos : Pos} : PS X (.Pass pos) (tSt X.K W Ew Hk0 H0 fun Γ g => .ok (.nx Γ) g) := PS.imp ps_pass fun Dn σ H ⟨Hb, Γ, g, Hk, fr, eb, q⟩ => q σ Hk H fr eb
variable {e : Expr} {fe : Gm → G → R D} {pos : Pos}
theorem s_expr (he : PE X e (tE X.K W Ew fe)) (hs : swapsWith e none pos.line X.env = pure false) : PS X (.Expr e pos) (tSt X.K W Ew Hk0 H0 fun Γ g => (fe Γ g).bind fun _ g => .ok (.nx Γ) g) :=
  PS.imp (ps_expr he hs) fun Dn σ H ⟨Hb, Γ, g, Hk, fr, eb, q⟩ => seqSE fr q fun v d g' Hk' H' fr' s r h => h σ Hk' H' fr' (eb.trans s.k)
theorem s_ret (he : PE X e (tE X.K W Ew fe)) : PS X (.Return (some e) pos) (tSt X.K W Ew Hk0 H0 fun Γ g => (fe Γ g).bind fun x g => .ok (.rt x) g) :=
  PS.imp (ps_ret he) fun Dn σ H ⟨Hb, Γ, g, Hk, fr, eb, q⟩ => seqSE fr q fun v d g' Hk' H' fr' s r h => h v Hk' H' fr'.en fr'.wk.dr r
theorem s_retN : PS X (.Return none pos) (tSt X.K W Ew Hk0 H0 fun Γ g => R.bind (R.ok D.non g) fun x g => .ok (.rt x) g) :=
  PS.imp ps_retN fun Dn σ H ⟨Hb, Γ, g, Hk, fr, eb, q⟩ => q .non Hk H fr.en fr.wk.dr rfl
theorem s_asg {tg : Expr} {t : T} (he : PE X e (tE X.K W Ew fe)) (hg : PG X tg (tGg X.K W t)) (hs : swapsWithSole [tg] e pos.line X.env = pure false) (hw : swappedStores [tg] e X.env = pure none) (h1 : (assignEach [tg] X.env).map (·.2) = [assign tg X.env]) :
    PS X (.Assign [tg] e pos) (tSt X.K W Ew Hk0 H0 fun Γ g => (fe Γ g).bind fun x g => (lift (setT t x Γ) g).bind fun Γ' g => .ok (.nx Γ') g) :=
  PS.imp (ps_asg he hg hs hw h1) fun Dn σ H ⟨Hb, Γ, g, Hk, fr, eb, q⟩ => seqSE fr q fun v d g' Hk' H' fr' s r h => by
    cases e1 : setT t d Γ with
    | none => rw [e1] at h; exact h.elim
    | some Γ' =>
      rw [e1] at h
      exact ⟨Hk0, H0, Γ, g', Hk', d, Γ', fr', r, e1, fun σ' fr2 _ => h σ' Hk' H' fr2 (eb.trans s.k)⟩
/-- a name's value by the comprehension's own road -/
theorem s_asgL {i : Nat} {st : Stmt} {te : TE} (h : PS X st (tAsg te (gName i))) (ht : ∀ σ H Q, tE X.K W Ew fe σ H Q → te σ H Q) :
    PS X st (tSt X.K W Ew Hk0 H0 fun Γ g => (fe Γ g).bind fun x g => (lift (setT (.var i) x Γ) g).bind fun Γ' g => .ok (.nx Γ') g) :=
  PS.imp h fun Dn σ H ⟨Hb, Γ, g, Hk, fr, eb, q⟩ => ht _ _ _ (seqSE fr q fun v d g' Hk' H' fr' s r h => by
    simp only [setT] at h
    split at h
    · exact h _ Hk' H' (fr'.set r) (eb.trans s.k)
    · exact h.elim)
def ownR (i : Nat) (fe : Gm → G → R D) : Gm → G → R Fl := fun Γ g => (fe Γ g).bind fun x g => match x with
      | .lst xs => if i < Γ.length then .ok (.nx (Γ.set i (.own (.lst xs)))) g else .st
      | .dct ks vs => if i < Γ.length then .ok (.nx (Γ.set i (.own (.dct ks vs)))) g else .st
      | _ => .st
theorem s_own {i : Nat} {st : Stmt} {te : TE} (h : PS X st (tAsg te (gName i))) (ht : ∀ σ H Q, tFf X.K W Ew fe σ H Q → te σ H Q) : PS X st (tSt X.K W Ew Hk0 H0 (ownR i fe)) :=
  PS.imp h fun Dn σ H ⟨Hb, Γ, g, Hk, fr, eb, q⟩ => ht _ _ _ (seqSF fr q fun p u d g' Hk' H' fr' s h1 h2 h3 h4 h => by
    have hd := h4.is
    have h' : FinS X.K W Ew Hk0 H0 Hb Dn (if i < Γ.length then R.ok (Fl.nx (Γ.set i (.own d))) g' else R.st) := by
      cases d <;> first | exact h | cases hd
    by_cases hi : i < Γ.length
    · rw [if_pos hi] at h'
      exact h' _ Hk' H' (fr'.setOwn hi h3 h2 (fr.h0 h1) (fr.outp h1) h4 (fr.hn h1)) (eb.trans s.k)
    · rw [if_neg hi] at h'; exact h'.elim)
/-! ### the two, three at once -/
def okT (K : PySem.W.Frag) (W : Wd) (Hk0 H0 : Hp) (o : Bool) (d : D) (v : V) (Hb Hk H : Hp) : Prop := match o with
  | false => Rp K W Hk d v
  | true => ∃ p u, v = .ref p ∧ Hb p = none ∧ Hk p = none ∧ H p = some u ∧ Ob K W Hk d p u
/-- a part, new or not -/
def tP (K : PySem.W.Frag) (W : Wd) (Ew : XK) (o : Bool) (f : Gm → G → R D) : TE := match o with
  | false => tE K W Ew f
  | true => tFf K W Ew f
theorem seqSP {o : Bool} {f : Gm → G → R D} {k : D → G → R Fl} {Q : VK} (hl : o = true → ∀ Γ g d g', f Γ g = .ok d g' → isOb d = true) (fr : Fr K W Hk0 H0 Γ g σ Hk H) (h : FinS K W Ew Hk0 H0 Hb Dn ((f Γ g).bind k))
    (hq : ∀ v d g' Hk' H', Fr K W Hk0 H0 Γ g' σ Hk' H' → Step W Hk H Hk' H' → okT K W Hk0 H0 o d v H Hk' H' → FinS K W Ew Hk0 H0 Hb Dn (k d g') → Q v H') : tP K W Ew o f σ H Q := by
  cases o with
  | false => exact seqSE fr h fun v d g' Hk' H' fr' s r q => hq v d g' Hk' H' fr' s r q
  | true => exact seqSF fr h fun p u d g' Hk' H' fr' s h1 h2 h3 h4 q => hq (.ref p) d g' Hk' H' fr' s ⟨p, u, rfl, h1, h2, h3, h4⟩ q
theorem okT.step {o : Bool} {d : D} {v : V} {Hb Hk' H' : Hp} (w : ∀ p, Hb p = none → W.out p) (h : okT K W Hk0 H0 o d v Hb Hk H) (s : Step W Hk H Hk' H') : okT K W Hk0 H0 o d v Hb Hk' H' := by
  cases o with
  | false => exact Rp.mono s.k h
  | true =>
    obtain ⟨p, u, e2, h1, h2, h3, h4⟩ := h
    exact ⟨p, u, e2, h1, s.unk h2 h3, s.h _ _ h3 (w p h1), h4.mono s.k⟩
def parS (o : Bool) (d : D) : Slot := if o && isOb d then .own d else .val d
/-- one is stored -/
theorem Fr.par (fr : Fr K W Hk0 H0 Γ g σ Hk H) {i : Nat} {o : Bool} {d : D} {v : V} {Hb : Hp} (hi : i < Γ.length) (w : ∀ p, Hb p = none → W.out p ∧ H0 p = none) (h : okT K W Hk0 H0 o d v Hb Hk H)
    (hn : ∀ p, v = .ref p → Hb p = none → ∀ (j : Nat) (q : D), Γ[j]? = some (Slot.own q) → σ[j]? ≠ some (some (V.ref p))) : Fr K W Hk0 H0 (Γ.set i (parS o d)) g (σ.set i (some v)) Hk H := by
  cases o with
  | false => exact fr.set h
  | true =>
    obtain ⟨p, u, rfl, h1, h2, h3, h4⟩ := h
    have e : parS true d = .own d := by simp [parS, h4.is]
    rw [e]
    exact fr.setOwn hi h3 h2 (w p h1).2 (w p h1).1 h4 (hn p rfl h1)
theorem set_own_at {i j : Nat} {o : Bool} {d : D} {v : V} {p : Addr} {q : D} (hp : v ≠ .ref p ∨ o = false) (e : (Γ.set i (parS o d))[j]? = some (Slot.own q)) (h : Γ[j]? = some (Slot.own q) → σ[j]? ≠ some (some (V.ref p))) : (σ.set i (some v))[j]? ≠ some (some (V.ref p)) := by
  by_cases hij : i = j
  · subst hij
    intro z
    have hv : v = .ref p := by
      rw [List.getElem?_set] at z
      simp only [if_true] at z
      split at z
      · injection z with z; injection z
      · cases z
    rcases hp with hp | hp
    · exact hp hv
    · subst hp
      rw [List.getElem?_set] at e
      simp only [if_true] at e
      split at e
      · simp [parS] at e
      · cases e
  · rw [List.getElem?_set_ne hij] at e ⊢
    exact h e
def parR2 (i : Nat) (o1 : Bool) (j : Nat) (o2 : Bool) (fa fb : Gm → G → R D) : Gm → G → R Fl := fun Γ g => (fa Γ g).bind fun x g => (fb Γ g).bind fun y g =>
  if i < Γ.length ∧ j < Γ.length then .ok (.nx ((Γ.set i (parS o1 x)).set j (parS o2 y))) g else .st
theorem okT_ne {o : Bool} {d : D} {v : V} {Hb : Hp} {p : Addr} (h : okT K W Hk0 H0 o d v Hb Hk H) (hp : H p = none) : v ≠ .ref p ∨ o = false := by
  cases o with
  | false => exact .inr rfl
  | true =>
    obtain ⟨q, u, rfl, _, _, h3, _⟩ := h
    refine .inl fun e => ?_
    cases e
    rw [hp] at h3; cases h3
theorem s_par2 {i j : Nat} {o1 o2 : Bool} {fa fb : Gm → G → R D} {st : Stmt} (l1 : o1 = true → ∀ Γ g d g', fa Γ g = .ok d g' → isOb d = true) (l2 : o2 = true → ∀ Γ g d g', fb Γ g = .ok d g' → isOb d = true)
    (h : PS X st (tPar i j (tCons (tP X.K W Ew o1 fa) (tCons (tP X.K W Ew o2 fb) tNil)))) : PS X st (tSt X.K W Ew Hk0 H0 (parR2 i o1 j o2 fa fb)) :=
  PS.imp h fun Dn σ H ⟨Hb, Γ, g, Hk, fr, eb, q⟩ => seqSP l1 fr q fun v d g1 Hk1 H1 fr1 s1 r1 q1 => seqSP l2 fr1 q1 fun v2 d2 g2 Hk2 H2 fr2 s2 r2 q2 => by
    refine ⟨v, v2, rfl, ?_⟩
    have w1 : ∀ p, H p = none → W.out p ∧ H0 p = none := fun p hp => ⟨fr.outp hp, fr.h0 hp⟩
    have w2 : ∀ p, H1 p = none → W.out p ∧ H0 p = none := fun p hp => ⟨fr1.outp hp, fr1.h0 hp⟩
    by_cases hi : i < Γ.length ∧ j < Γ.length
    · have q2' : FinS X.K W Ew Hk0 H0 Hb Dn (if i < Γ.length ∧ j < Γ.length then R.ok (Fl.nx ((Γ.set i (parS o1 d)).set j (parS o2 d2))) g2 else R.st) := q2
      rw [if_pos hi] at q2'
      have ra := r1.step (fun p hp => (w1 p hp).1) s2
      have f1 := fr2.par hi.1 w1 ra fun p _ hp => fr.hn hp
      exact q2' _ Hk2 H2 (f1.par (by simpa using hi.2) w2 r2 fun p _ hp j' q' e => set_own_at (okT_ne r1 hp) e (fr1.hn hp j' q')) ((eb.trans s1.k).trans s2.k)
    · have q2' : FinS X.K W Ew Hk0 H0 Hb Dn (if i < Γ.length ∧ j < Γ.length then R.ok (Fl.nx ((Γ.set i (parS o1 d)).set j (parS o2 d2))) g2 else R.st) := q2
      rw [if_neg hi] at q2'
      exact q2'.elim
def parR3 (i : Nat) (o1 : Bool) (j : Nat) (o2 : Bool) (l : Nat) (o3 : Bool) (fa fb fc : Gm → G → R D) : Gm → G → R Fl := fun Γ g => (fa Γ g).bind fun x g => (fb Γ g).bind fun y g => (fc Γ g).bind fun z g =>
  if i < Γ.length ∧ j < Γ.length ∧ l < Γ.length then .ok (.nx (((Γ.set i (parS o1 x)).set j (parS o2 y)).set l (parS o3 z))) g else .st
theorem s_par3 {i j l : Nat} {o1 o2 o3 : Bool} {fa fb fc : Gm → G → R D} {st : Stmt} (l1 : o1 = true → ∀ Γ g d g', fa Γ g = .ok d g' → isOb d = true) (l2 : o2 = true → ∀ Γ g d g', fb Γ g = .ok d g' → isOb d = true) (l3 : o3 = true → ∀ Γ g d g', fc Γ g = .ok d g' → isOb d = true)
    (h : PS X st (tPar3 i j l (tCons (tP X.K W Ew o1 fa) (tCons (tP X.K W Ew o2 fb) (tCons (tP X.K W Ew o3 fc) tNil))))) : PS X st (tSt X.K W Ew Hk0 H0 (parR3 i o1 j o2 l o3 fa fb fc)) :=
  PS.imp h fun Dn σ H ⟨Hb, Γ, g, Hk, fr, eb, q⟩ => seqSP l1 fr q fun v d g1 Hk1 H1 fr1 s1 r1 q1 => seqSP l2 fr1 q1 fun v2 d2 g2 Hk2 H2 fr2 s2 r2 q2 => seqSP l3 fr2 q2 fun v3 d3 g3 Hk3 H3 fr3 s3 r3 q3 => by
    refine ⟨v, v2, v3, rfl, ?_⟩
    have w1 : ∀ p, H p = none → W.out p ∧ H0 p = none := fun p hp => ⟨fr.outp hp, fr.h0 hp⟩
    have w2 : ∀ p, H1 p = none → W.out p ∧ H0 p = none := fun p hp => ⟨fr1.outp hp, fr1.h0 hp⟩
    have w3 : ∀ p, H2 p = none → W.out p ∧ H0 p = none := fun p hp => ⟨fr2.outp hp, fr2.h0 hp⟩
    have q3' : FinS X.K W Ew Hk0 H0 Hb Dn (if i < Γ.length ∧ j < Γ.length ∧ l < Γ.length then R.ok (Fl.nx (((Γ.set i (parS o1 d)).set j (parS o2 d2)).set l (parS o3 d3))) g3 else R.st) := q3
    by_cases hi : i < Γ.length ∧ j < Γ.length ∧ l < Γ.length
    · rw [if_pos hi] at q3'
      have ra2 := r1.step (fun p hp => (w1 p hp).1) s2
      have ra := ra2.step (fun p hp => (w1 p hp).1) s3
      have rb := r2.step (fun p hp => (w2 p hp).1) s3
      have f1 := fr3.par hi.1 w1 ra fun p _ hp => fr.hn hp
      have f2 := f1.par (by simpa using hi.2.1) w2 rb fun p _ hp j' q' e => set_own_at (okT_ne r1 hp) e (fr1.hn hp j' q')
      exact q3' _ Hk3 H3 (f2.par (by simpa using hi.2.2) w3 r3 fun p _ hp j' q' e => set_own_at (okT_ne r2 hp) e fun e' => set_own_at (okT_ne ra2 hp) e' (fr2.hn hp j' q')) (((eb.trans s1.k).trans s2.k).trans s3.k)
    · rw [if_neg hi] at q3'
      exact q3'.elim
/-! ### x += e, x.append(e), freezing -/
def augR (i : Nat) (fe : Gm → G → R D) : Gm → G → R Fl := fun Γ g => match Γ[i]? with
      | some (.val x) => (fe Γ g).bind fun y g => (match x, y with
        | .int a, .int b => .ok (.nx (Γ.set i (.val (.int (a + b))))) g
        | _, _ => .st)
      | _ => .st
theorem s_aug {i : Nat} {st : Stmt} (h : PS X st (tAug i (tE X.K W Ew fe) (ipI fun i j => i + j))) : PS X st (tSt X.K W Ew Hk0 H0 (augR i fe)) :=
  PS.imp h fun Dn σ H ⟨Hb, Γ, g, Hk, fr, eb, q⟩ => by
    unfold augR at q
    cases e1 : Γ[i]? with
    | none => rw [e1] at q; exact q.elim
    | some s =>
      rw [e1] at q
      cases s with
      | no => exact q.elim
      | own _ => exact q.elim
      | val x =>
        obtain ⟨os, sl, _⟩ := fr.sl
        obtain ⟨v, ev, rv⟩ := sl.val_at e1
        refine ⟨v, ev, seqSE fr q fun v2 d g' Hk' H' fr' s r h => ?_⟩
        cases x <;> (try exact h.elim)
        cases d <;> (try exact h.elim)
        rename_i a b
        exact ⟨a, b, rv, r, h _ Hk' H' (fr'.set rfl) (eb.trans s.k)⟩
def appR (i : Nat) (fe : Gm → G → R D) : Gm → G → R Fl := fun Γ g => match Γ[i]? with
      | some (.own (.lst xs)) => (fe Γ g).bind fun y g => if xs.length < 1000000 then .ok (.nx (Γ.set i (.own (.lst (xs ++ [y]))))) g else .st
      | _ => .st
theorem Fr.chgO (fr : Fr K W Hk0 H0 Γ g σ Hk H) {i : Nat} {d : D} {p : Addr} {es : D} {ys : HO} (e1 : Γ[i]? = some (.own d)) (e2 : σ[i]? = some (some (.ref p))) (r : Ob K W Hk es p ys) : Fr K W Hk0 H0 (Γ.set i (.own es)) g σ Hk (upd H p ys) := by
  obtain ⟨os, sl, nd, ho⟩ := fr.sl
  obtain ⟨p', xs, h2, hm, h4, h5⟩ := sl.obj_at e1
  rw [e2] at h2
  cases h2
  obtain ⟨k1, k2, k3⟩ := ho p hm
  refine ⟨⟨fun b u hb => ?_, fr.wk.m, fr.wk.c, fr.wk.gr, fr.wk.tk, fr.wk.dr.upd k3 (h5.nc h4) r.ntb⟩, fr.en.mut k2 k1, os, sl.chg nd e1 e2 r, nd, ho⟩
  rw [upd_ne (ne_of_none hb k1)]
  exact fr.wk.ex b u hb
theorem Fr.chg (fr : Fr K W Hk0 H0 Γ g σ Hk H) {i : Nat} {d : D} {p : Addr} {es : List D} {ys : List V} (e1 : Γ[i]? = some (.own d)) (e2 : σ[i]? = some (some (.ref p))) (r : RpL K W Hk es ys) : Fr K W Hk0 H0 (Γ.set i (.own (.lst es))) g σ Hk (upd H p (.lst ys)) :=
  fr.chgO e1 e2 ⟨ys, rfl, r⟩
theorem s_app {i : Nat} {x : Str} {p apos cpos : Pos} (hv : PE X (.Name x p) (tVar i)) (he : PE X e (tE X.K W Ew fe)) (hn : nSt e = true) (hl : (apos.endLine == cpos.line) = true) (hs : swapsWith (.Call (.Attribute (.Name x p) "append" apos) [e] [] cpos) none pos.line X.env = pure false) :
    PS X (.Expr (.Call (.Attribute (.Name x p) "append" apos) [e] [] cpos) pos) (tSt X.K W Ew Hk0 H0 (appR i fe)) :=
  PS.imp (ps_expr (pe_bm PySem.F.plainAttrs_list PySem.F.slot_list_append PySem.F.type_list_append mt_append hv (pa_cons he pa_nil (star_of hn _ _)) rfl (by rw [star_of hn]; rfl) hl (star_of hn _ _) rfl) hs) fun Dn σ H ⟨Hb, Γ, g, Hk, fr, eb, q⟩ => by
    unfold appR at q
    obtain ⟨os, sl, nd, ho⟩ := fr.sl
    show tVar i σ H fun x H1 => tyV X.K "list" x H1 ∧ tCons (tE X.K W Ew fe) tNil σ H1 fun xs H2 => rAppend x xs H2 fun _ H3 => Dn.nx σ H3
    cases e1 : Γ[i]? with
    | none => rw [e1] at q; exact q.elim
    | some s0 =>
      rw [e1] at q
      cases s0 with
      | no => exact q.elim
      | val _ => exact q.elim
      | own d =>
        cases d <;> (try exact q.elim)
        rename_i ds
        obtain ⟨p, xs, h2, hm, h4, h5⟩ := sl.own_at e1
        refine ⟨.ref p, h2, .inl ⟨rfl, xs, SqL.of h4⟩, seqSE fr q fun v d g' Hk' H' fr' s r h => ?_⟩
        have h' : FinS X.K W Ew Hk0 H0 Hb Dn (if ds.length < 1000000 then R.ok (Fl.nx (Γ.set i (.own (.lst (ds ++ [d]))))) g' else R.st) := h
        by_cases hl : ds.length < 1000000
        · rw [if_pos hl] at h'
          have h4' : H' p = some (.lst xs) := s.h _ _ h4 (ho p hm).2.2
          refine ⟨p, xs, v, rfl, rfl, h4', size_lt (by rw [h5.len]; exact hl), ?_⟩
          exact h' σ Hk' _ (fr'.chg e1 h2 ((h5.mono s.k).append (.cons r .nil))) (eb.trans s.k)
        · rw [if_neg hl] at h'; exact h'.elim
/-! ### x[a] = b, t = x.pop(), x.extend(e) of owned lists -/
def stoR (i : Nat) (fa fb : Gm → G → R D) : Gm → G → R Fl := fun Γ g => (fb Γ g).bind fun y g => match Γ[i]? with
      | some (.own (.lst xs)) => (fa Γ g).bind fun k g => (match k with
        | .int k => (match ixD xs.length k with
          | some j => .ok (.nx (Γ.set i (.own (.lst (xs.set j y))))) g
          | none => .st)
        | _ => .st)
      | some (.own (.dct ks vs)) => (fa Γ g).bind fun k g => if okK k && decide (ks.length < 1000000) then .ok (.nx (Γ.set i (.own (putD ks vs k y)))) g else .st
      | _ => .st
def rSetO (K : PySem.W.Frag) (W : Wd) : V → V → V → Hp → (Hp → Prop) → Prop := fun o i v H Q => rSetL o i v H Q ∨ ∃ (p : Addr) (ks vs : List D) (k y : D) (Hk : Hp), o = .ref p ∧ Ex Hk H ∧ DAt K W Hk H p ks vs ∧ Rp K W Hk k i ∧ okK k = true ∧ Rp K W Hk y v ∧ ks.length < 1000000 ∧
  ∀ ob, Ob K W Hk (putD ks vs k y) p ob → Q (upd H p ob)
theorem set_O (hu : X.A.units + 64 < cLine) (hw : W.w = X.w) : PSet X (rSetO X.K W) := by
  intro pins s σ H o i v ov iv u Q I ro ri rv h
  rcases h with h | ⟨p, ks, vs, k, y, Hk, rfl, ex, h1, h2, h3, h4, h5, q⟩
  · exact set_list pins s σ H o i v ov iv u Q I ro ri rv h
  · have e2 : ov = Value.ref p := ro
    subst e2
    exact n_set hu I ex hw h1 h2 h3 ri h4 rv h5 fun ob s' hob I' => ⟨_, I', q ob hob⟩
theorem ixD_N {n : Nat} {i : Int} {j : Nat} (h : ixD n i = some j) : ixN n i = some j := by
  unfold ixD at h
  unfold ixN
  by_cases h0 : 0 ≤ i
  · rw [if_pos h0] at h ⊢
    by_cases h1 : i.toNat < n
    · rw [if_pos h1] at h
      rw [if_pos (by omega)]
      exact h
    · rw [if_neg h1] at h; cases h
  · rw [if_neg h0] at h ⊢
    by_cases h1 : 0 ≤ i + n
    · rw [if_pos h1] at h
      rw [if_pos (by omega)]
      exact h
    · rw [if_neg h1] at h; cases h
theorem s_sto {i : Nat} {x : Str} {p tp : Pos} {a b : Expr} {fa fb : Gm → G → R D} (hv : PE X (.Name x p) (tVar i)) (ha : PE X a (tE X.K W Ew fa)) (hb : PE X b (tE X.K W Ew fb)) (hs : swapsWithSole [.Subscript (.Name x p) a tp] b pos.line X.env = pure false) (hw : swappedStores [.Subscript (.Name x p) a tp] b X.env = pure none)
    (hag : PG X (.Subscript (.Name x p) a tp) (gSub (tVar i) (tE X.K W Ew fa) (rSetO X.K W))) :
    PS X (.Assign [.Subscript (.Name x p) a tp] b pos) (tSt X.K W Ew Hk0 H0 (stoR i fa fb)) :=
  PS.imp (ps_asg hb hag hs hw rfl) fun Dn σ H ⟨Hb, Γ, g, Hk, fr, eb, q⟩ => seqSE fr q fun v d g1 Hk1 H1 fr1 s1 r1 h1 => by
    obtain ⟨os, sl, nd, ho⟩ := fr1.sl
    cases e1 : Γ[i]? with
    | none => simp only [e1] at h1; exact h1.elim
    | some s0 =>
      cases s0 with
      | no => simp only [e1] at h1; exact h1.elim
      | val _ => simp only [e1] at h1; exact h1.elim
      | own d0 =>
        cases d0 <;> (try (simp only [e1] at h1; exact h1.elim))
        · rename_i ds
          obtain ⟨p, xs, h2, hm, h4, h5⟩ := sl.own_at e1
          simp only [e1] at h1
          refine ⟨.ref p, h2, seqSE fr1 h1 fun v2 d2 g2 Hk2 H2 fr2 s2 r2 h2' => ?_⟩
          cases d2 <;> (try exact h2'.elim)
          rename_i k
          have h3 : FinS X.K W Ew Hk0 H0 Hb Dn (match ixD ds.length k with
            | some j => R.ok (Fl.nx (Γ.set i (.own (.lst (ds.set j d))))) g2
            | none => R.st) := h2'
          cases ej : ixD ds.length k with
          | none => rw [ej] at h3; exact h3.elim
          | some j =>
            rw [ej] at h3
            have h4' : H2 p = some (.lst xs) := s2.h _ _ h4 (ho p hm).2.2
            refine .inl ⟨p, xs, k, j, rfl, r2, h4', by rw [h5.len]; exact ixD_N ej, ?_⟩
            exact h3 σ Hk2 _ (fr2.chg e1 h2 ((h5.mono s2.k).set j (r1.mono s2.k))) ((eb.trans s1.k).trans s2.k)
        · rename_i ks vs
          obtain ⟨p, u, h2, hm, h4, o, xs, e3, q1, q2, q3, q4, q5, q6⟩ := sl.obj_at e1
          subst e3
          simp only [e1] at h1
          refine ⟨.ref p, h2, seqSE fr1 h1 fun v2 d2 g2 Hk2 H2 fr2 s2 r2 h2' => ?_⟩
          have h4' := s2.h _ _ h4 (ho p hm).2.2
          by_cases hc : (okK d2 && decide (ks.length < 1000000)) = true
          · rw [if_pos hc] at h2'
            simp only [Bool.and_eq_true, decide_eq_true_eq] at hc
            refine .inr ⟨p, ks, vs, d2, d, Hk2, rfl, fr2.wk.ex, ⟨o, xs, h4', q1, q2, q3, q4, q5.mono s2.k, q6.mono s2.k⟩, r2, hc.1, r1.mono s2.k, hc.2, fun ob hob => ?_⟩
            exact h2' σ Hk2 _ (fr2.chgO e1 h2 hob) ((eb.trans s1.k).trans s2.k)
          · rw [if_neg hc] at h2'
            exact h2'.elim
def popR (t : T) (i : Nat) : Gm → G → R Fl := fun Γ g => match Γ[i]? with
      | some (.own (.lst xs)) => (match xs[xs.length - 1]? with
        | some x => (lift (setT t x (Γ.set i (.own (.lst xs.dropLast)))) g).bind fun Γ' g => .ok (.nx Γ') g
        | none => .st)
      | _ => .st
theorem s_pop {i : Nat} {x : Str} {p apos cpos : Pos} {tg : Expr} {t : T} (hv : PE X (.Name x p) (tVar i)) (hg : PG X tg (tGg X.K W t)) (hl : (apos.endLine == cpos.line) = true)
    (hs : swapsWithSole [tg] (.Call (.Attribute (.Name x p) "pop" apos) [] [] cpos) pos.line X.env = pure false) (hw : swappedStores [tg] (.Call (.Attribute (.Name x p) "pop" apos) [] [] cpos) X.env = pure none) (h1 : (assignEach [tg] X.env).map (·.2) = [assign tg X.env]) :
    PS X (.Assign [tg] (.Call (.Attribute (.Name x p) "pop" apos) [] [] cpos) pos) (tSt X.K W Ew Hk0 H0 (popR t i)) :=
  PS.imp (ps_asg (pe_bm0 PySem.F.plainAttrs_list PySem.F.slot_list_pop PySem.F.type_list_pop mt_pop hv rfl hl) hg hs hw h1) fun Dn σ H ⟨Hb, Γ, g, Hk, fr, eb, q⟩ => by
    unfold popR at q
    obtain ⟨os, sl, nd, ho⟩ := fr.sl
    cases e1 : Γ[i]? with
    | none => rw [e1] at q; exact q.elim
    | some s0 =>
      rw [e1] at q
      cases s0 with
      | no => exact q.elim
      | val _ => exact q.elim
      | own d =>
        cases d <;> (try exact q.elim)
        rename_i ds
        obtain ⟨p, xs, h2, hm, h4, h5⟩ := sl.own_at e1
        have q2 : FinS X.K W Ew Hk0 H0 Hb Dn (match ds[ds.length - 1]? with
          | some x => (lift (setT t x (Γ.set i (.own (.lst ds.dropLast)))) g).bind fun Γ' g => R.ok (Fl.nx Γ') g
          | none => R.st) := q
        cases ex : ds[ds.length - 1]? with
        | none => rw [ex] at q2; exact q2.elim
        | some y =>
          rw [ex] at q2
          obtain ⟨v, ev, rv⟩ := h5.get ex
          cases et : setT t y (Γ.set i (.own (.lst ds.dropLast))) with
          | none => simp only [et] at q2; exact q2.elim
          | some Γ' =>
            simp only [et] at q2
            refine ⟨.ref p, h2, .inl ⟨rfl, xs, SqL.of h4⟩, p, xs, v, rfl, rfl, h4, by rw [h5.len]; exact ev, ?_⟩
            exact ⟨Hk0, H0, _, g, Hk, y, Γ', fr.chg e1 h2 h5.dropLast, rv, et, fun σ' fr2 _ => q2 σ' Hk _ fr2 eb⟩
def extR (i : Nat) (fe : Gm → G → R D) : Gm → G → R Fl := fun Γ g => match Γ[i]? with
      | some (.own (.lst xs)) => (fe Γ g).bind fun y g => (match y with
        | .lst ys => if xs.length + ys.length ≤ 1000000 then .ok (.nx (Γ.set i (.own (.lst (xs ++ ys))))) g else .st
        | _ => .st)
      | _ => .st
theorem s_ext {i : Nat} {x : Str} {p apos cpos : Pos} (hv : PE X (.Name x p) (tVar i)) (he : PE X e (tE X.K W Ew fe)) (hn : nSt e = true) (hl : (apos.endLine == cpos.line) = true) (hs : swapsWith (.Call (.Attribute (.Name x p) "extend" apos) [e] [] cpos) none pos.line X.env = pure false) :
    PS X (.Expr (.Call (.Attribute (.Name x p) "extend" apos) [e] [] cpos) pos) (tSt X.K W Ew Hk0 H0 (extR i fe)) :=
  PS.imp (ps_expr (pe_bm PySem.F.plainAttrs_list PySem.F.slot_list_extend PySem.F.type_list_extend mt_extend hv (pa_cons he pa_nil (star_of hn _ _)) rfl (by rw [star_of hn]; rfl) hl (star_of hn _ _) rfl) hs) fun Dn σ H ⟨Hb, Γ, g, Hk, fr, eb, q⟩ => by
    unfold extR at q
    obtain ⟨os, sl, nd, ho⟩ := fr.sl
    show tVar i σ H fun x H1 => tyV X.K "list" x H1 ∧ tCons (tE X.K W Ew fe) tNil σ H1 fun xs H2 => rExtend x xs H2 fun _ H3 => Dn.nx σ H3
    cases e1 : Γ[i]? with
    | none => rw [e1] at q; exact q.elim
    | some s0 =>
      rw [e1] at q
      cases s0 with
      | no => exact q.elim
      | val _ => exact q.elim
      | own d =>
        cases d <;> (try exact q.elim)
        rename_i ds
        obtain ⟨p, xs, h2, hm, h4, h5⟩ := sl.own_at e1
        refine ⟨.ref p, h2, .inl ⟨rfl, xs, SqL.of h4⟩, seqSE fr q fun v d g' Hk' H' fr' s r h => ?_⟩
        cases d <;> (try exact h.elim)
        rename_i ys
        obtain ⟨b, zs, rfl, r1, r2⟩ := r
        have h' : FinS X.K W Ew Hk0 H0 Hb Dn (if ds.length + ys.length ≤ 1000000 then R.ok (Fl.nx (Γ.set i (.own (.lst (ds ++ ys))))) g' else R.st) := h
        by_cases hl : ds.length + ys.length ≤ 1000000
        · rw [if_pos hl] at h'
          have h4' : H' p = some (.lst xs) := s.h _ _ h4 (ho p hm).2.2
          refine ⟨p, b, xs, zs, rfl, rfl, h4', fr'.wk.ex _ _ r1, size_le (by rw [h5.len, r2.len]; exact hl), ?_⟩
          exact h' σ Hk' _ (fr'.chg e1 h2 ((h5.mono s.k).append r2)) (eb.trans s.k)
        · rw [if_neg hl] at h'; exact h'.elim
/-- what is owned becomes known -/
theorem GmR.frz {os : List Addr} (h : GmR K W Hk H Γ σ os) : ∀ {i : Nat} {d : D} {p : Addr} {Hk' : Hp}, os.Nodup → Γ[i]? = some (.own d) → σ[i]? = some (some (.ref p)) → Rp K W Hk' d (.ref p) → Ex Hk Hk' →
    ∃ os', GmR K W Hk' H (Γ.set i (.val d)) σ os' ∧ os'.Sublist os ∧ p ∉ os' := by
  induction h with
  | nil => intro i d p Hk' nd e; simp at e
  | no o t ih =>
    intro i d p Hk' nd e e2 r ex
    cases i with
    | zero => simp at e
    | succ i => obtain ⟨os', t', s, n⟩ := ih nd (by simpa using e) (by simpa using e2) r ex; exact ⟨os', .no o t', s, n⟩
  | val q t ih =>
    intro i d p Hk' nd e e2 r ex
    cases i with
    | zero => simp at e
    | succ i => obtain ⟨os', t', s, n⟩ := ih nd (by simpa using e) (by simpa using e2) r ex; exact ⟨os', .val (q.mono ex) t', s, n⟩
  | @own Γ σ os ds p0 xs h1 h2 t ih =>
    intro i d p Hk' nd e e2 r ex
    have nd' := List.nodup_cons.mp nd
    cases i with
    | zero =>
      simp at e2
      subst e2
      exact ⟨os, .val r (t.mono ex fun _ _ _ h => h), List.sublist_cons_self _ _, nd'.1⟩
    | succ i =>
      have hp : p ∈ os := by
        obtain ⟨p', _, q1, q2, _⟩ := t.obj_at (i := i) (d := d) (by simpa using e)
        rw [show σ[i]? = some (some (.ref p)) by simpa using e2] at q1
        cases q1
        exact q2
      obtain ⟨os', t', s, n⟩ := ih nd'.2 (by simpa using e) (by simpa using e2) r ex
      refine ⟨_, .own h1 (h2.mono ex) t', s.cons₂ _, fun z => ?_⟩
      rcases List.mem_cons.mp z with z | z
      · exact nd'.1 (z ▸ hp)
      · exact n z
theorem Fr.frz (fr : Fr K W Hk0 H0 Γ g σ Hk H) {i : Nat} {d : D} (e1 : Γ[i]? = some (.own d)) : ∃ Hk', Fr K W Hk0 H0 (Γ.set i (.val d)) g σ Hk' H ∧ Ex Hk Hk' := by
  obtain ⟨os, sl, nd, ho⟩ := fr.sl
  obtain ⟨p, u, h2, hm, h4, h5⟩ := sl.obj_at e1
  obtain ⟨k1, k2, k3⟩ := ho p hm
  have ex : Ex Hk (upd Hk p u) := Evl.Ex.new k1
  obtain ⟨os', sl', s, n⟩ := sl.frz (Hk' := upd Hk p u) nd e1 h2 ((h5.mono ex).rp upd_same) ex
  refine ⟨upd Hk p u, ⟨⟨fun b u hb => ?_, ?_, ?_, ?_, fun q hq => by rw [upd_ne (Ne.symm (k3.2.2.2 q hq))]; exact fr.wk.tk q hq, fr.wk.dr⟩, fr.en.tell k2 h4, os', sl', nd.sublist s, fun q hq => ⟨?_, (ho q (s.subset hq)).2⟩⟩, ex⟩
  · by_cases hbp : b = p
    · subst hbp; rw [upd_same] at hb; cases hb; exact h4
    · rw [upd_ne hbp] at hb; exact fr.wk.ex b u hb
  · rw [upd_ne (Ne.symm k3.1)]; exact fr.wk.m
  · rw [upd_ne (Ne.symm k3.2.1)]; exact fr.wk.c
  · rw [upd_ne (Ne.symm k3.2.2.1)]; exact fr.wk.gr
  · rw [upd_ne (show q ≠ p from fun z => n (z ▸ hq))]; exact (ho q (s.subset hq)).1
def frzR (i : Nat) : Gm → G → R Fl := fun Γ g => match Γ[i]? with
      | some (.own d) => .ok (.nx (Γ.set i (.val d))) g
      | _ => .ok (.nx Γ) g
theorem s_frz {i : Nat} {sts : List Stmt} {h : Gm → G → R Fl} (q : PSs X sts (tSt X.K W Ew Hk0 H0 h)) : PSs X sts (tSt X.K W Ew Hk0 H0 (seqR (frzR i) h)) := PSs.imp q fun Dn σ H ⟨Hb, Γ, g, Hk, fr, eb, q⟩ => by
  unfold seqR frzR at q
  cases e1 : Γ[i]? with
  | none => rw [e1] at q; exact ⟨Hb, Γ, g, Hk, fr, eb, q⟩
  | some s0 =>
    rw [e1] at q
    cases s0 with
    | no => exact ⟨Hb, Γ, g, Hk, fr, eb, q⟩
    | val _ => exact ⟨Hb, Γ, g, Hk, fr, eb, q⟩
    | own d =>
      obtain ⟨Hk', fr', ex⟩ := fr.frz e1
      exact ⟨Hb, _, g, Hk', fr', eb.trans ex, q⟩
/-! ### if, for, while -/
theorem s_if {c : Expr} {a b : List Stmt} {fc : Gm → G → R D} {fa fb : Gm → G → R Fl} (hc : PT X c (tTt X.K W Ew fun Γ g => blR (fc Γ g))) (ha : PSs X a (tSt X.K W Ew Hk0 H0 fa)) (hb : PSs X b (tSt X.K W Ew Hk0 H0 fb)) :
    PS X (.If c a b pos) (tSt X.K W Ew Hk0 H0 fun Γ g => (blR (fc Γ g)).bind fun k g => if k then fa Γ g else fb Γ g) :=
  PS.imp (ps_if hc ha hb) fun Dn σ H ⟨Hb, Γ, g, Hk, fr, eb, q⟩ => seqST (f := fun Γ g => blR (fc Γ g)) fr q fun k g' Hk' H' fr' s h => by
    cases k with
    | true => exact iteT ⟨Hb, Γ, g', Hk', fr', eb.trans s.k, h⟩
    | false => exact iteF ⟨Hb, Γ, g', Hk', fr', eb.trans s.k, h⟩
theorem s_while {c : Expr} {b : List Stmt} {fc : Gm → G → R D} {fb : Gm → G → R Fl} (n : Nat) (hp : PassesOwn (model X.prog X.w) X.A X.env X.xe) (hc : PT X c (tTt X.K W Ew fun Γ g => blR (fc Γ g))) (hb : PSs X b (tSt X.K W Ew Hk0 H0 fb)) :
    PS X (.While c b [] pos) (tSt X.K W Ew Hk0 H0 fun Γ g => whlR (fun Γ g => blR (fc Γ g)) fb n Γ g) :=
  PS.imp (ps_while hp hc hb) fun Dn σ H ⟨Hb, Γ, g, Hk, fr, eb, q⟩ => by
    refine ⟨fun m σ H => ∃ Γ g Hk, Fr X.K W Hk0 H0 Γ g σ Hk H ∧ Ex Hb Hk ∧ FinS X.K W Ew Hk0 H0 Hb Dn (whlR (fun Γ g => blR (fc Γ g)) fb m Γ g), ⟨n, Γ, g, Hk, fr, eb, q⟩, ?_⟩
    rintro m σ H ⟨Γ, g, Hk, fr, eb, q⟩
    cases m with
    | zero => exact q.elim
    | succ m =>
      have q' : FinS X.K W Ew Hk0 H0 Hb Dn ((blR (fc Γ g)).bind fun b g1 => if b then (fb Γ g1).bind fun fl g2 => (match fl with
        | .nx Γ' => whlR (fun Γ g => blR (fc Γ g)) fb m Γ' g2
        | .rt d => .ok (.rt d) g2) else .ok (.nx Γ) g1) := q
      refine seqST (f := fun Γ g => blR (fc Γ g)) fr q' fun k g' Hk' H' fr' s h => ?_
      cases k with
      | false => exact iteF (h σ Hk' H' fr' (eb.trans s.k))
      | true =>
        refine iteT ⟨fun σ H => ∃ Γ g Hk, Fr X.K W Hk0 H0 Γ g σ Hk H ∧ Ex Hb Hk ∧ FinS X.K W Ew Hk0 H0 Hb Dn (whlR (fun Γ g => blR (fc Γ g)) fb m Γ g), fun σ' H' z => ⟨m, Nat.lt_succ_self m, z⟩, Hb, Γ, g', Hk', fr', eb.trans s.k, ?_⟩
        simp only [if_true] at h
        cases e : fb Γ g' with
        | ok fl g2 =>
          rw [e] at h
          cases fl with
          | nx Γ' => exact fun σ2 Hk2 H2 fr2 eb2 => ⟨Γ', g2, Hk2, fr2, eb2, h⟩
          | rt d => exact h
        | ex c ds g2 => rw [e] at h; exact h
        | st => rw [e] at h; exact h
theorem s_for {tg iter : Expr} {b : List Stmt} {t : T} {fi : Gm → G → R (List D)} {fb : Gm → G → R Fl} (hp : PassesOwn (model X.prog X.w) X.A X.env X.xe) (hcalm : X.calm = true) (hi : PI X tg iter (tIi X.K W Ew fi)) (hg : PG X tg (tGg X.K W t)) (hb : PSs X b (tSt X.K W Ew Hk0 H0 fb))
    (hs : ∀ x, foldedSetIterable iter X.env x = pure x) :
    PS X (.For tg iter b [] pos) (tSt X.K W Ew Hk0 H0 fun Γ g => (fi Γ g).bind fun xs g => forR (fun x Γ g => (lift (setT t x Γ) g).bind fun Γ' g => fb Γ' g) xs Γ g) :=
  PS.imp (ps_for hp hcalm hi hg hb hs) fun Dn σ H ⟨Hb, Γ, g, Hk, fr, eb, q⟩ => seqSI fr q fun J ds g1 Hk1 H1 fr1 s1 io q1 => by
    generalize hF : (fun (x : D) (Γ : Gm) (g : G) => (lift (setT t x Γ) g).bind fun Γ' g => fb Γ' g) = F at q1
    let Inv0 : Nat → L2.St → Hp → Prop := fun i σ H => i ≤ ds.length ∧ ∃ Γ g Hk, Fr X.K W Hk0 H0 Γ g σ Hk H ∧ Ex Hk1 Hk ∧ FinS X.K W Ew Hk0 H0 Hb Dn (forR F (ds.drop i) Γ g)
    refine ⟨fun i m σ H => m = ds.length - i ∧ Inv0 i σ H, ⟨ds.length, by simp, Nat.zero_le _, Γ, g1, Hk1, fr1, Ex.refl _, q1⟩, ?_⟩
    rintro i m σ2 H2 ⟨rfl, hi, Γ2, g2, Hk2, fr2, ex2, q2⟩
    by_cases hlt : i < ds.length
    · refine .inr ⟨io.go i Hk2 H2 g2 hlt ex2 fr2.wk, Inv0 (i + 1), fun σ' H' z => ⟨ds.length - (i + 1), by omega, rfl, z⟩, fun x H3 y => ?_⟩
      have hd : ds[i]? = some ds[i] := by simp [hlt]
      obtain ⟨Hk3, s3, dr3, rx⟩ := io.yld i Hk2 H2 g2 x H3 ds[i] hd ex2 fr2.wk y
      have fr3 := fr2.step s3 dr3
      rw [List.drop_eq_getElem_cons hlt] at q2
      have q3 : FinS X.K W Ew Hk0 H0 Hb Dn ((F ds[i] Γ2 g2).bind fun fl g1 => match fl with
        | .nx Γ' => forR F (ds.drop (i + 1)) Γ' g1
        | .rt d => .ok (.rt d) g1) := q2
      cases e1 : setT t ds[i] Γ2 with
      | none =>
        rw [← hF] at q3
        simp only [e1] at q3
        exact q3.elim
      | some Γ' =>
        refine ⟨Hk0, H0, Γ2, g2, Hk3, ds[i], Γ', fr3, rx, e1, fun σ' fr' _ => ⟨Hk1, Γ', g2, Hk3, fr', ex2.trans s3.k, ?_⟩⟩
        have e2 : F ds[i] Γ2 g2 = fb Γ' g2 := by rw [← hF]; simp only [e1]; rfl
        rw [e2] at q3
        cases e : fb Γ' g2 with
        | ok fl g4 =>
          rw [e] at q3
          cases fl with
          | nx Γ4 => exact fun σ4 Hk4 H4 fr4 eb4 => ⟨hlt, Γ4, g4, Hk4, fr4, eb4, q3⟩
          | rt d => exact q3
        | ex c ds' g4 => rw [e] at q3; exact q3
        | st => rw [e] at q3; exact q3
    · have hi' : i = ds.length := by omega
      subst hi'
      rw [List.drop_length] at q2
      exact .inl ⟨io.stop _ Hk2 H2 g2 rfl ex2 fr2.wk, q2 σ2 Hk2 H2 fr2 ((eb.trans s1.k).trans ex2)⟩
end
end Bk

set_option Elab.async false
set_option linter.all false
set_option maxRecDepth 100000
set_option maxHeartbeats 4000000
/-! The evaluator is sound: statements. -/
namespace Bk
open PySem L2
open Evl (Ex ex_l ex_t)
def nmsOf (sc : Scope) (ts : List Expr) : List Str := ts.filterMap fun
    | .Name id pos => if sc.names.lookup id == some .local && pos.line == ((ts.head?.map (·.pos.line)).getD 0) then some id else none
    | _ => none
def nmsE (env : Env) (ts : List Expr) : List Str := ts.filterMap fun
    | .Name id pos => if env.kindOf id == some .local && pos.line == ((ts.head?.map (·.pos.line)).getD 0) then some id else none
    | _ => none
/-- what swappedStores tells: none: the usual stores -/
def swB (sc : Scope) (ts vs : List Expr) : Option (Option (List Str)) :=
  if !(ts.length == 2 || ts.length == 3) || vs.length != ts.length then some none else
  if vs.any (fun | Expr.Starred .. => true | _ => false) then some none else
  if (nmsOf sc ts).length != ts.length || (nmsOf sc ts).eraseDups.length != (nmsOf sc ts).length then some none else
  if vs.all (foldedForSure 8) then some none else
  if vs.all (constantsAlone 8) then none else some (some (nmsOf sc ts))
theorem sw_of {env : Env} {sc : Scope} {ts vs : List Expr} {k1 k2 : Nat} {p1 p2 : Pos} {r : Option (List Str)} (hs : env.scope = sc) (hk : sc.kind = .function) (h : swB sc ts vs = some r) : swappedStores [.Tuple ts k1 p1] (.Tuple vs k2 p2) env = pure r := by
  have hb : env.blockKind = .function := by unfold Env.blockKind; rw [hs, hk]; rfl
  have hn : nmsE env ts = nmsOf sc ts := by
    unfold nmsE
    unfold nmsOf
    congr 1
    funext e
    cases e <;> first | rfl | (subst hs; rfl)
  unfold swappedStores
  simp only [hb]
  unfold swB at h
  split at h
  · rename_i c
    cases h
    rw [if_pos (by simpa using c)]
  · rename_i c
    rw [if_neg (by simpa using c)]
    show (if (vs.any fun | Expr.Starred .. => true | _ => false) = true then pure none else
      if ((nmsE env ts).length != ts.length || (nmsE env ts).eraseDups.length != (nmsE env ts).length) = true then pure none else
      if vs.all (foldedForSure 8) = true then pure none else
      if vs.all (constantsAlone 8) = true then (do unsupported "assign.tuple-of-constant-expressions:order-of-the-stores"; pure (some (nmsE env ts))) else pure (some (nmsE env ts))) = pure r
    rw [hn]
    split at h
    · rename_i c2
      cases h
      rw [if_pos c2]
    · rename_i c2
      rw [if_neg c2]
      split at h
      · rename_i c3
        cases h
        rw [if_pos c3]
      · rename_i c3
        rw [if_neg c3]
        split at h
        · rename_i c4
          cases h
          rw [if_pos c4]
        · rename_i c4
          rw [if_neg c4]
          split at h
          · cases h
          · rename_i c5
            cases h
            rw [if_neg c5]

def nCmp : Expr → Bool
  | .ListComp .. => false
  | .SetComp .. => false
  | .DictComp .. => false
  | _ => true
theorem nCmp_of {e : Expr} (h : nCmp e = true) (t : Option Expr) (l : Nat) (env : Env) : swapsWith e t l env = pure false := by
  cases e <;> first | rfl | cases h
/-- the stores go as usual -/
def swN (sc : Scope) (tg v : Expr) : Bool := match tg with
  | .Name _ _ => true
  | .Tuple ts _ _ => (match v with
    | .Tuple vs _ _ => decide (swB sc ts vs = some none)
    | _ => true)
  | _ => false
theorem swN_of {env : Env} {sc : Scope} {tg v : Expr} (hs : env.scope = sc) (hk : sc.kind = .function) (h : swN sc tg v = true) : swappedStores [tg] v env = pure none := by
  unfold swN at h
  split at h
  · cases v <;> rfl
  · cases v <;> first | rfl | exact sw_of hs hk (of_decide_eq_true h)
  · cases h
/-- y = [.. for ..]: by the comprehension's own road -/
def lcLoc (c : Cxt) (y : Str) (py : Pos) (v : Expr) : Bool := match v with
  | .ListComp _ _ scope pos => decide (c.sc.names.lookup y = some .local) && (py.line == pos.line) && !(scope.names.any fun (n, k) => n == y && (k == .local || k == .cell))
  | _ => false
def lcCell (c : Cxt) (y : Str) : Bool := decide (c.sc.names.lookup y = some .cell) && c.fn y
theorem sw_cell {env : Env} {sc : Scope} (hs : env.scope = sc) {y : Str} (h : sc.names.lookup y = some .cell) (v : Expr) (py : Pos) (l : Nat) : swapsWith v (some (.Name y py)) l env = pure false := by
  have hk : env.kindOf y = some .cell := by unfold Env.kindOf; rw [hs]; exact h
  have hb : (some NameKind.cell == some NameKind.local) = false := rfl
  cases v <;> first | rfl | (simp only [swapsWith, hk, hb, Bool.and_false, Bool.false_and] <;> rfl)
def frB (e : E) (o : Bool) : Bool := !o || frE e
mutual
def chkS : Nat → PrN → Cxt → Stmt → S → Bool
  | 0, _, _, _, _ => false
  | n + 1, pn, c, st, s => match s with
    | .expr e => (match st with
      | .Expr v _ => nCmp v && chkE n pn c v e
      | _ => false)
    | .asg t e => (match st with
      | .Assign [tg] v _ => nSt tg && chkT n c tg t && chkE n pn c v e && (if nCmp v then swN c.sc tg v else (match tg, t with
        | .Name y py, .var i => lcLoc c y py v || lcCell c y
        | _, _ => false))
      | _ => false)
    | .own i e => (match st with
      | .Assign [.Name y py] v _ => decide (c.N[i]? = some y) && locB c y && frE e && chkE n pn c v e && (nCmp v || lcLoc c y py v || lcCell c y)
      | _ => false)
    | .par ts as => (match st with
      | .Assign [.Tuple tgs _ _] (.Tuple vs _ _) _ => (match ts, tgs, vs, as with
        | [(i, o1), (j, o2)], [.Name x _, .Name y _], [a, b], .cons a' (.cons b' .nil) =>
          decide (c.N[i]? = some x) && decide (c.N[j]? = some y) && decide (i ≠ j) && decide (c.sc.names.lookup x = some .local) && decide (c.sc.names.lookup y = some .local) && decide (swB c.sc tgs vs = some (some [x, y])) &&
          nSt a && nSt b && chkE n pn c a a' && chkE n pn c b b' && frB a' o1 && frB b' o2
        | [(i, o1), (j, o2), (l, o3)], [.Name x _, .Name y _, .Name z _], [a, b, d], .cons a' (.cons b' (.cons d' .nil)) =>
          decide (c.N[i]? = some x) && decide (c.N[j]? = some y) && decide (c.N[l]? = some z) && decide (i ≠ j) && decide (i ≠ l) && decide (j ≠ l) && decide (c.sc.names.lookup x = some .local) && decide (c.sc.names.lookup y = some .local) && decide (c.sc.names.lookup z = some .local) &&
          decide (swB c.sc tgs vs = some (some [x, y, z])) && nSt a && nSt b && nSt d && chkE n pn c a a' && chkE n pn c b b' && chkE n pn c d d' && frB a' o1 && frB b' o2 && frB d' o3
        | _, _, _, _ => false)
      | _ => false)
    | .aug i e => (match st with
      | .AugAssign (.Name x _) .Add v _ => decide (c.N[i]? = some x) && locB c x && chkE n pn c v e
      | _ => false)
    | .ret e => (match st with
      | .Return (some v) _ => chkE n pn c v e
      | .Return none _ => (match e with
        | .cst .non => true
        | _ => false)
      | _ => false)
    | .ife t a b => (match st with
      | .If t' a' b' _ => chkE n pn c t' t && chkB n pn c a' a && chkB n pn c b' b
      | _ => false)
    | .for_ t it b => (match st with
      | .For tg iter b' [] _ => chkT n c tg t && chkI n pn c tg iter it && chkB n pn c b' b && nSet iter
      | _ => false)
    | .whl _ t b => (match st with
      | .While t' b' [] _ => chkE n pn c t' t && chkB n pn c b' b
      | _ => false)
    | .app i e => (match st with
      | .Expr (.Call (.Attribute (.Name x _) m apos) [v] [] cpos) _ => decide (m = ("append" : Str)) && decide (c.N[i]? = some x) && visB c.sc x && chkE n pn c v e && nSt v && (apos.endLine == cpos.line)
      | _ => false)
    | .sto i a' b' => (match st with
      | .Assign [.Subscript (.Name x _) a _] b _ => decide (c.N[i]? = some x) && visB c.sc x && chkE n pn c a a' && chkE n pn c b b' && nSli a
      | _ => false)
    | .pop t i => (match st with
      | .Assign [tg] (.Call (.Attribute (.Name x _) m apos) [] [] cpos) _ => decide (m = ("pop" : Str)) && decide (c.N[i]? = some x) && visB c.sc x && nSt tg && chkT n c tg t && (apos.endLine == cpos.line) && swN c.sc tg (.Call (.Attribute (.Name x cpos) m apos) [] [] cpos)
      | _ => false)
    | .ext i e => (match st with
      | .Expr (.Call (.Attribute (.Name x _) m apos) [v] [] cpos) _ => decide (m = ("extend" : Str)) && decide (c.N[i]? = some x) && visB c.sc x && chkE n pn c v e && nSt v && (apos.endLine == cpos.line)
      | _ => false)
    | .frz _ => false
    | .stop => true
    | .rais c' as => (match st with
      | .Raise (some (.Call (.Name x _) (e :: es) [] _)) none _ => (match pn.xs.lookup c' with
        | some (y, ns) => decide (x = y) && glB c.sc x && chkA n pn c (e :: es) as && decide ((e :: es).length = ns.length)
        | none => false)
      | _ => false)
    | .pass => (match st with
      | .Pass _ => true
      | _ => false)
def chkB : Nat → PrN → Cxt → List Stmt → B → Bool
  | 0, _, _, _, _ => false
  | n + 1, pn, c, sts, b => match b with
    | .nil => sts.isEmpty
    | .cons (.frz _) b => chkB n pn c sts b
    | .cons s b => (match sts with
      | [] => false
      | st :: sts => chkS n pn c st s && chkB n pn c sts b)
end
section
variable {CX : CXT} {W : Wd} {pn : PrN} {p : Pr} {k : Nat} {c : Cxt} {Ew : XK} {X : Cx} {Hk0 H0 : Hp}
theorem loc_of (ok : Ok CX W pn p k c Ew X) {x : Str} (h : locB c x = true) : Loc X.env.scope x ∧ (X.fn x = true ∨ X.env.scope.names.lookup x = some .local) := by
  unfold locB at h
  unfold L2.Loc
  rw [ok.sc, ok.fn]
  revert h
  cases c.sc.names.lookup x with
  | none => intro h; cases h
  | some kd => cases kd <;> intro h <;> first | exact ⟨.inl rfl, .inr rfl⟩ | exact ⟨.inr rfl, .inl h⟩ | cases h
/-- a new list's expression, whatever its form -/
theorem snd_f (ok : Ok CX W pn p k c Ew X) {n : Nat} {v : Expr} {e : E} (hf : frE e = true) (h : chkE n pn c v e = true) : PE X v (tFf X.K W Ew (evE p.cs (den p k) e)) ∧ ∀ Γ g d g', evE p.cs (den p k) e Γ g = .ok d g' → isOb d = true := by
  induction n generalizing v with
  | zero => unfold chkE at h; cases h
  | succ n ih =>
    unfold chkE at h
    split at h
    · rename_i x hx
      obtain ⟨op, pos, rfl⟩ := one_some hx
      obtain ⟨q1, q2⟩ := ih h
      exact ⟨pe_one q1, q2⟩
    · cases e with
      | lst as =>
        dsimp only at h
        split at h
        · simp only [Bool.and_eq_true, decide_eq_true_eq] at h
          exact ⟨lst_snd (se_all n) ok h.1 h.2, fun Γ g d g' e => lst_shape e⟩
        · cases h
      | lc elt' t it cond =>
        dsimp only at h
        split at h
        · rename_i elt tg iter ifs z scope pos
          simp only [Bool.and_eq_true, decide_eq_true_eq] at h
          obtain ⟨⟨⟨⟨⟨⟨hz, hb⟩, hs⟩, ht⟩, hi⟩, hc⟩, he⟩ := h
          subst hz
          obtain ⟨wi, g, tt, te, own, q1, q2, q3, q4, q5, q6, q7⟩ := lc_snd (se_all n) ok hb hs ht hi hc he
          exact ⟨PE.imp (pe_lc ok.calm ok.nd q1 q2 q3 q4 q5 q6) q7, fun Γ g d g' e => lc_shape e⟩
        · cases h
      | cat a' b' =>
        dsimp only at h
        split at h
        · simp only [Bool.and_eq_true] at h
          have e2 : evE p.cs (den p k) (.cat a' b') = catR (evE p.cs (den p k) a') (evE p.cs (den p k) b') := by funext Γ g; simp only [evE, catR] <;> rfl
          rw [e2]
          exact ⟨f_cat ((se_all n).e ok h.1) ((se_all n).e ok h.2), fun Γ g d g' e => cat_shape e⟩
        · cases h
      | rev a' =>
        dsimp only at h
        split at h
        · simp only [Bool.and_eq_true, decide_eq_true_eq] at h
          obtain ⟨rfl, h⟩ := h
          have e2 : evE p.cs (den p k) (.rev a') = revR (evE p.cs (den p k) a') := by funext Γ g; simp only [evE, revR] <;> rfl
          rw [e2]
          exact ⟨f_rev ((se_all n).e ok h), fun Γ g d g' e => rev_shape e⟩
        · cases h
      | dnil =>
        dsimp only at h
        split at h
        · have e2 : evE p.cs (den p k) .dnil = fun _ g => .ok (.dct [] []) g := by funext Γ g; simp only [evE]
          rw [e2]
          exact ⟨f_dnil, fun Γ g d g' e => by cases e; rfl⟩
        · cases h
      | lrng1 a' =>
        dsimp only at h
        split at h
        · rename_i f q1 r q2 a q3 q4 _
          simp only [Bool.and_eq_true, decide_eq_true_eq] at h
          obtain ⟨⟨⟨⟨⟨rfl, hg⟩, rfl⟩, hg2⟩, ha⟩, hn⟩ := h
          have e2 : evE p.cs (den p k) (.lrng1 a') = lrng1R (evE p.cs (den p k) a') := by funext Γ g; simp only [evE, lrng1R] <;> rfl
          rw [e2]
          exact ⟨f_lrng1 ok.calm (ok.gl hg) (ok.bn _ (by simp [bNames])) (ok.gl hg2) (ok.bn _ (by simp [bNames])) ((se_all n).e ok ha) (star_of hn _ _), fun Γ g d g' e => lrng1_shape e⟩
        · cases h
      | lrng2 a' b' =>
        dsimp only at h
        split at h
        · rename_i f q1 r q2 a b q3 q4 _
          simp only [Bool.and_eq_true, decide_eq_true_eq] at h
          obtain ⟨⟨⟨⟨⟨⟨⟨rfl, hg⟩, rfl⟩, hg2⟩, ha⟩, hn⟩, hb⟩, hn2⟩ := h
          have e2 : evE p.cs (den p k) (.lrng2 a' b') = lrng2R (evE p.cs (den p k) a') (evE p.cs (den p k) b') := by funext Γ g; simp only [evE, lrng2R] <;> rfl
          rw [e2]
          exact ⟨f_lrng2 ok.calm (ok.gl hg) (ok.bn _ (by simp [bNames])) (ok.gl hg2) (ok.bn _ (by simp [bNames])) ((se_all n).e ok ha) ((se_all n).e ok hb) (star_of hn _ _) (star_of hn2 _ _) (by rw [star_of hn2]; rfl), fun Γ g d g' e => lrng2_shape e⟩
        · cases h
      | done k' v' =>
        dsimp only at h
        split at h
        · simp only [Bool.and_eq_true] at h
          have e2 : evE p.cs (den p k) (.done k' v') = doneR (evE p.cs (den p k) k') (evE p.cs (den p k) v') := by funext Γ g; simp only [evE, doneR] <;> rfl
          rw [e2]
          exact ⟨f_done ok.un ok.w ((se_all n).e ok h.1) ((se_all n).e ok h.2), fun Γ g d g' e => done_shape e⟩
        · cases h
      | lstS as =>
        dsimp only at h
        split at h
        · have e2 : evE p.cs (den p k) (.lstS as) = fun Γ g => (evA p.cs (den p k) as Γ g).bind fun xs g => if xs.length ≤ 1000000 then .ok (.lst xs) g else .st := by funext Γ g; simp only [evE] <;> rfl
          rw [e2]
          exact ⟨f_lstS ((se_all n).as ok h), fun Γ g d g' e => lstS_shape e⟩
        · cases h
      | bi b as =>
        dsimp only at h
        split at h
        · rename_i x q es pos hone
          simp only [Bool.and_eq_true, decide_eq_true_eq] at h
          obtain ⟨⟨⟨rfl, hg⟩, ha⟩, hne⟩ := h
          have hn := (chkA_len (n := n) ha).1
          have e2 : evE p.cs (den p k) (.bi b as) = fun Γ g => (evA p.cs (den p k) as Γ g).bind fun xs g => lift (biD b xs) g := by funext Γ g; first | rfl | (simp only [evE]; done) | (simp only [evE]; rfl)
          rw [e2]
          have hm : X.mg (biN b) = none := ok.bn _ (by cases b <;> simp [biN, bNames])
          have sh : ∀ ds d, (b = .list ∨ b = .sorted ∨ b = .sortd) → biD b ds = some d → ∃ zs, d = .lst zs := fun ds d hb e => by
            rcases hb with rfl | rfl | rfl
            · exact list_shape _ _ e
            · exact sort_shape _ _ e
            · exact sortd_shape _ _ e
          have shape : (b = .list ∨ b = .sorted ∨ b = .sortd) → ∀ Γ g d g', ((evA p.cs (den p k) as Γ g).bind fun xs g => lift (biD b xs) g) = .ok d g' → isOb d = true := fun hb Γ g d g' e => by
            obtain ⟨xs, g1, _, e⟩ := bind_ok e
            obtain ⟨zs, rfl⟩ := sh _ _ hb (lift_ok e).1
            rfl
          cases es with
          | nil => cases hne
          | cons a es =>
            simp only [nSts, Bool.and_eq_true] at hn
            cases b with
            | list => exact ⟨f_biT (fun ds d e => sh ds d (.inl rfl) e) (call_listF ok.calm) (ok.gl hg) hm (by decide +kernel) ((se_all n).a ok ha) (by decide) (by decide) (star_of hn.1 _ _) (back_of _ _ hn.2), shape (.inl rfl)⟩
            | sorted => exact ⟨f_biB (fun ds d e => sh ds d (.inr (.inl rfl)) e) call_sortF (ok.gl hg) hm (by decide +kernel) ((se_all n).a ok ha) (by decide) (by decide) (star_of hn.1 _ _) (back_of _ _ hn.2), shape (.inr (.inl rfl))⟩
            | sortd => exact ⟨f_biB (fun ds d e => sh ds d (.inr (.inr rfl)) e) (call_sortdF ok.un2) (ok.gl hg) hm (by decide +kernel) ((se_all n).a ok ha) (by decide) (by decide) (star_of hn.1 _ _) (back_of _ _ hn.2), shape (.inr (.inr rfl))⟩
            | _ => cases hf
        · cases h
      | _ => cases hf
/-- .. stored in a local name on its line -/
theorem snd_lcLoc (ok : Ok CX W pn p k c Ew X) (hk : c.sc.kind = .function) {n : Nat} {v : Expr} {e : E} {y : Str} {py pos : Pos} {i : Nat} (hl : lcLoc c y py v = true) (hN : c.N[i]? = some y) (h : chkE n pn c v e = true) :
    ∃ te, PS X (.Assign [.Name y py] v pos) (tAsg te (gName i)) ∧ (∀ σ H Q, tFf X.K W Ew (evE p.cs (den p k) e) σ H Q → te σ H Q) ∧ ∀ Γ g d g', evE p.cs (den p k) e Γ g = .ok d g' → isOb d = true := by
  unfold lcLoc at hl
  split at hl
  · rename_i elt gs scope lpos
    simp only [Bool.and_eq_true, decide_eq_true_eq, Bool.not_eq_true'] at hl
    cases n with
    | zero => unfold chkE at h; cases h
    | succ n =>
      unfold chkE at h
      split at h
      · rename_i x hx; cases hx
      · cases e with
        | lc elt' t it cond =>
          dsimp only at h
          split at h
          · rename_i elt2 tg iter ifs z scope2 pos2 e0
            cases e0
            simp only [Bool.and_eq_true, decide_eq_true_eq] at h
            obtain ⟨⟨⟨⟨⟨⟨hz, hb⟩, hs⟩, ht⟩, hi⟩, hc⟩, he⟩ := h
            subst hz
            obtain ⟨wi, g, tt, te, own, q1, q2, q3, q4, q5, q6, q7⟩ := lc_snd (se_all n) ok hb hs ht hi hc he
            refine ⟨_, ps_setLc ok.calm ok.nd (by rw [ok.N]; exact hN) (by rw [ok.sc]; exact hl.1.1) (sw_true (by rw [ok.sc]; exact hk) (by rw [ok.sc]; exact hl.1.1) hl.1.2 hl.2) q1 q2 q3 q4 q5 q6, q7, fun Γ g d g' e => lc_shape e⟩
          · cases h
        | _ => simp only at h; cases h
  · cases hl
theorem tE_tF {f : Gm → G → R D} (hl : ∀ Γ g d g', f Γ g = .ok d g' → isOb d = true) : ∀ σ H Q, tE X.K W Ew f σ H Q → tFf X.K W Ew f σ H Q := fun σ H Q ⟨Hk0, H0, Γ, g, Hk, fr, h⟩ => ⟨Hk0, H0, Γ, g, Hk, fr, by
  cases r : f Γ g with
  | ok d g' =>
    rw [r] at h
    intro Hk' H' s dr p u hp hk hp' rl
    exact h _ H' (s.tell hp hp') dr (.ref p) ((rl.mono (Evl.Ex.new hk)).rp upd_same)
  | ex c ds g' => rw [r] at h; exact h
  | st => rw [r] at h; exact h⟩
theorem snd_P (ok : Ok CX W pn p k c Ew X) {n : Nat} {v : Expr} {e : E} {o : Bool} (ho : frB e o = true) (h : chkE n pn c v e = true) : PE X v (tP X.K W Ew o (evE p.cs (den p k) e)) ∧ (o = true → ∀ Γ g d g', evE p.cs (den p k) e Γ g = .ok d g' → isOb d = true) := by
  cases o with
  | false => exact ⟨(se_all n).e ok h, fun z => by cases z⟩
  | true =>
    have := snd_f ok (by simpa [frB] using ho) h
    exact ⟨this.1, fun _ => this.2⟩
end
end Bk

set_option Elab.async false
set_option linter.all false
set_option maxRecDepth 100000
set_option maxHeartbeats 4000000
/-! The evaluator is sound: statements, joined. -/
namespace Bk
open PySem L2
open Evl (Ex ex_l ex_t)
section
variable {CX : CXT} {W : Wd} {pn : PrN} {p : Pr} {k : Nat} {c : Cxt} {Ew : XK} {X : Cx} {Hk0 H0 : Hp}
theorem par2_eq {cs : List (Nat × D)} {call : Nat → List D → G → R D} {i j : Nat} {o1 o2 : Bool} {a b : E} : evS cs call (.par [(i, o1), (j, o2)] (.cons a (.cons b .nil))) = parR2 i o1 j o2 (evE cs call a) (evE cs call b) := by
  funext Γ g
  simp only [evS, evA, parR2]
  cases evE cs call a Γ g with
  | ok x g1 =>
    simp only [R.bind]
    cases evE cs call b Γ g1 with
    | ok y g2 =>
      simp only [R.bind, parG]
      by_cases hi : i < Γ.length
      · rw [if_pos hi]
        simp only [List.length_set]
        by_cases hj : j < Γ.length
        · rw [if_pos hj, if_pos (show i < Γ.length ∧ j < Γ.length from ⟨hi, hj⟩)]; rfl
        · rw [if_neg hj, if_neg (show ¬ (i < Γ.length ∧ j < Γ.length) from fun z => hj z.2)]; rfl
      · rw [if_neg hi, if_neg (show ¬ (i < Γ.length ∧ j < Γ.length) from fun z => hi z.1)]; rfl
    | ex _ _ _ => rfl
    | st => rfl
  | ex _ _ _ => rfl
  | st => rfl
theorem par3_eq {cs : List (Nat × D)} {call : Nat → List D → G → R D} {i j l : Nat} {o1 o2 o3 : Bool} {a b d : E} : evS cs call (.par [(i, o1), (j, o2), (l, o3)] (.cons a (.cons b (.cons d .nil)))) = parR3 i o1 j o2 l o3 (evE cs call a) (evE cs call b) (evE cs call d) := by
  funext Γ g
  simp only [evS, evA, parR3]
  cases evE cs call a Γ g with
  | ok x g1 =>
    simp only [R.bind]
    cases evE cs call b Γ g1 with
    | ok y g2 =>
      simp only [R.bind]
      cases evE cs call d Γ g2 with
      | ok z g3 =>
        simp only [R.bind, parG]
        by_cases hi : i < Γ.length
        · rw [if_pos hi]
          simp only [List.length_set]
          by_cases hj : j < Γ.length
          · rw [if_pos hj]
            by_cases hl : l < Γ.length
            · rw [if_pos hl, if_pos (show i < Γ.length ∧ j < Γ.length ∧ l < Γ.length from ⟨hi, hj, hl⟩)]; rfl
            · rw [if_neg hl, if_neg (show ¬ (i < Γ.length ∧ j < Γ.length ∧ l < Γ.length) from fun z => hl z.2.2)]; rfl
          · rw [if_neg hj, if_neg (show ¬ (i < Γ.length ∧ j < Γ.length ∧ l < Γ.length) from fun z => hj z.2.1)]; rfl
        · rw [if_neg hi, if_neg (show ¬ (i < Γ.length ∧ j < Γ.length ∧ l < Γ.length) from fun z => hi z.1)]; rfl
      | ex _ _ _ => rfl
      | st => rfl
    | ex _ _ _ => rfl
    | st => rfl
  | ex _ _ _ => rfl
  | st => rfl
theorem asg1 {tg : Expr} (h : nSt tg = true) (env : Env) : (assignEach [tg] env).map (·.2) = [assign tg env] := by
  rw [asg_of h]; rfl
theorem sole_of {tg v : Expr} (h : nCmp v = true) (l : Nat) (env : Env) : swapsWithSole [tg] v l env = pure false := nCmp_of h _ _ _
theorem snd_asg (ok : Ok CX W pn p k c Ew X) (hk : c.sc.kind = .function) {n : Nat} {st : Stmt} {t : T} {e : E} (h : chkS (n + 1) pn c st (.asg t e) = true) : PS X st (tSt X.K W Ew Hk0 H0 (evS p.cs (den p k) (.asg t e))) := by
  have e0 : evS p.cs (den p k) (.asg t e) = fun Γ g => (evE p.cs (den p k) e Γ g).bind fun x g => (lift (setT t x Γ) g).bind fun Γ' g => .ok (.nx Γ') g := by funext Γ g; simp only [evS]
  rw [e0]
  simp only [chkS] at h
  split at h
  · rename_i tg v pos
    simp only [Bool.and_eq_true] at h
    obtain ⟨⟨⟨h1, h2⟩, h3⟩, h4⟩ := h
    split at h4
    · rename_i hc
      exact s_asg ((se_all n).e ok h3) ((sndT ok n).1 _ _ h2) (sole_of hc _ _) (swN_of ok.sc hk h4) (asg1 h1 _)
    · split at h4
      · rename_i y py i
        cases n with
        | zero => cases h2
        | succ n =>
        have h2' := h2
        simp only [chkT, Bool.and_eq_true, decide_eq_true_eq] at h2
        simp only [Bool.or_eq_true] at h4
        rcases h4 with h4 | h4
        · obtain ⟨te, q1, q2, q3⟩ := snd_lcLoc (pos := pos) ok hk h4 h2.1 h3
          exact s_asgL q1 fun σ H Q z => q2 σ H Q (tE_tF q3 σ H Q z)
        · simp only [lcCell, Bool.and_eq_true, decide_eq_true_eq] at h4
          refine s_asg ((se_all (n + 1)).e ok h3) ((sndT ok (n + 1)).1 _ _ h2') (show swapsWithSole [.Name y py] v pos.line _ = pure false from sw_cell ok.sc h4.1 v py pos.line) (swN_of ok.sc hk (tg := .Name y py) rfl) (asg1 h1 _)
      · cases h4
  · cases h
theorem snd_own (ok : Ok CX W pn p k c Ew X) (hk : c.sc.kind = .function) {n : Nat} {st : Stmt} {i : Nat} {e : E} (h : chkS (n + 1) pn c st (.own i e) = true) : PS X st (tSt X.K W Ew Hk0 H0 (evS p.cs (den p k) (.own i e))) := by
  have e0 : evS p.cs (den p k) (.own i e) = ownR i (evE p.cs (den p k) e) := by funext Γ g; simp only [evS, ownR] <;> rfl
  rw [e0]
  simp only [chkS] at h
  split at h
  · rename_i y py v pos
    simp only [Bool.and_eq_true, Bool.or_eq_true, decide_eq_true_eq] at h
    obtain ⟨⟨⟨⟨h1, h2⟩, h3⟩, h4⟩, h5⟩ := h
    rcases h5 with (h5 | h5) | h5
    · obtain ⟨l1, l2⟩ := loc_of ok h2
      exact s_own (ps_set ok.nd (by rw [ok.N]; exact h1) l1 (snd_f ok h3 h4).1 (nCmp_of h5 _ _ _) l2) fun σ H Q z => z
    · obtain ⟨te, q1, q2, q3⟩ := snd_lcLoc (pos := pos) ok hk h5 h1 h4
      exact s_own q1 q2
    · simp only [lcCell, Bool.and_eq_true, decide_eq_true_eq] at h5
      obtain ⟨l1, l2⟩ := loc_of ok h2
      exact s_own (ps_set ok.nd (by rw [ok.N]; exact h1) l1 (snd_f ok h3 h4).1 (sw_cell ok.sc h5.1 _ _ _) l2) fun σ H Q z => z
  · cases h
theorem snd_par (ok : Ok CX W pn p k c Ew X) (hk : c.sc.kind = .function) {n : Nat} {st : Stmt} {ts : List (Nat × Bool)} {as : A} (h : chkS (n + 1) pn c st (.par ts as) = true) : PS X st (tSt X.K W Ew Hk0 H0 (evS p.cs (den p k) (.par ts as))) := by
  simp only [chkS] at h
  split at h
  · split at h
    · simp only [Bool.and_eq_true, decide_eq_true_eq] at h
      obtain ⟨⟨⟨⟨⟨⟨⟨⟨⟨⟨⟨h1, h2⟩, h3⟩, h4⟩, h5⟩, h6⟩, n1⟩, n2⟩, c1⟩, c2⟩, f1⟩, f2⟩ := h
      obtain ⟨p1, l1⟩ := snd_P ok f1 c1
      obtain ⟨p2, l2⟩ := snd_P ok f2 c2
      rw [par2_eq]
      exact s_par2 l1 l2 (ps_par ok.calm ok.nd (by rw [ok.N]; exact h1) (by rw [ok.N]; exact h2) h3 (by rw [ok.sc]; exact h4) (by rw [ok.sc]; exact h5) (pa_cons p1 (pa_cons p2 pa_nil (star_of n2 _ _)) (star_of n1 _ _)) (sw_of ok.sc hk h6))
    · simp only [Bool.and_eq_true, decide_eq_true_eq] at h
      obtain ⟨⟨⟨⟨⟨⟨⟨⟨⟨⟨⟨⟨⟨⟨⟨⟨⟨⟨h1, h2⟩, h3⟩, d1⟩, d2⟩, d3⟩, k1⟩, k2⟩, k3⟩, h6⟩, n1⟩, n2⟩, n3⟩, c1⟩, c2⟩, c3⟩, f1⟩, f2⟩, f3⟩ := h
      obtain ⟨p1, l1⟩ := snd_P ok f1 c1
      obtain ⟨p2, l2⟩ := snd_P ok f2 c2
      obtain ⟨p3, l3⟩ := snd_P ok f3 c3
      rw [par3_eq]
      exact s_par3 l1 l2 l3 (ps_par3 ok.calm ok.nd (by rw [ok.N]; exact h1) (by rw [ok.N]; exact h2) (by rw [ok.N]; exact h3) d1 d2 d3 (by rw [ok.sc]; exact k1) (by rw [ok.sc]; exact k2) (by rw [ok.sc]; exact k3) (pa_cons p1 (pa_cons p2 (pa_cons p3 pa_nil (star_of n3 _ _)) (star_of n2 _ _)) (star_of n1 _ _)) (sw_of ok.sc hk h6))
    · cases h
  · cases h
structure SS (CX : CXT) (W : Wd) (pn : PrN) (p : Pr) (k n : Nat) : Prop where
  s : ∀ {c : Cxt} {Ew : XK} {X : Cx} {Hk0 H0 : Hp}, Ok CX W pn p k c Ew X → c.sc.kind = .function → ∀ {st : Stmt} {s : S}, chkS n pn c st s = true → PS X st (tSt X.K W Ew Hk0 H0 (evS p.cs (den p k) s))
  b : ∀ {c : Cxt} {Ew : XK} {X : Cx} {Hk0 H0 : Hp}, Ok CX W pn p k c Ew X → c.sc.kind = .function → ∀ {st : List Stmt} {b : B}, chkB n pn c st b = true → PSs X st (tSt X.K W Ew Hk0 H0 (evB p.cs (den p k) b))
theorem snd_s {n : Nat} (ih : SS CX W pn p k n) (ok : Ok CX W pn p k c Ew X) (hk : c.sc.kind = .function) {st : Stmt} {s : S} (h : chkS (n + 1) pn c st s = true) : PS X st (tSt X.K W Ew Hk0 H0 (evS p.cs (den p k) s)) := by
  have ie := se_all (CX := CX) (W := W) (pn := pn) (p := p) (k := k) n
  cases s with
  | asg t e => exact snd_asg ok hk h
  | own i e => exact snd_own ok hk h
  | par ts as => exact snd_par ok hk h
  | expr e =>
    have e0 : evS p.cs (den p k) (.expr e) = fun Γ g => (evE p.cs (den p k) e Γ g).bind fun _ g => .ok (.nx Γ) g := by funext Γ g; simp only [evS]
    rw [e0]
    simp only [chkS] at h
    split at h
    · simp only [Bool.and_eq_true] at h
      exact s_expr (ie.e ok h.2) (nCmp_of h.1 _ _ _)
    · cases h
  | aug i e =>
    have e0 : evS p.cs (den p k) (.aug i e) = augR i (evE p.cs (den p k) e) := by funext Γ g; simp only [evS, augR] <;> rfl
    rw [e0]
    simp only [chkS] at h
    split at h
    · simp only [Bool.and_eq_true, decide_eq_true_eq] at h
      obtain ⟨l1, l2⟩ := loc_of ok h.1.2
      exact s_aug (ps_aug ok.nd (by rw [ok.N]; exact h.1.1) l1 (ie.e ok h.2) ip_add l2)
    · cases h
  | ret e =>
    have e0 : evS p.cs (den p k) (.ret e) = fun Γ g => (evE p.cs (den p k) e Γ g).bind fun x g => .ok (.rt x) g := by funext Γ g; simp only [evS]
    simp only [chkS] at h
    split at h
    · rw [e0]; exact s_ret (ie.e ok h)
    · split at h
      · have e1 : evS p.cs (den p k) (.ret (.cst .non)) = fun Γ g => R.bind (R.ok D.non g) fun x g => .ok (.rt x) g := by funext Γ g; simp only [evS, evE]
        rw [e1]
        exact s_retN
      · cases h
    · cases h
  | ife t a b =>
    have e0 : evS p.cs (den p k) (.ife t a b) = fun Γ g => (blR (evE p.cs (den p k) t Γ g)).bind fun k' g => if k' then evB p.cs (den p k) a Γ g else evB p.cs (den p k) b Γ g := by funext Γ g; simp only [evS]
    rw [e0]
    simp only [chkS] at h
    split at h
    · simp only [Bool.and_eq_true] at h
      exact s_if (ie.t ok h.1.1) (ih.b ok hk h.1.2) (ih.b ok hk h.2)
    · cases h
  | for_ t it b =>
    have e0 : evS p.cs (den p k) (.for_ t it b) = fun Γ g => (evI p.cs (den p k) it Γ g).bind fun xs g => forR (fun x Γ g => (lift (setT t x Γ) g).bind fun Γ' g => evB p.cs (den p k) b Γ' g) xs Γ g := by funext Γ g; simp only [evS]
    rw [e0]
    simp only [chkS] at h
    split at h
    · simp only [Bool.and_eq_true] at h
      exact s_for ok.own ok.calm (ie.i ok h.1.1.2) ((sndT ok n).1 _ _ h.1.1.1) (ih.b ok hk h.1.2) (set_of h.2 _)
    · cases h
  | whl m t b =>
    have e0 : evS p.cs (den p k) (.whl m t b) = fun Γ g => whlR (fun Γ g => blR (evE p.cs (den p k) t Γ g)) (fun Γ g => evB p.cs (den p k) b Γ g) m Γ g := by funext Γ g; simp only [evS]
    rw [e0]
    simp only [chkS] at h
    split at h
    · simp only [Bool.and_eq_true] at h
      exact s_while m ok.own (ie.t ok h.1) (ih.b ok hk h.2)
    · cases h
  | app i e =>
    have e0 : evS p.cs (den p k) (.app i e) = appR i (evE p.cs (den p k) e) := by funext Γ g; simp only [evS, appR] <;> rfl
    rw [e0]
    simp only [chkS] at h
    split at h
    · rename_i x px m apos v cpos pos
      simp only [Bool.and_eq_true, decide_eq_true_eq] at h
      obtain ⟨⟨⟨⟨⟨rfl, h1⟩, h2⟩, h3⟩, h4⟩, h5⟩ := h
      have hN : X.N[i]? = some x := by rw [ok.N]; exact h1
      have hx := ok.nm x (List.mem_of_getElem? hN)
      exact s_app (pe_var hN (by rw [ok.sc]; exact vis_of h2) (okN1 hx) (okN2 hx)) (ie.e ok h3) h4 h5 (nCmp_of rfl _ _ _)
    · cases h
  | sto i a' b' =>
    have e0 : evS p.cs (den p k) (.sto i a' b') = stoR i (evE p.cs (den p k) a') (evE p.cs (den p k) b') := by funext Γ g; simp only [evS, stoR] <;> rfl
    rw [e0]
    simp only [chkS] at h
    split at h
    · rename_i x px a tp b pos
      simp only [Bool.and_eq_true, decide_eq_true_eq] at h
      obtain ⟨⟨⟨⟨h1, h2⟩, h3⟩, h4⟩, h5⟩ := h
      have hN : X.N[i]? = some x := by rw [ok.N]; exact h1
      have hx := ok.nm x (List.mem_of_getElem? hN)
      have pv := pe_var (X := X) (pos := px) hN (by rw [ok.sc]; exact vis_of h2) (okN1 hx) (okN2 hx)
      exact s_sto pv (ie.e ok h3) (ie.e ok h4) (by cases b <;> rfl) (by cases b <;> rfl) (pg_sub pv (ie.e ok h3) (set_O ok.un ok.w) (by cases a <;> first | (intro v; rfl) | cases h5))
    · cases h
  | pop t i =>
    have e0 : evS p.cs (den p k) (.pop t i) = popR t i := by funext Γ g; simp only [evS, popR] <;> rfl
    rw [e0]
    simp only [chkS] at h
    split at h
    · rename_i tg x px m apos cpos pos
      simp only [Bool.and_eq_true, decide_eq_true_eq] at h
      obtain ⟨⟨⟨⟨⟨⟨rfl, h1⟩, h2⟩, h3⟩, h4⟩, h5⟩, h6⟩ := h
      have hN : X.N[i]? = some x := by rw [ok.N]; exact h1
      have hx := ok.nm x (List.mem_of_getElem? hN)
      exact s_pop (pe_var hN (by rw [ok.sc]; exact vis_of h2) (okN1 hx) (okN2 hx)) ((sndT ok n).1 _ _ h4) h5 (sole_of rfl _ _) (swN_of ok.sc hk (by unfold swN at h6 ⊢; exact h6)) (asg1 h3 _)
    · cases h
  | ext i e =>
    have e0 : evS p.cs (den p k) (.ext i e) = extR i (evE p.cs (den p k) e) := by funext Γ g; simp only [evS, extR] <;> rfl
    rw [e0]
    simp only [chkS] at h
    split at h
    · rename_i x px m apos v cpos pos
      simp only [Bool.and_eq_true, decide_eq_true_eq] at h
      obtain ⟨⟨⟨⟨⟨rfl, h1⟩, h2⟩, h3⟩, h4⟩, h5⟩ := h
      have hN : X.N[i]? = some x := by rw [ok.N]; exact h1
      have hx := ok.nm x (List.mem_of_getElem? hN)
      exact s_ext (pe_var hN (by rw [ok.sc]; exact vis_of h2) (okN1 hx) (okN2 hx)) (ie.e ok h3) h4 h5 (nCmp_of rfl _ _ _)
    · cases h
  | frz i => simp only [chkS] at h; cases h
  | stop =>
    have e0 : evS p.cs (den p k) .stop = fun _ _ => .st := by funext Γ g; simp only [evS]
    rw [e0]; exact s_stop
  | rais c' as =>
    have e0 : evS p.cs (den p k) (.rais c' as) = fun Γ g => (evA p.cs (den p k) as Γ g).bind fun ds g => .ex c' ds g := by funext Γ g; simp only [evS]
    rw [e0]
    simp only [chkS] at h
    split at h
    · split at h
      · rename_i y ns hx
        simp only [Bool.and_eq_true, decide_eq_true_eq] at h
        obtain ⟨⟨⟨rfl, h1⟩, h2⟩, h3⟩ := h
        obtain ⟨q1, q2⟩ := chkA_len (n := 0) h2
        exact s_rais ok hx h1 (ie.a ok h2) q1 fun Γ g ds g' e => by rw [q2 _ _ _ _ _ _ e, h3]
      · cases h
    · cases h
  | pass =>
    have e0 : evS p.cs (den p k) .pass = fun Γ g => .ok (.nx Γ) g := by funext Γ g; simp only [evS]
    rw [e0]
    simp only [chkS] at h
    split at h
    · exact s_pass
    · cases h
theorem snd_b {n : Nat} (ih : SS CX W pn p k n) (ok : Ok CX W pn p k c Ew X) (hk : c.sc.kind = .function) {sts : List Stmt} {b : B} (h : chkB (n + 1) pn c sts b = true) : PSs X sts (tSt X.K W Ew Hk0 H0 (evB p.cs (den p k) b)) := by
  cases b with
  | nil =>
    simp only [chkB] at h
    cases sts with
    | nil =>
      have e0 : evB p.cs (den p k) .nil = fun Γ g => .ok (.nx Γ) g := by funext Γ g; simp only [evB]
      rw [e0]; exact s_nil
    | cons _ _ => cases h
  | cons s b =>
    have e0 : evB p.cs (den p k) (.cons s b) = seqR (evS p.cs (den p k) s) (evB p.cs (den p k) b) := by funext Γ g; simp only [evB, seqR] <;> rfl
    rw [e0]
    by_cases hf : ∃ i, s = .frz i
    · obtain ⟨i, rfl⟩ := hf
      have e1 : evS p.cs (den p k) (.frz i) = frzR i := by funext Γ g; simp only [evS, frzR] <;> rfl
      rw [e1]
      simp only [chkB] at h
      exact s_frz (ih.b ok hk h)
    · cases sts with
      | nil => cases s <;> first | (simp only [chkB] at h; cases h) | exact absurd ⟨_, rfl⟩ hf
      | cons st sts =>
        have h2 : chkS n pn c st s = true ∧ chkB n pn c sts b = true := by
          cases s <;> first | (simp only [chkB, Bool.and_eq_true] at h; exact h) | exact absurd ⟨_, rfl⟩ hf
        exact s_cons (ih.s ok hk h2.1) (ih.b ok hk h2.2)
theorem ss_all : ∀ n, SS CX W pn p k n
  | 0 => ⟨fun _ _ _ _ h => (by unfold chkS at h; cases h), fun _ _ _ _ h => (by unfold chkB at h; cases h)⟩
  | n + 1 => by
    have ih := ss_all n
    exact ⟨fun ok hk _ _ h => snd_s ih ok hk h, fun ok hk _ _ h => snd_b ih ok hk h⟩
end
end Bk

set_option Elab.async false
set_option linter.all false
set_option maxRecDepth 100000
set_option maxHeartbeats 4000000
/-! Each def keeps the evaluator's promise, to any depth. -/
namespace Bk
open PySem PySem.Spec PyProof.Rows L2
open Evl (Ex ex_l ex_t)
/-- where a def makes lambdas: its code object, its table -/
def LamD (mg : Str → Option Value) (base : Heap) (tb : List (Addr × Str)) (x : Str) (cdv : Value) : Prop := ∃ c0 P, cdv = .ref c0 ∧ LamX.TabB base mg c0 P ∧ (P, x ++ ".<locals>." ++ "<lambda>") ∈ tb ∧ ∀ p ∈ tb, p.1 = P → p.2 = x ++ ".<locals>." ++ "<lambda>"
/-- a def of the text, held against its compact form -/
structure DefOk (pn : PrN) (K : PySem.W.Frag) (mg : Str → Option Value) (base : Heap) (tb : List (Addr × Str)) (x : Str) (df : Df) (a : Addr) (fd : FuncData) (ps : List Str) : Prop where
  ex : ∃ (params : Arguments) (body : List Stmt) (scope : Scope) (N : List Str) (n : Nat) (lam : Bool), FunD K x x params body scope [] [] a fd ∧ FnScope N ps scope ∧ (∀ y ∈ N, okN y = true) ∧ chkB n pn ⟨N, scope, fun _ => true, lam⟩ body df.body = true ∧ df.np = ps.length ∧ df.nn = N.length ∧ (lam = true → LamD mg base tb x fd.code)
  nm : okN x = true
  mg : mg x = some (.ref a)
  bd : Binds K fd ps []
structure World0 (P : Program) (w : World) (K : PySem.W.Frag) (mg : Str → Option Value) (base : Heap) (pn : PrN) (p : Pr) (xc : List (Nat × Addr × List Str)) (tb : List (Addr × Str)) : Prop where
  cs : ∀ (i : Nat) (d : D) (x : Str), p.cs.lookup i = some d → pn.cs.lookup i = some x → ∃ u v, okN x = true ∧ mg x = some u ∧ RelV v u ∧ ∀ (W : Wd) H, Rp K W H d v
  ds : ∀ (f : Nat) (x : Str), pn.ds.lookup f = some x → ∃ df a fd ps, p.ds.lookup f = some df ∧ DefOk pn K mg base tb x df a fd ps
  dr : ∃ a fd ps, mg "_law_draw" = some (.ref a) ∧ PySem.W.keepIn K (.ref a) = true ∧ Binds K fd ps [] ∧ ∀ (W : Wd), FnOkG P w K mg base CX0 2 a fd ps (spDraw W)
  bn : ∀ x ∈ bNames, mg x = none
  xs : ∀ (c : Nat) (x : Str) (ns : List Str), pn.xs.lookup c = some (x, ns) → ∃ C, xc.lookup c = some (C, ns) ∧ okN x = true ∧ mg x = some (.ref C) ∧ XcOk P K C ns
  sd : ∀ v x t, pn.sd.lookup v = some (x, t) → SaidOk P w K mg base xc x t
/-- the world's own parts -/
structure WIs (W : Wd) (w : World) (K : PySem.W.Frag) (xc : List (Nat × Addr × List Str)) (tb : List (Addr × Str)) : Prop where
  w : W.w = w
  k : W.k = K
  xc : W.xc = xc
  tb : W.tb = tb
theorem FnOkG.cx {P : Program} {w : World} {K : PySem.W.Frag} {mg : Str → Option Value} {base : Heap} {CX : CXT} {k : Nat} {f : Addr} {fd : FuncData} {ps : List Str} {sp : Sp} (F : FnOkG P w K mg base CX0 k f fd ps sp) : FnOkG P w K mg base CX k f fd ps sp :=
  ⟨F.len, fun A outer s H args us vs Q E h1 h2 h3 h4 h5 h6 => codeAny_mono (F.run A outer s H args us vs Q E h1 h2 h3 h4 h5 h6) fun r s' z => by
    rcases r with e | (_ | _ | _ | u)
    · exact (show False from z).elim
    · exact z
    · exact z
    · exact z
    · exact z⟩
theorem FnOkG.mono {P : Program} {w : World} {K : PySem.W.Frag} {mg : Str → Option Value} {base : Heap} {CX : CXT} {j k : Nat} {f : Addr} {fd : FuncData} {ps : List Str} {sp : Sp} (F : FnOkG P w K mg base CX j f fd ps sp) (h : j ≤ k) :
    FnOkG P w K mg base CX k f fd ps sp := ⟨F.len, fun A outer s H args us vs Q E hr => F.run A outer s H args us vs Q E (hr.mono h)⟩
section
variable {P : Program} {w : World} {K : PySem.W.Frag} {mg : Str → Option Value} {base : Heap} {pn : PrN} {p : Pr} {W : Wd} {xc : List (Nat × Addr × List Str)} {tb : List (Addr × Str)}
theorem gm_no {Hk H : Hp} : ∀ m, GmR K W Hk H (List.replicate m Slot.no) (List.replicate m none) []
  | 0 => .nil
  | m + 1 => .no none (gm_no m)
theorem gm_start {Hk H : Hp} {m : Nat} : ∀ {ds : List D} {vs : List V}, RpL K W Hk ds vs → GmR K W Hk H (ds.map Slot.val ++ List.replicate m Slot.no) (vs.map some ++ List.replicate m none) []
  | [], vs, h => by
    have h : vs = [] := h
    subst h
    exact gm_no m
  | d :: ds, vs, h => by
    obtain ⟨y, ys, rfl, h1, h2⟩ := h
    exact .val h1 (gm_start h2)
theorem den_len (hd : ∀ (f : Nat) (x : Str), pn.ds.lookup f = some x → ∃ df a fd ps, p.ds.lookup f = some df ∧ DefOk pn K mg base tb x df a fd ps) {k f : Nat} {df : Df} (e : p.ds.lookup f = some df) {ds : List D} {g : G} (h : den p k f ds g ≠ .st) : ds.length = df.np := by
  cases k with
  | zero => exact absurd rfl h
  | succ k =>
    unfold den at h
    rw [e] at h
    by_cases c : ds.length = df.np ∧ df.np ≤ df.nn
    · exact c.1
    · exact absurd (by simp only [if_neg c]) h
/-- the context of a def's body is a good one -/
theorem ok_body (w0 : World0 P w K mg base pn p xc tb) (hw : WIs W w K xc tb) {k : Nat} (ih : ∀ (f : Nat) (x : Str) df a fd ps, pn.ds.lookup f = some x → p.ds.lookup f = some df → DefOk pn K mg base tb x df a fd ps → FnOkG P w K mg base (L2.CX P w) (ix k) a fd ps (spD K W ps (den p k f)))
    {N ps : List Str} {qual : Str} {scope : Scope} {a : Addr} {cdv : Value} {A : Around} {outer : List Env} {s : Shared} {H : Hp} {E : XK} {lam : Bool} (S : FnScope N ps scope) (hN : ∀ y ∈ N, okN y = true)
    (hr : Room (4 * k + 5) (A.deeper (envOfC qual scope s.heap.objs.size a cdv))) (hg : (A.deeper (envOfC qual scope s.heap.objs.size a cdv)).guards = some []) (hlam : lam = true → LamD mg base tb qual cdv) :
    Ok (L2.CX P w) W pn p k ⟨N, scope, fun _ => true, lam⟩ E (cxOf (L2.CX P w) P w K mg base N qual scope a cdv A outer s H E) := by
  have tk : Takes (cxOf (L2.CX P w) P w K mg base N qual scope a cdv A outer s H E) (fun cls d _ H => E cls d H) := takes_of rfl rfl rfl rfl
  exact {
    N := rfl
    sc := rfl
    fn := rfl
    nd := S.nd
    nm := hN
    calm := rfl
    room := hr.mono (by unfold ix; omega)
    gd := hg
    pass := passes_call tk fun _ _ _ _ h => h
    own := passes_of rfl
    cxf := fun _ _ _ _ _ h => by
      obtain ⟨_, _, _, _, _, _, _, _, _, _, _, _, z⟩ := h
      exact z
    cs := fun i d x h1 h2 => by
      obtain ⟨u, v, q1, q2, q3, q4⟩ := w0.cs i d x h1 h2
      exact ⟨u, v, q1, q2, q3, q4 W⟩
    ds := fun f x h => by
      obtain ⟨df, a, fd, ps, e, d⟩ := w0.ds f x h
      obtain ⟨params, body, scope, N, n, lam, F, S, hN, hc, h1, h2, _⟩ := d.ex
      exact ⟨a, fd, ps, d.nm, d.mg, F.kp, d.bd, ih f x df a fd ps h e d, fun ds g z => by rw [den_len w0.ds e z, h1]⟩
    dr := by
      obtain ⟨a, fd, ps, h1, h2, h3, h4⟩ := w0.dr
      exact ⟨a, fd, ps, h1, h2, h3, (h4 W).cx.mono (by unfold ix; omega)⟩
    bn := w0.bn
    w := hw.w
    kk := hw.k
    cx := rfl
    tk := tk
    xs := fun c x ns h => by rw [hw.xc]; exact w0.xs c x ns h
    lm := fun hl => ⟨hr, by
      obtain ⟨c0, P0, q1, q2, q3, q4⟩ := hlam hl
      rw [hw.tb]
      exact ⟨c0, P0, q1, q2, q3, q4⟩, fun v x t h => by rw [hw.xc]; exact w0.sd v x t h⟩ }
theorem defs_ok (w0 : World0 P w K mg base pn p xc tb) (W : Wd) (hw : WIs W w K xc tb) : ∀ (k f : Nat) (x : Str) df a fd ps, pn.ds.lookup f = some x → p.ds.lookup f = some df → DefOk pn K mg base tb x df a fd ps → FnOkG P w K mg base (L2.CX P w) (ix k) a fd ps (spD K W ps (den p k f))
  | 0, f, x, df, a, fd, ps, _, _, _ => ⟨fun vs H Q E h => h.1, fun A outer s H args us vs Q E _ _ _ _ _ h => by
      obtain ⟨_, ds, g, Hk, _, _, h⟩ := h
      exact h.elim⟩
  | k + 1, f, x, df, a, fd, ps, h, e, d => by
    obtain ⟨params, body, scope, N, n, lam, F, S, hN, hc, h1, h2, hlam⟩ := d.ex
    obtain ⟨oc, od, dV, kV, doc, pm, an, cdv, ct, osl, rfl, lk, hcd, _, _⟩ := F.ex
    refine FnOkG.mono (j := 4 * k + 5 + 1) (fn_ofG lk hcd S (fun vs H Q E h => h.1) fun A outer s H vs Q E hr hg hsp => ?_) (by unfold ix; omega)
    obtain ⟨hl, ds, g, Hk, wk, rp, fin⟩ := hsp
    have ok := ok_body (W := W) (outer := outer) (H := H) (E := E) w0 hw (fun f x df a fd ps h e d => defs_ok w0 W hw k f x df a fd ps h e d) S hN hr hg hlam
    refine ⟨_, (ss_all n).b (Hk0 := Hk) (H0 := H) ok S.kind hc, Hk, startG N.length ds, g, Hk, ⟨wk, Step.refl wk.ex, [], ?_, List.nodup_nil, fun p hp => absurd hp (by simp)⟩, Ex.refl _, ?_⟩
    · unfold startG L2.start
      rw [rp.len]
      exact gm_start rp
    · have ed : den p (k + 1) f ds g = endR (evB p.cs (den p k) df.body (startG N.length ds) g) := by
        unfold den
        rw [e]
        have hpl : ps.length ≤ N.length := by have := congrArg List.length S.pre; rw [List.length_take] at this; omega
        simp only [h1, h2]
        rw [if_pos ⟨by rw [← rp.len]; exact hl, hpl⟩]
      rw [ed] at fin
      cases er : evB p.cs (den p k) df.body (startG N.length ds) g with
      | ok fl g' =>
        rw [er] at fin
        cases fl with
        | nx Γ' => exact fun σ' Hk' H' fr _ => fin Hk' H' fr.en fr.wk.dr .non rfl
        | rt d => exact fun v Hk' H' st dr r => fin Hk' H' st dr v r
      | ex c es g' => rw [er] at fin; exact fin
      | st => rw [er] at fin; exact fin
end
end Bk

set_option Elab.async false
set_option linter.all false
set_option maxRecDepth 100000
set_option maxHeartbeats 4000000
namespace Row
open PySem L2
def top (i : Nat) : Stmt := PySem.Challenge.pw_booklimits_k84_whole_best_plans.main.body.getD i (.Pass ⟨0, 0, 0, 0⟩)
abbrev sMixed : Stmt := top 37
abbrev sFolded : Stmt := top 38
abbrev sDraw : Stmt := top 39
abbrev sBegun : Stmt := top 40
abbrev sLaw : Stmt := top 49
end Row

set_option Elab.async false
set_option linter.all false
set_option maxRecDepth 100000
set_option maxHeartbeats 4000000
/-! The drawing helpers. -/
namespace Bk
open PySem PySem.Spec PyProof.Rows L2 Row
open Evl (Ex ex_l ex_t)
abbrev FnP (K : PySem.W.Frag) (x : Str) (st : Stmt) (f : Addr) (fd : FuncData) : Prop := FunD K x x (defArgs st) (defBody st) (defScope st) [] [] f fd
theorem FunD.okG {P : Program} {w : World} {K : PySem.W.Frag} {mg : Str → Option Value} {base : Heap} {x qual : Str} {params : Arguments} {body : List Stmt} {scope : Scope} {dvs : List V} {kws : List (Str × V)} {f : Addr} {fd : FuncData} {CX : CXT} {N ps : List Str} {k : Nat} {sp : Sp} (F : FunD K x qual params body scope dvs kws f fd) (S : FnScope N ps scope) (len : ∀ vs H Q E, sp vs H Q E → vs.length = ps.length)
    (hbody : ∀ (cdv : Value) (A : Around) (outer : List Env) (s : Shared) (H : Hp) (vs : List V) (Q : VK) (E : XK), Room k (A.deeper (envOfC qual scope s.heap.objs.size f cdv)) → (A.deeper (envOfC qual scope s.heap.objs.size f cdv)).guards = some [] → sp vs H Q E →
      ∃ t, PSs (cxOf CX P w K mg base N qual scope f cdv A outer s H E) body t ∧ t { nx := fun _ H' => Q .non H', rt := Q } (L2.start N vs) H) : FnOkG P w K mg base CX (k + 1) f fd ps sp := by
  obtain ⟨oc, od, dV, kV, doc, pm, an, cdv, ct, osl, rfl, lk, hcd, _, _⟩ := F.ex
  exact fn_ofG lk hcd S len fun A outer s H vs Q E hr hg hsp => hbody cdv A outer s H vs Q E hr hg hsp
def spMixed : Sp := fun vs H Q _ => ∃ c n : Int, vs = [.int c, .int n] ∧ 0 ≤ n ∧ n < 2 ^ 61 ∧ Q (.int (mixed c n)) H
section
variable {P : Program} {w : World} {K : PySem.W.Frag} {mg : Str → Option Value} {base : Heap} {f fM : Addr} {fd fdM : FuncData}
theorem scM : FnScope ["_law_cell", "_law_n", "_law_blend"] ["_law_cell", "_law_n"] (defScope sMixed) := ⟨rfl, rfl, rfl, by decide +kernel, rfl, by decide +kernel, by decide +kernel⟩
theorem ok_mixed (F : FnP K "_law_mixed" sMixed f fd) (gI : mg "int" = none) : FnOkG P w K mg base CX0 1 f fd ["_law_cell", "_law_n"] spMixed := by
  refine FunD.okG F scM (fun vs H Q E h => ?_) (fun cdv A outer s H vs Q E hr hgd h => ?_)
  · obtain ⟨c, n, rfl, _⟩ := h
    rfl
  · obtain ⟨c, n, rfl, h0, h1, q⟩ := h
    refine ⟨_, pss_cons (ps_set (i := 2) scM.nd rfl (Or.inl rfl) (pe_op op_add (pe_op op_add (pe_op op_mod (pe_callTy call_int1 rfl gI boot_int (pa_cons (pe_op op_mul (pe_op op_mul (pv 0) (pe_op op_add pe_int (pe_op op_mul pe_int (pv 1)))) pe_int) pa_nil)) pe_int) (pe_op op_mul (pe_op op_mul pe_int (pv 1)) (pv 1))) (pe_op op_mul pe_int (pv 1))))
      (pss_one (ps_ret (pe_op op_fdiv (pe_op op_mod (pe_callTy call_int1 rfl gI boot_int (pa_cons (pe_op op_mul (pv 2) pe_int) pa_nil)) pe_int) pe_int))), ?_⟩
    have b1 : CMul 2 n := .inl (by decide)
    have b2 : CMul c (1 + 2 * n) := .inr (by omega)
    have b3 : ∀ x, CMul x 48271 := fun x => .inr (by decide)
    have b4 : CMul 7919 n := .inl (by decide)
    have b5 : CMul (7919 * n) n := .inr (by omega)
    have b6 : CMul 104729 n := .inl (by decide)
    have b7 : ∀ x, CMul x 69621 := fun x => .inr (by decide)
    refine ⟨_, rfl, _, rfl, _, _, rfl, rfl, b1, _, _, rfl, rfl, _, _, rfl, rfl, b2, _, _, rfl, rfl, b3 _, .inl ⟨_, rfl, _, _, rfl, rfl, (show (0:Int) < 2147483647 by decide), _, rfl, _, _, rfl, rfl, b4, _, rfl, _, _, rfl, rfl, b5, _, _, rfl, rfl, _, rfl, _, _, rfl, rfl, b6, _, _, rfl, rfl, ?_⟩⟩
    exact ⟨_, rfl, _, _, rfl, rfl, b7 _, .inl ⟨_, rfl, _, _, rfl, rfl, (show (0:Int) < 2147483629 by decide), _, _, rfl, rfl, (by constructor <;> decide), q⟩⟩
theorem bM (F : FnP K "_law_mixed" sMixed f fd) : Binds K fd ["_law_cell", "_law_n"] [] := FunD.bindsN F fun _ _ _ _ _ _ us hl => match us, hl with | [_, _], _ => rfl
theorem ixN_nat {n : Nat} {i : Int} (h0 : 0 ≤ i) (h1 : i < n) : ixN n i = some i.toNat := by
  unfold ixN
  rw [if_pos h0, if_pos h1]
theorem atI_ints {cs : List Int} {i : Int} (h0 : 0 ≤ i) (h1 : i < cs.length) : atI (cs.map V.int) i = some (.int (cs.getD i.toNat 0)) := by
  unfold atI
  rw [List.length_map, ixN_nat h0 h1]
  show (cs.map V.int)[i.toNat]? = _
  have h2 : i.toNat < cs.length := by omega
  rw [List.getElem?_map, List.getD_eq_getElem?_getD, List.getElem?_eq_getElem h2]
  rfl
theorem lim_ok {l : Int} (h0 : 0 < l) (h1 : l < 2 ^ 4000) (x : Int) : CDivW x l := wide_div (b := 4000) h0 (by
  have e : ((l.natAbs : Nat) : Int) = l := Int.natAbs_of_nonneg (by omega)
  have e2 : (((2 ^ 4000 : Nat) : Nat) : Int) = 2 ^ 4000 := by push_cast; rfl
  have : ((l.natAbs : Nat) : Int) < ((2 ^ 4000 : Nat) : Int) := by rw [e, e2]; exact h1
  exact Int.ofNat_lt.mp this) (by decide) (by decide)
theorem map_set_int (ns : List Int) (i : Nat) (x : Int) : (ns.map V.int).set i (.int x) = (ns.set i x).map V.int := by
  rw [List.map_set]
abbrev nD : List Str := ["_law_m", "_law_limit", "_law_n", "_law_lot", "_law_here", "_law_cell"]
theorem scD : FnScope nD ["_law_m", "_law_limit"] (defScope sDraw) := ⟨rfl, rfl, rfl, by decide +kernel, rfl, by decide +kernel, by decide +kernel⟩
theorem dg_spot {W : Wd} {g : G} {H : Hp} (h : H W.am = some (mDict W g)) : DGet H W.am (.str "spot") (some (.int g.spot)) := DGet.k (k := .inr "spot") h
theorem dg_great {W : Wd} {g : G} {H : Hp} (h : H W.am = some (mDict W g)) : DGet H W.am (.str "great") (some (.ref W.ag)) := DGet.k (k := .inr "great") h
theorem dg_cells {W : Wd} {g : G} {H : Hp} (h : H W.am = some (mDict W g)) : DGet H W.am (.str "cells") (some (.ref W.ac)) := DGet.k (k := .inr "cells") h
theorem dp_spot {W : Wd} {g : G} {H : Hp} (s : Int) (h : H W.am = some (mDict W g)) : DPut H W.am (.str "spot") (.int s) (upd H W.am (mDict W { g with spot := s })) := DPut.k (k := .inr "spot") (v := .int s) h (by show 3 < sizeLine; decide)
theorem dps_ints (H : Hp) : ∀ ns : List Int, DpAll K H (ns.map V.int) (ns.map PyData.int)
  | [] => .nil
  | n :: ns => .cons (.int n) (dps_ints H ns)
theorem shp : SeqAt.shaped (.list []) = true := by decide
theorem clI : ∀ ns : List Int, PyData.canLayAll0 (ns.map PyData.int) = true
  | [] => rfl
  | n :: ns => by show (true && PyData.canLayAll0 (ns.map PyData.int)) = true; rw [clI ns]; rfl
theorem dpI : ∀ ns : List Int, PyData.depthAll (ns.map PyData.int) = 0
  | [] => rfl
  | n :: ns => by show max 0 (PyData.depthAll (ns.map PyData.int)) = 0; rw [dpI ns]; rfl
theorem shI (ns : List Int) : SeqAt.shaped (.list (ns.map PyData.int)) = true := by
  show (PyData.canLayAll0 (ns.map PyData.int) && decide (PyData.depthAll (ns.map PyData.int) + 1 ≤ 64)) = true
  rw [clI, dpI]
  rfl
theorem eqvI (ns : List Int) : PyData.eqv (.list (ns.map PyData.int)) (.list []) = decide (ns = []) := by
  cases ns <;> rfl
theorem ok_draw (W : Wd) (F : FnP K "_law_draw" sDraw f fd) (FM : FnP K "_law_mixed" sMixed fM fdM) (gM : mg "_law_mixed" = some (.ref fM)) (gI : mg "int" = none) (gL : mg "len" = none) : FnOkG P w K mg base CX0 2 f fd ["_law_m", "_law_limit"] (spDraw W) := by
  have GM : FnOkG P w K mg base CX0 1 fM fdM ["_law_cell", "_law_n"] spMixed := ok_mixed FM gI
  refine FunD.okG F scD (fun vs H Q E h => ?_) (fun cdv A outer s H vs Q E hr hgd h => ?_)
  · obtain ⟨lim, g, Hk, rfl, _⟩ := h
    rfl
  · obtain ⟨lim, g, Hk, rfl, wk, l0, l1, g0, q⟩ := h
    have hu : (A.deeper (envOfC "_law_draw" (defScope sDraw) s.heap.objs.size f cdv)).units + 1 < cLine := by have := hr.un; omega
    have hu64 : (A.deeper (envOfC "_law_draw" (defScope sDraw) s.heap.objs.size f cdv)).units + 64 < cLine := by have := hr.un; omega
    refine ⟨_, pss_cons (ps_set (i := 2) scD.nd rfl (Or.inl rfl) (pe_dget hu (pv 0) pe_str fun _ _ => rfl))
      (pss_cons (ps_dput hu (pv 0) pe_str (pe_op op_add (pv 2) pe_int) rfl)
      (pss_cons (ps_if (pt_cmpR (op_neD hu64) (pe_dget hu (pv 0) pe_str fun _ _ => rfl) (pe_lst pa_nil) (nomark _))
        (pss_cons (ps_set (i := 3) scD.nd rfl (Or.inl rfl) (pe_dget hu (pv 0) pe_str fun _ _ => rfl))
        (pss_cons (ps_set (i := 4) scD.nd rfl (Or.inl rfl) (pe_op op_mod (pe_callTy call_int1 rfl gI boot_int (pa_cons (pv 2) pa_nil)) (pe_callB call_len rfl gL boot_len (pa_cons (pv 3) pa_nil))))
        (pss_cons (ps_set (i := 5) scD.nd rfl (Or.inl rfl) (pe_ix ix_list (pv 3) (pv 4) fun _ _ => rfl))
        (pss_one (ps_if (pt_cmp (pc_gt (pv 5) pe_int))
          (pss_cons (ps_asg (pe_op op_fdivW (pv 5) (pv 1)) (pg_sub (pv 3) (pv 4) set_list))
          (pss_one (ps_ret (pe_op op_mod (pe_callTy call_int1 rfl gI boot_int (pa_cons (pv 5) pa_nil)) (pv 1)))))
          pss_nil)))))
        pss_nil)
      (pss_cons (ps_set (i := 3) scD.nd rfl (Or.inl rfl) (pe_dget hu (pv 0) pe_str fun _ _ => rfl))
      (pss_one (ps_ret (pe_op op_mod (pe_callTy call_int1 rfl gI boot_int (pa_cons (pe_callG GM hr hgd rfl gM FM.kp (bM FM) .nil pass0 (pa_cons (pe_callG GM hr hgd rfl gM FM.kp (bM FM) .nil pass0 (pa_cons (pe_op op_add (pe_ix ix_list (pv 3) (pe_op op_mod (pe_callTy call_int1 rfl gI boot_int (pa_cons (pv 2) pa_nil)) pe_int) fun _ _ => rfl) (pe_op op_mul pe_int (pe_op op_fdiv (pv 2) pe_int))) (pa_cons (pv 2) pa_nil)) rfl rfl rfl) (pa_cons (pe_op op_add (pv 2) pe_int) pa_nil)) rfl rfl rfl) pa_nil)) (pv 1))))))), ?_⟩
    refine ⟨_, rfl, W.am, _, rfl, dg_spot wk.dr.m, ?_⟩
    refine ⟨_, rfl, _, _, rfl, rfl, _, rfl, W.am, _, rfl, dp_spot (g.spot + 1) wk.dr.m, ?_⟩
    refine ⟨_, rfl, W.am, _, rfl, dg_great (g := { g with spot := g.spot + 1 }) upd_same, Nat.zero_le _, fun p hp => ?_⟩
    have npm : p ≠ W.am := fun e => by rw [e, upd_same] at hp; cases hp
    have hp0 : H p = none := by rw [upd_ne npm] at hp; exact hp
    have o := ex_upd_out wk.dr hp0
    have gc : W.ac ≠ W.am := wk.dr.mc.symm
    have gg : W.ag ≠ W.am := wk.dr.mg.symm
    have d2 : DrawAt W { g with spot := g.spot + 1 } (upd (upd H W.am (mDict W { g with spot := g.spot + 1 })) p (.lst [])) := by
      refine DrawAt.upd ⟨upd_same, ?_, ?_, wk.dr.ne, ⟨wk.dr.ok.len, wk.dr.ok.cel, ?_, wk.dr.ok.gl⟩, tabs_upd wk.dr.tab wk.dr.tne.1 (nc_dK wk.dr.m), tin_upd wk.dr.tin (by intro ps z; cases z)⟩ o (nc_none hp)
      · rw [upd_ne gc]; exact wk.dr.c
      · rw [upd_ne gg]; exact wk.dr.gr
      · have := wk.dr.ok.spot
        show (0 : Int) ≤ g.spot + 1
        omega
    have s2 : Step W Hk H Hk (upd (upd H W.am (mDict W { g with spot := g.spot + 1 })) p (.lst [])) := by
      refine ⟨Ex.refl _, fun b u hb => ?_, fun b u hb ho => ?_, fun b u hb => ?_, fun b u h1 h2 => by rw [h1] at h2; cases h2⟩
      · rw [upd_ne (ne_of_none (wk.ex b u hb) hp0), upd_ne (ne_of_none hb wk.m)]
        exact wk.ex b u hb
      · rw [upd_ne (ne_of_none hb hp0), upd_ne ho.1]
        exact hb
      · by_cases e : b = W.am
        · subst e; exact ⟨_, by rw [upd_ne (Ne.symm npm)]; exact upd_same⟩
        · exact ⟨u, by rw [upd_ne (ne_of_none hb hp0), upd_ne e]; exact hb⟩
    generalize hH2 : upd (upd H W.am (mDict W { g with spot := g.spot + 1 })) p (.lst []) = H2 at d2 s2 ⊢
    have hp2 : H2 p = some (.lst []) := by rw [← hH2]; exact upd_same
    have q2 : ∀ H', Step W Hk H2 Hk H' → DrawAt W (g.draw lim).2 H' → Q (.int (g.draw lim).1) H' := fun H' st d => q H' (s2.trans st) d
    have e2 : Ex Hk H2 := s2.kh
    have k2 : Wk W { g with spot := g.spot + 1 } Hk H2 := wk.step s2 d2
    refine ⟨_, _, .lst (SqL.of d2.gr) (dps_ints H2 g.great), .lst (SqL.of hp2) .nil, shI _, shp, _, rfl, ?_⟩
    rw [eqvI]
    have sp0 := wk.dr.ok.spot
    have c1 : atI (g.cells.map V.int) (g.spot % 64) = some (.int (g.cells.getD (g.spot % 64).toNat 0)) := atI_ints (by omega) (by rw [wk.dr.ok.len]; omega)
    have m1 : CMul 31 (g.spot / 64) := .inl (by decide)
    have z1 : g.spot < 2 ^ 61 := by omega
    have z2 : g.spot + 7 < 2 ^ 61 := by omega
    have z3 : 0 ≤ g.spot + 7 := by omega
    have mr : g.draw lim = (g.mix lim, { g with spot := g.spot + 1 }) → Q (.int (g.mix lim)) H2 := fun e => by
      have := q2 H2 (Step.refl e2) (by rw [e]; exact d2)
      rw [e] at this
      exact this
    by_cases hg : g.great = []
    · have ed : g.draw lim = (g.mix lim, { g with spot := g.spot + 1 }) := by unfold G.draw; rw [if_pos hg]
      rw [decide_eq_true hg]
      refine iteF ?_
      refine ⟨_, rfl, W.am, _, rfl, dg_cells d2.m, ?_⟩
      exact ⟨_, rfl, _, rfl, .inl ⟨_, rfl, _, _, rfl, rfl, (show (0:Int) < 64 by decide), _, _, _, _, rfl, rfl, SqL.of d2.c, c1, _, rfl, _, _, rfl, rfl, (by constructor <;> decide), _, _, rfl, rfl, m1, _, _, rfl, rfl, _, rfl, ⟨_, _, rfl, sp0, z1, _, rfl, _, _, rfl, rfl, ⟨_, _, rfl, z3, z2, .inl ⟨_, rfl, _, rfl, _, _, rfl, rfl, l0, mr ed⟩⟩⟩⟩⟩
    · rw [decide_eq_false hg]
      refine iteT ?_
      have hl : 0 < g.great.length := List.length_pos_iff.mpr hg
      have hl' : (0 : Int) < (((g.great.map V.int).length : Nat) : Int) := by rw [List.length_map]; omega
      have hr0 : 0 ≤ g.spot % (((g.great.map V.int).length : Nat) : Int) := Int.emod_nonneg _ (by omega)
      have hr1 : g.spot % (((g.great.map V.int).length : Nat) : Int) < ((g.great.length : Nat) : Int) := by
        have := Int.emod_lt_of_pos g.spot hl'
        rw [List.length_map] at this
        rw [List.length_map]
        exact this
      have hh : (g.spot % (((g.great.map V.int).length : Nat) : Int)).toNat = g.here := by rw [List.length_map]; rfl
      have c2 := atI_ints hr0 hr1
      rw [hh] at c2
      refine ⟨_, rfl, W.am, _, rfl, dg_great d2.m, ?_⟩
      refine ⟨_, rfl, .inl ⟨_, rfl, _, rfl, _, _, rfl, .inl ⟨_, SqL.of d2.gr, rfl⟩, _, _, rfl, rfl, hl', ?_⟩⟩
      refine ⟨_, rfl, _, rfl, _, _, _, _, rfl, rfl, SqL.of d2.gr, c2, ?_⟩
      refine ⟨_, rfl, _, _, rfl, rfl, decide (0 < g.great.getD g.here 0), rfl, ?_⟩
      by_cases hc : 0 < g.great.getD g.here 0
      · rw [decide_eq_true hc]
        refine iteT ?_
        have ed : g.draw lim = (g.great.getD g.here 0 % lim, { g with spot := g.spot + 1, great := g.great.set g.here (g.great.getD g.here 0 / lim) }) := by unfold G.draw; rw [if_neg hg, if_pos hc]
        refine ⟨_, rfl, _, rfl, _, _, rfl, rfl, lim_ok l0 l1 _, ?_⟩
        refine ⟨_, rfl, _, rfl, _, _, _, _, rfl, rfl, d2.gr, ixN_nat hr0 (by rw [List.length_map] at hr1 ⊢; exact hr1), ?_⟩
        refine ⟨_, rfl, .inl ⟨_, rfl, _, rfl, _, _, rfl, rfl, l0, ?_⟩⟩
        rw [hh, map_set_int]
        have := q2 (upd H2 W.ag (.lst ((g.great.set g.here (g.great.getD g.here 0 / lim)).map V.int))) ?_ ?_
        · rw [ed] at this; exact this
        · refine ⟨Ex.refl _, fun b u hb => ?_, fun b u hb ho => ?_, fun b u hb => ?_, fun b u h1 h2 => by rw [h1] at h2; cases h2⟩
          · rw [upd_ne (ne_of_none hb wk.gr)]; exact e2 b u hb
          · rw [upd_ne ho.2.2.1]; exact hb
          · by_cases e : b = W.ag
            · subst e; exact ⟨_, upd_same⟩
            · exact ⟨u, by rw [upd_ne e]; exact hb⟩
        · rw [ed]
          exact ⟨by rw [upd_ne gg.symm]; exact d2.m, by rw [upd_ne d2.ne]; exact d2.c, upd_same, d2.ne, ⟨d2.ok.len, d2.ok.cel, d2.ok.spot, by show (g.great.set _ _).length ≤ 63; rw [List.length_set]; exact d2.ok.gl⟩, tabs_upd d2.tab d2.tne.2.2 (nc_lst d2.gr), tin_upd d2.tin (by intro ps z; cases z)⟩
      · have ed : g.draw lim = (g.mix lim, { g with spot := g.spot + 1 }) := by unfold G.draw; rw [if_neg hg, if_neg hc]
        rw [decide_eq_false hc]
        refine iteF ?_
        refine ⟨_, rfl, W.am, _, rfl, dg_cells d2.m, ?_⟩
        exact ⟨_, rfl, _, rfl, .inl ⟨_, rfl, _, _, rfl, rfl, (show (0:Int) < 64 by decide), _, _, _, _, rfl, rfl, SqL.of d2.c, c1, _, rfl, _, _, rfl, rfl, (by constructor <;> decide), _, _, rfl, rfl, m1, _, _, rfl, rfl, _, rfl, ⟨_, _, rfl, sp0, z1, _, rfl, _, _, rfl, rfl, ⟨_, _, rfl, z3, z2, .inl ⟨_, rfl, _, rfl, _, _, rfl, rfl, l0, mr ed⟩⟩⟩⟩⟩
end
end Bk

set_option Elab.async false
set_option linter.all false
set_option maxRecDepth 100000
set_option maxHeartbeats 4000000
/-! The beginning: _law_folded, _law_begun. -/
namespace Bk
open PySem PySem.Spec PyProof.Rows L2 Row
open Evl (Ex ex_l ex_t)
def CellsOk (cs : List Int) : Prop := cs.length = 64 ∧ ∀ c ∈ cs, 0 ≤ c ∧ c < 2 ^ 31
theorem CellsOk.set {cs : List Int} (h : CellsOk cs) (i : Nat) {x : Int} (h0 : 0 ≤ x) (h1 : x < 2 ^ 31) : CellsOk (cs.set i x) := by
  refine ⟨by rw [List.length_set]; exact h.1, fun c hc => ?_⟩
  rcases List.mem_or_eq_of_mem_set hc with e | e
  · exact h.2 c e
  · subst e; exact ⟨h0, h1⟩
theorem mod31 (x : Int) : 0 ≤ x % 2147483647 ∧ x % 2147483647 < 2 ^ 31 := by omega
/-- all stays, no further table -/
def ExT (H H' : Hp) : Prop := Ex H H' ∧ ∀ b ps, H' b = some (.tbl ps) → H b = some (.tbl ps)
theorem ExT.refl (H : Hp) : ExT H H := ⟨Ex.refl _, fun _ _ h => h⟩
theorem ExT.trans {H H1 H2 : Hp} (a : ExT H H1) (b : ExT H1 H2) : ExT H H2 := ⟨a.1.trans b.1, fun c ps h => a.2 c ps (b.2 c ps h)⟩
theorem ExT.put {H H' : Hp} {p : Addr} {o : HO} (e : ExT H H') (hp : H p = none) (ho : ∀ ps, o ≠ .tbl ps := by intro _ z; cases z) : ExT H (upd H' p o) := ⟨fun b u hb => by rw [upd_ne (ne_of_none hb hp)]; exact e.1 b u hb, fun b ps h => by
  by_cases hb : b = p
  · subst hb
    rw [upd_same] at h
    exact absurd (Option.some.inj h) (ho ps)
  · rw [upd_ne hb] at h
    exact e.2 b ps h⟩
theorem ExT.new {H : Hp} {p : Addr} {o : HO} (hp : H p = none) (ho : ∀ ps, o ≠ .tbl ps := by intro _ z; cases z) : ExT H (upd H p o) := (ExT.refl H).put hp ho
/-- the drawing state, without the tables -/
structure Draw0 (W : Wd) (g : G) (H : Hp) : Prop where
  m : H W.am = some (mDict W g)
  c : H W.ac = some (.lst (g.cells.map V.int))
  gr : H W.ag = some (.lst (g.great.map V.int))
  ne : W.ac ≠ W.ag
  ok : GOk g
def spFolded (K : PySem.W.Frag) : Sp := fun vs H Q _ => ∃ (a : Addr) (ns : List Int), vs = [.ref a] ∧ SqL K H a (ns.map V.int) ∧ ns.length ≤ 63 ∧
  ∀ (H' : Hp) (p : Addr) (cs : List Int), ExT H H' → H p = none → H' p = some (.lst (cs.map V.int)) → CellsOk cs → Q (.ref p) H'
theorem none_upd {H : Hp} {a b : Addr} {o : HO} (h : upd H a o b = none) : H b = none := by
  by_cases e : b = a
  · subst e; rw [upd_same] at h; cases h
  · rw [upd_ne e] at h; exact h
theorem four {σ : L2.St} {u v : V} (s0 : σ[0]? = some (some u)) (s1 : σ[1]? = some (some v)) (sl : σ.length = 4) : ∃ o2 o3, σ = [some u, some v, o2, o3] := by
  match σ, sl with
  | [a, b, c, d], _ =>
    simp at s0 s1
    subst s0 s1
    exact ⟨c, d, rfl⟩
theorem sqL_ex {K : PySem.W.Frag} {H H' : Hp} {a : Addr} {xs : List V} (e : ExT H H') (h : SqL K H a xs) : SqL K H' a xs := ex_l e.1 h
section
variable {P : Program} {w : World} {K : PySem.W.Frag} {mg : Str → Option Value} {base : Heap} {f fF : Addr} {fd fdF : FuncData}
abbrev nF : List Str := ["_law_script", "_law_found", "_law_n", "_law_cell"]
theorem scF : FnScope nF ["_law_script"] (defScope sFolded) := ⟨rfl, rfl, rfl, by decide +kernel, rfl, by decide +kernel, by decide +kernel⟩
/-- the list at p, all else of H as it was -/
def FInv (H : Hp) (a p : Addr) (σ : L2.St) (H' : Hp) : Prop := σ[0]? = some (some (.ref a)) ∧ σ[1]? = some (some (.ref p)) ∧ σ.length = 4 ∧ H p = none ∧ ExT H H' ∧ ∃ cs, H' p = some (.lst (cs.map V.int)) ∧ CellsOk cs
theorem FInv.put {H H' : Hp} {a p : Addr} {σ : L2.St} {cs : List Int} (h0 : σ[0]? = some (some (.ref a))) (h1 : σ[1]? = some (some (.ref p))) (hl : σ.length = 4) (hp : H p = none) (e : ExT H H') (hc : CellsOk cs) : FInv H a p σ (upd H' p (.lst (cs.map V.int))) :=
  ⟨h0, h1, hl, hp, e.put hp, cs, upd_same, hc⟩
theorem ok_folded (F : FnP K "_law_folded" sFolded f fd) (gI : mg "int" = none) (gR : mg "range" = none) (gE : mg "enumerate" = none) : FnOkG P w K mg base CX0 1 f fd ["_law_script"] (spFolded K) := by
  refine FunD.okG F scF (fun vs H Q E h => ?_) (fun cdv A outer s H vs Q E hr hgd h => ?_)
  · obtain ⟨a, ns, rfl, _⟩ := h
    rfl
  · obtain ⟨a, ns, rfl, hS, hl, q⟩ := h
    have bo : BlkOk nF (defScope sFolded) ⟨.function, [(Str.ofString ".0", .local), (Str.ofString "_law_n", .local)], false, false, []⟩ [("_law_n", 2)] := blkOk_by (by decide +kernel)
    refine ⟨_, pss_cons (ps_setLc (i := 1) (own := [("_law_n", 2)]) rfl scF.nd rfl rfl (sw_true rfl rfl rfl (by decide +kernel)) (pi_range1 rfl gR (pa_cons pe_int pa_nil)) bo (fun _ _ _ _ _ => pg_name (i := 2) scF.nd rfl (Or.inl rfl) (Or.inr rfl)) (fun _ _ _ _ _ => pts_nil) (fun _ _ _ _ _ => pe_op op_add pe_int (pv 2)))
      (pss_cons (ps_for (passes_of rfl) rfl (pi_enum rfl gE (pa_cons (pv 0) pa_nil)) (pg_tup rfl (pgs_cons (pg_name (i := 2) scF.nd rfl (Or.inl rfl) (Or.inr rfl)) (pgs_cons (pg_name (i := 3) scF.nd rfl (Or.inl rfl) (Or.inr rfl)) pgs_nil)))
          (pss_one (ps_asg (pe_op op_mod (pe_callTy call_int1 rfl gI boot_int (pa_cons (pe_op op_add (pe_op op_mul (pe_ix ix_list (pv 1) (pe_op op_mod (pe_callTy call_int1 rfl gI boot_int (pa_cons (pv 2) pa_nil)) pe_int) fun _ _ => rfl) pe_int) (pv 3)) pa_nil)) pe_int)
            (pg_sub (pv 1) (pe_op op_mod (pe_callTy call_int1 rfl gI boot_int (pa_cons (pv 2) pa_nil)) pe_int) set_list))))
      (pss_cons (ps_for (passes_of rfl) rfl (pi_range2 rfl gR (pa_cons pe_int (pa_cons pe_int pa_nil))) (pg_name (i := 2) scF.nd rfl (Or.inl rfl) (Or.inr rfl))
          (pss_one (ps_asg (pe_op op_mod (pe_callTy call_int1 rfl gI boot_int (pa_cons (pe_op op_add (pe_ix ix_list (pv 1) (pv 2) fun _ _ => rfl) (pe_op op_mul (pe_ix ix_list (pv 1) (pe_op op_sub (pv 2) pe_int) fun _ _ => rfl) pe_int)) pa_nil)) pe_int)
            (pg_sub (pv 1) (pv 2) set_list))))
      (pss_one (ps_ret (pv 1))))), ?_⟩
    refine ⟨64, rfl, by decide, by decide, fun p hp => lc_range (fun i H' => ∃ cs : List Int, H' = upd H p (.lst (cs.map V.int)) ∧ cs.length = i ∧ ∀ c ∈ cs, 0 ≤ c ∧ c < 2 ^ 31) ⟨[], rfl, rfl, by simp⟩ (fun i H' hi ⟨cs, e, h1, h2⟩ => ?_) fun H' ⟨cs, e, h1, h2⟩ => ?_⟩
    · refine ⟨rfl, ?_⟩
      unfold tYes
      simp only [if_true]
      refine ⟨_, rfl, _, _, rfl, rfl, cs.map V.int, by rw [e]; exact upd_same, size_lt (by rw [List.length_map, h1]; omega), cs ++ [17 + (0 + (i : Int))], ?_, by simp [h1], fun c hc => ?_⟩
      · rw [e, upd_upd]
        congr 2
        rw [List.map_append]
        rfl
      · rcases List.mem_append.mp hc with z | z
        · exact h2 c z
        · have := List.mem_singleton.mp z
          omega
    · subst e
      refine ⟨_, rfl, a, ns.map V.int, rfl, ?_, for_it walk_enum (fun _ => FInv H a p) (FInv.put rfl rfl rfl hp (ExT.refl _) ⟨h1, h2⟩) (fun i σ H2 _ iv => sqL_ex iv.2.2.2.2.1 hS) (fun i x σ H2 H3 hi iv y => ?_) fun σ H2 iv => ?_⟩
      · exact sqL_ex (ExT.new hp) hS
      · obtain ⟨T, x1, x2, rfl, hT, rfl, e1, e2⟩ := y
        obtain ⟨s0, s1, sl, hp, ex, cs2, hc, ok⟩ := iv
        have nTp : p ≠ T := ne_of_none hc hT
        have hc3 : upd H2 T (.tup [x1, x2]) p = some (.lst (cs2.map V.int)) := by rw [upd_ne nTp]; exact hc
        have ex3 : ExT H (upd H2 T (.tup [x1, x2])) := ex.trans (ExT.new hT)
        cases e1
        have e2 : (ns.map V.int)[i]? = some x2 := e2
        rw [List.getElem?_map] at e2
        obtain ⟨n, _, rfl⟩ := Option.map_eq_some_iff.mp e2
        obtain ⟨o2, o3, rfl⟩ := four s0 s1 sl
        have hT3 : SqT K (upd H2 T (.tup [V.int (i : Nat), V.int n])) T [V.int (i : Nat), V.int n] := SqT.of upd_same
        generalize upd H2 T (.tup [V.int (i : Nat), V.int n]) = H3 at hc3 ex3 hT3 ⊢
        have r0 : 0 ≤ ((i : Nat) : Int) % 64 := by omega
        have r1 : ((i : Nat) : Int) % 64 < cs2.length := by rw [ok.1]; omega
        refine ⟨T, _, rfl, hT3, rfl, _, _, rfl, _, _, rfl, rfl, ?_⟩
        refine ⟨_, rfl, _, rfl, .inl ⟨_, rfl, _, _, rfl, rfl, (show (0:Int) < 64 by decide), _, _, _, _, rfl, rfl, SqL.of hc3, atI_ints r0 r1, _, _, rfl, rfl, .inr (by decide), _, rfl, _, _, rfl, rfl, .inl ⟨_, rfl, _, _, rfl, rfl, (show (0:Int) < 2147483647 by decide), ?_⟩⟩⟩
        refine ⟨_, rfl, _, rfl, .inl ⟨_, rfl, _, _, rfl, rfl, (show (0:Int) < 64 by decide), _, _, _, _, rfl, rfl, hc3, ixN_nat r0 (by rw [List.length_map]; exact r1), ?_⟩⟩
        rw [map_set_int]
        exact FInv.put rfl rfl rfl hp ex3 (ok.set _ (mod31 _).1 (mod31 _).2)
      · refine ⟨_, _, rfl, by decide, for_it walk_range (fun _ => FInv H a p) iv (fun _ _ _ _ _ => trivial) (fun i x σ H2 H3 hi iv y => ?_) fun σ H2 iv => ?_⟩
        · obtain ⟨rfl, rfl⟩ := y
          obtain ⟨s0, s1, sl, hp, ex, cs2, hc, ok⟩ := iv
          obtain ⟨o2, o3, rfl⟩ := four s0 s1 sl
          have hi : i < 63 := hi
          have r0 : 0 ≤ 1 + ((i : Nat) : Int) := by omega
          have r1 : 1 + ((i : Nat) : Int) < cs2.length := by rw [ok.1]; omega
          have t0 : 0 ≤ 1 + ((i : Nat) : Int) - 1 := by omega
          have t1 : 1 + ((i : Nat) : Int) - 1 < cs2.length := by rw [ok.1]; omega
          refine ⟨_, rfl, _, rfl, _, _, _, _, rfl, rfl, SqL.of hc, atI_ints r0 r1, _, rfl, _, rfl, _, _, rfl, rfl, _, _, _, _, rfl, rfl, SqL.of hc, atI_ints t0 t1, _, _, rfl, rfl, .inr (by decide), _, _, rfl, rfl, .inl ⟨_, rfl, _, _, rfl, rfl, (show (0:Int) < 2147483647 by decide), ?_⟩⟩
          refine ⟨_, rfl, _, rfl, _, _, _, _, rfl, rfl, hc, ixN_nat r0 (by rw [List.length_map]; exact r1), ?_⟩
          rw [map_set_int]
          exact FInv.put rfl rfl rfl hp ex (ok.set _ (mod31 _).1 (mod31 _).2)
        · obtain ⟨s0, s1, sl, hp, ex, cs2, hc, ok⟩ := iv
          exact ⟨_, s1, q H2 p cs2 ex hp hc ok⟩
theorem bF (F : FnP K "_law_folded" sFolded f fd) : Binds K fd ["_law_script"] [] := FunD.bindsN F fun _ _ _ _ _ _ us hl => match us, hl with | [_], _ => rfl
def spBegun (K : PySem.W.Frag) : Sp := fun vs H Q _ => ∃ (a : Addr) (ns : List Int), vs = [.ref a] ∧ SqL K H a (ns.map V.int) ∧ ns.length ≤ 63 ∧
  ∀ (H' : Hp) (W : Wd) (g : G), ExT H H' → H W.am = none → H W.ac = none → H W.ag = none → Draw0 W g H' → g.spot = 0 → Q (.ref W.am) H'
abbrev nB : List Str := ["_law_script", "_law_m", "_law_cell"]
theorem scB : FnScope nB ["_law_script"] (defScope sBegun) := ⟨rfl, rfl, rfl, by decide +kernel, rfl, by decide +kernel, by decide +kernel⟩
theorem ok_begun (F : FnP K "_law_begun" sBegun f fd) (FF : FnP K "_law_folded" sFolded fF fdF) (gF : mg "_law_folded" = some (.ref fF)) (gI : mg "int" = none) (gR : mg "range" = none) (gE : mg "enumerate" = none) : FnOkG P w K mg base CX0 2 f fd ["_law_script"] (spBegun K) := by
  have GF : FnOkG P w K mg base CX0 1 fF fdF ["_law_script"] (spFolded K) := ok_folded FF gI gR gE
  refine FunD.okG F scB (fun vs H Q E h => ?_) (fun cdv A outer s H vs Q E hr hgd h => ?_)
  · obtain ⟨a, ns, rfl, _⟩ := h
    rfl
  · obtain ⟨a, ns, rfl, hS, hl, q⟩ := h
    have hu : (A.deeper (envOfC "_law_begun" (defScope sBegun) s.heap.objs.size f cdv)).units + 1 < cLine := by have := hr.un; omega
    have bo : BlkOk nB (defScope sBegun) ⟨.function, [(Str.ofString ".0", .local), (Str.ofString "_law_cell", .local)], false, false, []⟩ [("_law_cell", 2)] := blkOk_by (by decide +kernel)
    refine ⟨_, pss_cons (ps_set (i := 1) scB.nd rfl (Or.inl rfl) (pe_disp (pps_cons pe_str (pe_callG GF hr hgd rfl gF FF.kp (bF FF) .nil pass0 (pa_cons (pv 0) pa_nil) rfl rfl rfl) (pps_cons pe_str (pe_lst pa_nil) (pps_cons pe_str pe_int pps_nil))) rfl rfl (by simp) (by decide)))
      (pss_cons (ps_dput hu (pv 1) pe_str (pe_lc (own := [("_law_cell", 2)]) rfl scB.nd (pi_list (pv 0)) bo (fun _ _ _ _ _ => pg_name (i := 2) scB.nd rfl (Or.inl rfl) (Or.inr rfl)) (fun _ _ _ _ _ => pts_nil) (fun _ _ _ _ _ => pe_ifExp (pt_cmp (pc_ge (pv 2) (pe_op op_pow pe_int pe_int))) (pv 2) pe_int)) rfl)
      (pss_one (ps_ret (pv 1)))), ?_⟩
    intro m hm
    refine ⟨_, rfl, a, ns, rfl, sqL_ex (ExT.new hm) hS, hl, fun H2 c cs ex hc h2 ok => ?_⟩
    have m2 : H2 m = some (.dK []) := ex.1 m _ upd_same
    have ex0 : ExT H H2 := (ExT.new hm).trans ex
    refine ⟨Nat.zero_le _, fun gr hgr => ⟨?_, [(.inr "cells", .ref c), (.inr "great", .ref gr), (.inr "spot", .int 0)], rfl, (show 3 ≤ 15 by decide), ?_⟩⟩
    · rw [upd_ne (ne_of_none m2 hgr)]; exact m2
    have nmg : m ≠ gr := ne_of_none m2 hgr
    have ncg : c ≠ gr := ne_of_none h2 hgr
    have hc0 : H c = none := none_upd hc
    have nmc : m ≠ c := fun e => by rw [← e, upd_same] at hc; cases hc
    have hg0 : H gr = none := by
      cases z : H gr with
      | none => rfl
      | some o => rw [ex0.1 gr o z] at hgr; cases hgr
    have exm : ExT H (upd (upd H2 gr (.lst [])) m (.dK [(.inr "cells", .ref c), (.inr "great", .ref gr), (.inr "spot", .int 0)])) := (ex0.put hg0).put hm
    refine ⟨_, rfl, a, rfl, ⟨ns.map V.int, sqL_ex exm hS⟩, fun D hD => ?_⟩
    have hD : upd (upd H2 gr (.lst [])) m (.dK [(.inr "cells", .ref c), (.inr "great", .ref gr), (.inr "spot", .int 0)]) D = none := hD
    generalize hH4 : upd (upd H2 gr (.lst [])) m (.dK [(.inr "cells", .ref c), (.inr "great", .ref gr), (.inr "spot", .int 0)]) = H4 at exm hD
    have c4 : H4 c = some (.lst (cs.map V.int)) := by rw [← hH4, upd_ne (Ne.symm nmc), upd_ne ncg]; exact h2
    have m4 : H4 m = some (.dK [(.inr "cells", .ref c), (.inr "great", .ref gr), (.inr "spot", .int 0)]) := by rw [← hH4]; exact upd_same
    have hD0 : H D = none := by
      cases z : H D with
      | none => rfl
      | some o => rw [exm.1 D o z] at hD; cases hD
    have nmD : m ≠ D := ne_of_none m4 hD
    have ncD : c ≠ D := ne_of_none c4 hD
    have hu4 : upd (upd H2 gr (.lst [])) m (.dK (mergeK [] [(.inr "cells", .ref c), (.inr "great", .ref gr), (.inr "spot", .int 0)])) = H4 := hH4
    rw [hu4]
    refine lc_list (xs := ns.map V.int) (fun i H' => ∃ xs : List Int, H' = upd H4 D (.lst (xs.map V.int)) ∧ xs.length = i) ⟨[], rfl, rfl⟩ (fun i H' _ ⟨xs, e, _⟩ => by rw [e]; exact sqL_ex (exm.trans (ExT.new hD)) hS) (fun i x H' hx ⟨xs, e, h1⟩ => ?_) fun H' ⟨xs, e, h1⟩ => ?_
    · rw [List.getElem?_map] at hx
      obtain ⟨n, hn, rfl⟩ := Option.map_eq_some_iff.mp hx
      have hi : i < ns.length := (List.getElem?_eq_some_iff.mp hn).1
      refine ⟨rfl, ?_⟩
      unfold tYes
      simp only [if_true]
      have last : ∀ y : Int, ∃ acc, H' D = some (.lst acc) ∧ acc.length < sizeLine ∧ ∃ ys : List Int, upd H' D (.lst (acc ++ [V.int y])) = upd H4 D (.lst (ys.map V.int)) ∧ ys.length = i + 1 := fun y => ⟨xs.map V.int, by rw [e]; exact upd_same, size_lt (by rw [List.length_map, h1]; omega), xs ++ [y], by rw [e, upd_upd, List.map_append]; rfl, by simp [h1]⟩
      refine ⟨_, rfl, _, _, rfl, rfl, by unfold CPow; decide, _, _, rfl, rfl, decide ((10 : Int) ^ (18 : Int).toNat ≤ n), rfl, ?_⟩
      by_cases hq : (10 : Int) ^ (18 : Int).toNat ≤ n
      · rw [decide_eq_true hq]
        refine iteT ?_
        exact ⟨_, rfl, last n⟩
      · rw [decide_eq_false hq]
        refine iteF ?_
        exact last 0
    · subst e
      have exD : ExT H (upd H4 D (.lst (xs.map V.int))) := exm.trans (ExT.new hD)
      refine ⟨_, rfl, m, _, rfl, DPut.k (k := .inr "great") (by rw [upd_ne nmD]; exact m4) (by show 3 < sizeLine; decide), ?_⟩
      refine ⟨_, rfl, ?_⟩
      refine q _ ⟨m, c, D, w, K, [], []⟩ ⟨cs, xs, 0⟩ (exD.put hm) hm hc0 hD0 ⟨upd_same, ?_, ?_, ncD, ok.1, ok.2, Int.le_refl _, ?_⟩ rfl
      · rw [upd_ne (Ne.symm nmc), upd_ne ncD]; exact c4
      · rw [upd_ne (Ne.symm nmD)]; exact upd_same
      · rw [List.length_map] at h1
        show xs.length ≤ 63
        omega
end
end Bk

set_option Elab.async false
set_option linter.all false
set_option maxRecDepth 100000
set_option maxHeartbeats 4000000
/-! The law's def, and its call behind the top (as the library's law_call, for promises that know the guards). -/
namespace Bk
open PySem PySem.Spec PyProof.Rows L2 Row
open Evl (Ex ex_l ex_t)
/-- nothing but the script and the tables of code objects -/
structure Begin (K : PySem.W.Frag) (a : Addr) (ns : List Int) (ts : List Addr) (H : Hp) : Prop where
  tab : ∀ b ∈ ts, H b = some (.tbl #[])
  only : ∀ b u, H b = some u → (b ∈ ts ∧ u = .tbl #[]) ∨ (b = a ∧ K.lookup a = none ∧ ∃ o, u = .frz o (.lst (ns.map V.int)))
  scr : SqL K H a (ns.map V.int)
theorem begin_of {P : Program} {w : World} {K : PySem.W.Frag} {a : Addr} {ts : List Addr} {h : Heap} {vs : List Value} {ns : List Int} (KX : K.In h) (hT : ∀ b ∈ ts, h.get? b = some { cls := .none, data := .fields #[] })
    (ha : h.get? a = some { cls := .type "list", data := .seq vs.toArray }) (hi : IntsAre vs ns) (hl : ns.length ≤ sizeLine) : ∃ H, Begin K a ns ts H ∧ HOk P w H h := by
  have rv := vals_ints hi
  have aT : a ∉ ts := fun z => by
    have q := hT a z
    rw [ha] at q
    have := congrArg Obj.data (Option.some.inj q)
    cases this
  cases hk : K.lookup a with
  | some o =>
    have e := KX a o hk
    rw [ha] at e
    cases e
    refine ⟨fun b => if b ∈ ts then some (.tbl #[]) else none, ⟨fun b hb => if_pos hb, fun b u e => ?_, .inr ⟨_, vs.toArray, _, hk, rfl, rfl, rfl, by rw [List.size_toArray, hi.length]; exact hl, by simpa using rv⟩⟩, fun b u e => ?_⟩
    · by_cases hb : b ∈ ts
      · have e : (if b ∈ ts then some (HO.tbl #[]) else none) = some u := e
        rw [if_pos hb] at e
        exact .inl ⟨hb, (Option.some.inj e).symm⟩
      · have e : (if b ∈ ts then some (HO.tbl #[]) else none) = some u := e
        rw [if_neg hb] at e
        cases e
    · have e : (if b ∈ ts then some (HO.tbl #[]) else none) = some u := e
      by_cases hb : b ∈ ts
      · rw [if_pos hb] at e
        cases e
        exact hT b hb
      · rw [if_neg hb] at e
        cases e
  | none =>
    refine ⟨fun b => if b ∈ ts then some (.tbl #[]) else if b = a then some (.frz { cls := .type "list", data := .seq vs.toArray } (.lst (ns.map V.int))) else none, ⟨fun b hb => if_pos hb, fun b u e => ?_, .inl (.inr ⟨_, (if_neg aT).trans (if_pos rfl)⟩)⟩, fun b u e => ?_⟩
    · have e : (if b ∈ ts then some (HO.tbl #[]) else if b = a then some (HO.frz { cls := .type "list", data := .seq vs.toArray } (.lst (ns.map V.int))) else none) = some u := e
      by_cases hb : b ∈ ts
      · rw [if_pos hb] at e
        exact .inl ⟨hb, (Option.some.inj e).symm⟩
      · rw [if_neg hb] at e
        by_cases hba : b = a
        · rw [if_pos hba] at e
          exact .inr ⟨hba, hk, _, (Option.some.inj e).symm⟩
        · rw [if_neg hba] at e
          cases e
    · have e : (if b ∈ ts then some (HO.tbl #[]) else if b = a then some (HO.frz { cls := .type "list", data := .seq vs.toArray } (.lst (ns.map V.int))) else none) = some u := e
      by_cases hb : b ∈ ts
      · rw [if_pos hb] at e
        cases e
        exact hT b hb
      · rw [if_neg hb] at e
        by_cases hba : b = a
        · rw [if_pos hba] at e
          cases e
          rw [hba]
          exact ⟨ha, by rw [List.length_map]; exact hl, vs, _, rv, ha⟩
        · rw [if_neg hba] at e
          cases e
theorem law_callT {P : Program} {w : World} {K : PySem.W.Frag} {mg mb : Str → Option Value} {CX : CXT} {k : Nat} {fa a : Addr} {cs : List (Addr × Addr)} {fd : FuncData} {x : Str} {sp : Sp} {s1 : Shared} {vs : List Value} {ns : List Int}
    (KX : K.In s1.heap) (hns : s1.heap.Ns mainGlobals mg) (hb : s1.heap.Ns builtinsNs mb) (hbb : ∀ x : Str, x ≠ "__name__" → mb x = bootBuiltins x) (hlim : s1.heap.NoLimit) (hg : s1.gens = #[])
    (hT : ∀ p ∈ cs, s1.heap.get? p.2 = some { cls := .none, data := .fields #[] }) (nT : ∀ p ∈ cs, K.lookup p.2 = none) (C : ∀ p ∈ cs, PySem.W.CodeHd s1.heap p.1 p.2)
    (hbm : ∃ (bm : Addr) (ob : Obj), mg "__builtins__" = some (.ref bm) ∧ bm ≠ builtinsNs ∧ s1.heap.get? bm = some ob ∧ ob.cls = .type "module" ∧ ob.dict = some builtinsNs ∧ ob.data = .plain)
    (ha : s1.heap.get? a = some { cls := .type "list", data := .seq vs.toArray }) (hi : IntsAre vs ns) (hl : ns.length ≤ sizeLine) (hr : Room k callerA)
    (F : ∀ base : Heap, K.In base → base.Ns mainGlobals mg → (∀ p ∈ cs, LamX.TabB base mg p.1 p.2) → FnOkG P w K mg base CX k fa fd [x] sp) (hbind : ∀ (s : Shared) (u : Value), BindsTo s fd ⟨[u], []⟩ [(x, u)])
    (hsp : ∀ H : Hp, Begin K a ns (cs.map (·.2)) H → sp [.ref a] H (fun v _ => v = .bl true) fun _ _ _ => False)
    (hCX : ∀ H e s', CX [] H s1 (fun _ _ _ => False) e s' → False) :
    codeAny (model P w) callerA (.call (.ref fa) ⟨[.ref a], []⟩) (fun r s' => r = .ok (.ret (.bool true)) ∧ OldK s1.heap s'.heap ∧ s'.os = s1.os ∧ AllBare s'.gens) s1 := by
  have isT : ∀ b ∈ cs.map (·.2), s1.heap.get? b = some { cls := .none, data := .fields #[] } := fun b hb => by
    obtain ⟨p, hp, rfl⟩ := List.mem_map.mp hb
    exact hT p hp
  obtain ⟨H, B, hok⟩ := begin_of (P := P) (w := w) KX isT ha hi hl
  -- what is no list and no empty record is not tracked
  have free : ∀ {b : Addr} {o : Obj}, s1.heap.get? b = some o → (∀ vs n, o.data ≠ .seq vs n) → o.data ≠ .fields #[] → H b = none := by
    intro b o e n1 n2
    cases q : H b with
    | none => rfl
    | some u =>
      rcases B.only b u q with ⟨z, _⟩ | ⟨z, _, _⟩
      · rw [isT b z] at e
        cases e
        exact absurd rfl n2
      · rw [z, ha] at e
        cases e
        exact absurd rfl (n1 _ _)
  have dict : ∀ {b : Addr} {o : Obj} {es : Array DictEntry} {ep : Nat}, s1.heap.get? b = some o → o.data = .dict es ep → H b = none := by
    intro b o es ep e d
    exact free e (fun vs n z => by rw [d] at z; cases z) (fun z => by rw [d] at z; cases z)
  have toB : ∀ {b : Addr} {m : Str → Option Value}, s1.heap.Ns b m → (hidT s1.heap H).Ns b m := by
    rintro b m ⟨o, es, ep, e, d, r⟩
    exact ⟨o, es, ep, hidT_get e (dict e d), d, r⟩
  have KB : K.In (hidT s1.heap H) := fun b o e => hidT_get (KX b o e) (by
    cases q : H b with
    | none => rfl
    | some u =>
      rcases B.only b u q with ⟨z, _⟩ | ⟨z, zk, _⟩
      · obtain ⟨p, hp, rfl⟩ := List.mem_map.mp z
        rw [nT p hp] at e
        cases e
      · rw [z, zk] at e
        cases e)
  have M : Mod K mg (hidT s1.heap H) := ⟨KB, toB hns, ⟨mb, toB hb, hbb⟩, let ⟨mc, q1, q2⟩ := hlim; ⟨mc, toB q1, q2⟩⟩
  have TB : ∀ p ∈ cs, LamX.TabB (hidT s1.heap H) mg p.1 p.2 := by
    intro p hp
    have hTp := hT p hp
    refine ⟨?_, ?_, fun z => ?_⟩
    · obtain ⟨o, us, file, tf, flags, tg, inF, text, tt, e1, r1, r2, r3, r4, r5, r6, r7, r8, hne⟩ := C p hp
      exact ⟨o, us, file, tf, flags, tg, inF, text, tt, hidT_get e1 (free e1 (fun vs n z => by rw [r2] at z; cases z) (fun z => by rw [r2] at z; cases z; simp at r3)), r1, r2, r3, r4, r5, r6, r7, r8, hne⟩
    · obtain ⟨bm, ob, b1, b2, b3, b4, b5, b6⟩ := hbm
      refine ⟨bm, ob, b1, b2, fun q => ?_, fun q => ?_, hidT_get b3 (free b3 (fun vs n z => by rw [b6] at z; cases z) (fun z => by rw [b6] at z; cases z)), b4, b5, b6⟩
      · obtain ⟨o, es, ep, e, hd, _⟩ := hns
        rw [q, e] at b3
        cases b3
        rw [hd] at b6
        cases b6
      · rw [q, hTp] at b3
        cases b3
        cases b6
    · obtain ⟨o, es, ep, e, hd, _⟩ := hns
      rw [z, hTp] at e
      cases e
      cases hd
  have e0 : Env0 P w K mg (hidT s1.heap H) callerA [] s1 H := ⟨rfl, M, fun b o e => of_hidT e, Nat.le_of_eq (hidT_size _ _), trivial, fun b hb => absurd (show b ∈ ([] : List Addr) from hb) (by simp), hok, .of_eq hg⟩
  refine codeAny_mono ((F _ KB (toB hns) TB).run callerA [] s1 H ⟨[.ref a], []⟩ [.ref a] [.ref a] _ _ hr rfl e0 (hbind s1 (.ref a)) (.cons rfl .nil) (hsp H B)) fun r s' h => ?_
  rcases r with e | (_ | _ | _ | u)
  · exact (hCX H e s' h).elim
  · exact False.elim h
  · exact False.elim h
  · exact False.elim h
  obtain ⟨v, H', os, bare, un, hok', r', q⟩ := h
  have q' : v = .bl true := q
  subst q'
  obtain rfl : u = Value.bool true := r'
  have keep : ∀ b o, b ∉ cs.map (·.2) → s1.heap.get? b = some o → s'.heap.get? b = some o := by
    intro b o nb e
    cases q : H b with
    | none => exact un.keep b o e q (by intro z; exact absurd (show b ∈ ([] : List Addr) from z) (by simp)) (by simp)
    | some u =>
      rcases B.only b u q with ⟨z, _⟩ | ⟨_, _, ob, rfl⟩
      · exact absurd z nb
      · obtain ⟨e1, _⟩ := hok b _ q
        obtain ⟨e2, _⟩ := hok' b _ (un.frzs b ob _ q)
        rw [e] at e1
        cases e1
        exact e2
  have more : ∀ p ∈ cs, ∃ m : Array Value, s'.heap.get? p.2 = some { cls := .none, data := .fields m } := by
    intro p hp
    obtain ⟨m, z⟩ := un.tbls p.2 #[] (B.tab _ (List.mem_map.mpr ⟨p, hp, rfl⟩))
    exact ⟨_, hok' p.2 _ z⟩
  refine ⟨rfl, ⟨fun b o e => ?_, fun b o e => ?_⟩, os, bare⟩
  · by_cases hb : b ∈ cs.map (·.2)
    · obtain ⟨p, hp, rfl⟩ := List.mem_map.mp hb
      obtain ⟨m, hm⟩ := more p hp
      rw [hT p hp] at e
      cases e
      exact .inr (.inl ⟨((C p hp).tab (hT p hp)).isCodeTable, rfl, #[], m, rfl, by rw [Array.empty_append]; exact hm⟩)
    · exact .inl (keep b o hb e)
  · by_cases hb : b ∈ cs.map (·.2)
    · obtain ⟨p, hp, rfl⟩ := List.mem_map.mp hb
      obtain ⟨m, hm⟩ := more p hp
      exact ⟨_, hm⟩
    · exact ⟨o, keep b o hb e⟩
theorem walk_T {l : PySem.W.OpenLaw} {n k : Nat} {q : Program} {loose : List Str} {XP : (Str → Option Value) → Heap → Prop} {YP : World → Heap → Prop} {d : DefRec} {CX : World → CXT} {x : Str}
    (hn : l.most = some n) (hn2 : n ≤ sizeLine) (hdf : d.params.defaults = []) (hr : Room k callerA)
    (F : ∀ (w : World) (mg : Str → Option Value) (fa : Addr) (h : Heap), YP w h → h.Ns mainGlobals mg → mg d.name = some (.ref fa) →
      ∃ (K : PySem.W.Frag) (fd : FuncData) (sp : Sp) (cs : List (Addr × Addr)), K.In h ∧ (∀ p ∈ cs, h.get? p.2 = some { cls := .none, data := .fields #[] }) ∧ (∀ p ∈ cs, K.lookup p.2 = none) ∧ (∀ p ∈ cs, PySem.W.CodeHd h p.1 p.2) ∧ (∀ (s : Shared) (u : Value), BindsTo s fd ⟨[u], []⟩ [(x, u)]) ∧
        (∀ (H : Hp) (a : Addr) (ns : List Int), ns.length ≤ n → Begin K a ns (cs.map (·.2)) H → sp [.ref a] H (fun v _ => v = .bl true) fun _ _ _ => False) ∧
        ∀ base : Heap, K.In base → base.Ns mainGlobals mg → (∀ p ∈ cs, LamX.TabB base mg p.1 p.2) → FnOkG l.prog w K mg base (CX w) k fa fd [x] sp)
    (hCX : ∀ (w : World) (H : Hp) (s : Shared) (e : Value) (s' : Shared), CX w [] H s (fun _ _ _ => False) e s' → False) :
    PySem.W.WalkO q loose XP YP l.row.toRowW d [] (fun f vs => PySem.call f vs) := by
  refine Att.attach_call hn hdf fun w s0 s1 mg mb fa o pm cd doc a vs ns G Y ho hd hcd hmg hobj hints hlen hg => ?_
  obtain ⟨K, fd, sp, cs, KX, hT, nT, C, hb, hsp, hF⟩ := F w mg fa _ Y G.T.g hmg
  exact law_callT KX G.T.g G.T.b G.T.builtins G.T.nolimit hg hT nT C G.T.bmain hobj hints (Nat.le_trans hlen hn2) hr hF hb (fun H hB => hsp H a ns hlen hB) fun H e s' => hCX w H s1 e s'
/-! ### the law's def -/
def spLaw (K : PySem.W.Frag) (ts : List Addr) : Sp := fun vs H Q _ => ∃ (a : Addr) (ns : List Int), vs = [.ref a] ∧ Begin K a ns ts H ∧ ns.length ≤ 63 ∧ ∀ H', Q (.bl true) H'
def gm0 (m : Nat) (ns : List Int) : Gm := .val (.scr ns) :: .val .m :: List.replicate m .no
/-- the tables are not among what is known -/
def noTab (H : Hp) : Hp := fun b => match H b with
  | some (.tbl _) => none
  | o => o
theorem noTab_ex (H : Hp) : Ex (noTab H) H := fun b o e => by
  unfold noTab at e
  split at e
  · cases e
  · exact e
theorem noTab_at {H : Hp} {b : Addr} {o : HO} (h : H b = some o) (n : ∀ ps, o ≠ .tbl ps) : noTab H b = some o := by
  unfold noTab
  split
  · rename_i ps e
    rw [h] at e
    exact absurd (Option.some.inj e) (n ps)
  · exact h
theorem noTab_none {H : Hp} {b : Addr} {ps : Array Value} (h : H b = some (.tbl ps)) : noTab H b = none := by
  unfold noTab
  rw [h]
theorem noTab_n {H : Hp} {b : Addr} (h : H b = none) : noTab H b = none := by
  unfold noTab
  rw [h]
theorem sqL_noTab {K : PySem.W.Frag} {H : Hp} {a : Addr} {xs : List V} (h : SqL K H a xs) : SqL K (noTab H) a xs := by
  rcases h with (h | ⟨o, h⟩) | h
  · exact .inl (.inl (noTab_at h fun ps z => by cases z))
  · exact .inl (.inr ⟨o, noTab_at h fun ps z => by cases z⟩)
  · exact .inr h
section
variable {P : Program} {w : World} {K : PySem.W.Frag} {mg : Str → Option Value} {base : Heap} {pn : PrN} {p : Pr} {f fB : Addr} {fd fdB : FuncData} {xc : List (Nat × Addr × List Str)} {tb : List (Addr × Str)}
theorem pss_ex {α : Type} {X : Cx} {st : List Stmt} {t : α → TS} (h : ∀ a, PSs X st (t a)) : PSs X st (fun D σ H => ∃ a, t a D σ H) := ⟨fun pins s σ H D I ⟨a, q⟩ => (h a).run pins s σ H D I q⟩
theorem ok_law (w0 : World0 P w K mg base pn p xc tb) {params : Arguments} {scope : Scope} {N : List Str} {n k : Nat} {lam : Bool} {lawB : B} {st0 : Stmt} {rest : List Stmt} {y : Str} {p1 p2 p3 p4 pos : Pos} (F : FunD K "law" "law" params (st0 :: rest) scope [] [] f fd) (S : FnScope ("_law_script" :: y :: N) ["_law_script"] scope) (hN : ∀ z ∈ (("_law_script" : Str) :: y :: N), okN z = true)
    (e0 : st0 = .Assign [.Name y p1] (.Call (.Name "_law_begun" p2) [.Name "_law_script" p3] [] p4) pos) (hy : locB ⟨[], scope, fun _ => true, false⟩ y = true) (hgb : scope.names.lookup ("_law_begun" : Str) = some .globalImplicit)
    (gB : mg "_law_begun" = some (.ref fB)) (kB : PySem.W.keepIn K (.ref fB) = true) (bB : Binds K fdB ["_law_script"] []) (GB : FnOkG P w K mg base CX0 2 fB fdB ["_law_script"] (spBegun K))
    (hc : chkB n pn ⟨"_law_script" :: y :: N, scope, fun _ => true, lam⟩ rest lawB = true) (hlam : lam = true → LamD mg base tb "law" fd.code)
    (hlaw : ∀ (ns : List Int) (g : G), ns.length ≤ 63 → GOk g → g.spot = 0 → ∃ g', evB p.cs (den p k) lawB (gm0 N.length ns) g = .ok (.rt (.bl true)) g') :
    FnOkG P w K mg base (L2.CX P w) (ix (k + 1)) f fd ["_law_script"] (spLaw K (tb.map (·.1))) := by
  obtain ⟨oc, od, dV, kV, doc, pm, an, cdv, ct, osl, rfl, lk, hcd, _, _⟩ := F.ex
  refine FnOkG.mono (j := 4 * k + 5 + 1) (fn_ofG lk hcd S (fun vs H Q E h => ?_) fun A outer s H vs Q E hr hgd h => ?_) (by unfold ix; omega)
  · obtain ⟨a, ns, rfl, _⟩ := h
    rfl
  · obtain ⟨a, ns, rfl, hB, hl, q⟩ := h
    subst e0
    have hy' : Loc scope y := by
      unfold locB at hy
      split at hy
      · rename_i e; exact .inl e
      · rename_i e; exact .inr e
      · cases hy
    have vs0 : Vis scope "_law_script" := by
      rcases S.par "_law_script" (by simp) with z | z
      · exact .inl z
      · exact .inr (.inl z)
    have ok := fun (W : Wd) (hw : WIs W w K xc tb) => ok_body (W := W) (outer := outer) (H := H) (E := E) w0 hw (fun f x df a fd ps h e d => defs_ok w0 W hw k f x df a fd ps h e d) S hN hr hgd hlam
    have ps0 : Passes (L2.CX P w) (cxOf (L2.CX P w) P w K mg base ("_law_script" :: y :: N) "law" scope f cdv A outer s H E) E0 := passes_call LamX.takes0 fun _ _ _ _ h => h
    refine ⟨_, pss_cons (ps_set (i := 1) S.nd rfl hy' (pe_callG (GB.cx.mono (by omega : 2 ≤ 4 * k + 5)) hr hgd hgb gB kB bB .nil ps0 (pa_cons (pe_var (i := 0) rfl vs0) pa_nil) rfl rfl rfl) rfl (Or.inl rfl)) (pss_ex fun (z : { W : Wd // WIs W w K xc tb } × Hp × Hp) => (ss_all n).b (Hk0 := z.2.1) (H0 := z.2.2) (ok z.1.1 z.1.2) S.kind hc), ?_⟩
    refine ⟨_, rfl, a, ns, rfl, hB.scr, hl, fun H' W g ex h1 h2 h3 dr0 sp0 => ?_⟩
    have tabs : LamX.Tabs tb H' := fun r hr' => LamX.TabS.nil (ex.1 _ _ (hB.tab r.1 (List.mem_map.mpr ⟨r, hr', rfl⟩)))
    have dr : DrawAt ⟨W.am, W.ac, W.ag, w, K, tb, xc⟩ g H' := ⟨dr0.m, dr0.c, dr0.gr, dr0.ne, dr0.ok, tabs, fun b ps e => by
      rcases hB.only b _ (ex.2 b ps e) with ⟨z, _⟩ | ⟨_, _, o, z⟩
      · obtain ⟨r, hr', rfl⟩ := List.mem_map.mp z
        exact ⟨r, hr', rfl⟩
      · cases z⟩
    obtain ⟨g', eg⟩ := hlaw ns g hl dr.ok sp0
    have exk : Ex (noTab H) H' := fun b o e => ex.1 b o (noTab_ex H b o e)
    refine ⟨(⟨⟨W.am, W.ac, W.ag, w, K, tb, xc⟩, rfl, rfl, rfl, rfl⟩, noTab H, H'), noTab H, gm0 N.length ns, g, noTab H, ⟨⟨exk, noTab_n h1, noTab_n h2, noTab_n h3, fun r hr' => noTab_none (hB.tab r.1 (List.mem_map.mpr ⟨r, hr', rfl⟩)), dr⟩, Step.refl exk, [], ?_, List.nodup_nil, fun p hp => absurd hp (by simp)⟩, Ex.refl _, ?_⟩
    · have es : (L2.start (("_law_script" : Str) :: y :: N) [V.ref a]).set 1 (some (V.ref W.am)) = some (V.ref a) :: some (V.ref W.am) :: List.replicate N.length none := by
        unfold L2.start
        simp
        rfl
      rw [es]
      exact .val ⟨a, rfl, sqL_noTab hB.scr⟩ (.val rfl (gm_no _))
    · rw [eg]
      intro v Hk' H'' _ _ r
      have r : v = .bl true := r
      subst r
      exact q H''
end
end Bk

set_option Elab.async false
set_option linter.all false
set_option maxRecDepth 100000
set_option maxHeartbeats 4000000
set_option pp.maxSteps 800
/-! The head's facts: also classes of exceptions, and tables of code objects. -/
namespace Bk
open PySem PySem.Spec PyProof.Rows L2
abbrev FnM : Type := Option (Str × Str × Arguments × FuncBody × Scope × Addr × List Str × Addr)
def fnM (K : PySem.W.Frag) (a : Addr) : FnM := match K.lookup a with
  | some ⟨_, _, .func fd, _⟩ => some (fd.name, fd.qualname, fd.params, fd.body, fd.scope, fd.globals, fd.closure.map (·.1), fd.builtins)
  | _ => none
/-- a class of exceptions, with its __init__ -/
structure ClD where
  num : Nat
  x : Str
  ns : List Str
  vb : Bool
  params : Arguments
  body : List Stmt
  scope : Scope
def ClD.C (K : PySem.W.Frag) (d : ClD) : Addr := He.ga K d.x
def ClD.fI (K : PySem.W.Frag) (d : ClD) : Addr := He.ma K (d.C K) "__init__"
def ClD.val (d : ClD) : FnM := some ("__init__", d.x ++ ".__init__", d.params, .stmts d.body, d.scope, mainGlobals, ["__class__"], builtinsNs)
def ClD.B (d : ClD) : String := if d.vb then "ValueError" else "OverflowError"
def ClD.newId (d : ClD) : String := if d.vb then "ValueError.__new__" else "OverflowError.__new__"
def ClD.initId (d : ClD) : String := if d.vb then "ValueError.__init__" else "OverflowError.__init__"
def ClD.bm (d : ClD) : List Value := if d.vb then [.type "ValueError", .type "Exception", .type "BaseException", .type "object"] else [.type "OverflowError", .type "ArithmeticError", .type "Exception", .type "BaseException", .type "object"]
def noneV : Value → Bool
  | .none => true
  | _ => false
theorem noneV_ok {v : Value} (h : noneV v = true) : v = .none := by
  cases v <;> first | rfl | cases h
def innB (P : Program) (K : PySem.W.Frag) (C fI : Addr) : Bool := match K.lookup fI with
  | some ⟨_, _, .func fd, _⟩ => (match fd.code, fd.closure with
    | .ref cda, [(_, cc)] => noneV fd.defaults && PySem.W.codeIn K fd.code fd.qualname && (match K.lookup cda with
      | some ⟨_, _, .fields vs, _⟩ => (match (vs[2]? : Option Value) with
        | some (.str file _) => (P.main.file : Str) == file
        | _ => false)
      | _ => false) && (match K.lookup cc with
      | some ⟨_, _, .cell (some (.ref C')), _⟩ => C' == C
      | _ => false)
    | _, _ => false)
  | _ => false
def ClD.ok (P : Program) (K : PySem.W.Frag) (d : ClD) : Bool :=
  He.eqO (PySem.W.nsIn K mainGlobals d.x) (some (some (.ref (d.C K)))) && PySem.W.excInitIn K (d.C K) d.bm d.newId && PySem.W.excOver K (d.C K) d.bm && PySem.W.hasDictIn K (d.C K) &&
  He.eqO (PySem.W.findIn K (.ref (d.C K)) "__setattr__") (some (some (.builtin "object.__setattr__"))) && (d.ns.all fun n => He.eqO (PySem.W.findIn K (.ref (d.C K)) n) (some none)) &&
  He.eqO (PySem.W.findIn K (.ref (d.C K)) "__init__") (some (some (.ref (d.fI K)))) && decide (PySem.W.typeIn K (.ref (d.fI K)) = some (.type "function")) &&
  He.eqO (PySem.W.ks_superIn K (d.C K) (d.C K) "__init__") (some (some (.builtin d.initId))) && decide (PySem.W.subIn K (.ref (d.C K)) (.type d.B) = some true) && decide (PySem.W.mroIn K (d.C K) (.ref (d.C K)) = some true) &&
  PySem.W.keepIn K (.ref (d.C K)) && decide (PySem.W.subIn K (.ref (d.C K)) (.type "BaseException") = some true) && decide (PySem.W.typeIn K (.ref (d.C K)) = some (.type "type")) && xfB K (d.C K) && innB P K (d.C K) (d.fI K)
/-- what stands in the text of an __init__ -/
def stoB : List Str → List Stmt → Bool
  | [], [] => true
  | n :: ns, .Assign [.Attribute (.Name y _) m _] (.Name z _) _ :: r => decide (y = ("self" : Str)) && decide (m = n) && decide (z = n) && stoB ns r
  | _, _ => false
theorem stoB_ok : ∀ {ns : List Str} {r : List Stmt}, stoB ns r = true → Sto ns r
  | [], [], _ => .nil
  | [], _ :: _, h => by simp [stoB] at h
  | n :: ns, r, h => by
    unfold stoB at h
    split at h
    · rename_i e
      cases e
    · rename_i n1 ns1 y p1 m p2 z p3 p4 r1 e
      simp only [Bool.and_eq_true, decide_eq_true_eq] at h
      obtain ⟨⟨⟨rfl, rfl⟩, rfl⟩, h⟩ := h
      cases e
      exact .cons (stoB_ok h)
    · cases h
def iniB (d : ClD) : Bool := (match d.body with
  | .Expr (.Call (.Attribute (.Call (.Name s _) [] [] _) i p2) [.Constant (.str _) _ _] [] p4) _ :: r => decide (s = ("super" : Str)) && decide (i = ("__init__" : Str)) && (p2.endLine == p4.line) && stoB d.ns r
  | _ => false) && decide (((d.params.posonlyargs ++ d.params.args).head?.map (·.arg)) = some ("self" : Str)) && decide (d.scope.kind = .function) && !d.scope.isCoroutine && !d.scope.isGenerator && (d.scope.names.all fun z => !decide (z.2 = .cell)) &&
  decide (d.scope.names.lookup ("super" : Str) = some .globalImplicit) && decide (d.scope.names.lookup ("__class__" : Str) = some .free) && ((("self" : Str) :: d.ns).all fun n => decide (d.scope.names.lookup n = some .local)) &&
  decide ((("self" : Str) :: d.ns).Nodup) && (d.ns.all fun n => !(n == ("__debug__" : Str))) && decide (1 ≤ d.ns.length ∧ d.ns.length ≤ 50) && okN d.x
def bindsB (d : ClD) : Prop := ∀ (name qual : Str) (cl : List (Str × Addr)) (kV doc pm cv ct : Value) (an : Option Addr) (x : Value) (us : List Value), us.length = d.ns.length → bindArgs (PySem.W.fnX name qual d.params d.body d.scope cl .none kV doc pm an cv ct) ⟨x :: us, []⟩ = pure ((("self" : Str), x) :: d.ns.zip us)
section
variable {P : Program} {K : PySem.W.Frag} {d : ClD}
theorem ClD.inn (e : fnM K (d.fI K) = d.val) (h : innB P K (d.C K) (d.fI K) = true) (hi : iniB d = true) (hb : bindsB d) : IniFn P K (d.C K) (d.fI K) d.ns := by
  unfold innB at h
  unfold fnM at e
  split at h
  · rename_i oc od fd osl lk
    rw [lk] at e
    simp only at e
    split at h
    · rename_i cda nm cc hcd hcl
      simp only [Bool.and_eq_true] at h
      obtain ⟨⟨⟨h0, h1⟩, h2⟩, h3⟩ := h
      split at h2
      · rename_i ccl cdd vs ccs lcd
        split at h2
        · rename_i file tf hvs
          split at h3
          · rename_i cl cld C' csl lcc
            have hC : C' = d.C K := eq_of_beq h3
            subst hC
            obtain ⟨n1, n2, n3, n4, n5, n6, n7, n8, n9, n10, n11, n12, n13, n14, n15⟩ := fd
            simp only at hcd hcl
            have h00 : n8 = .none := noneV_ok h0
            subst h00
            subst hcd hcl
            simp only [ClD.val, Option.some.injEq, Prod.mk.injEq, List.map_cons, List.map_nil, List.cons.injEq, and_true] at e
            obtain ⟨e1, e2, e3, e4, e5, e6, e7, e8⟩ := e
            subst e1 e2 e3 e4 e5 e6 e7 e8
            unfold iniB at hi
            simp only [Bool.and_eq_true, decide_eq_true_eq, Bool.not_eq_true', List.all_eq_true, decide_eq_false_iff_not] at hi
            obtain ⟨⟨⟨⟨⟨⟨⟨⟨⟨⟨⟨⟨i1, i2⟩, i3⟩, i4⟩, i5⟩, i6⟩, i7⟩, i8⟩, i9⟩, i10⟩, i11⟩, i12⟩, i13⟩ := hi
            split at i1
            · rename_i s0 p0 p1 i0 p2 text j p3 p4 p5 r hbody
              simp only [Bool.and_eq_true, decide_eq_true_eq] at i1
              obtain ⟨⟨⟨rfl, rfl⟩, hl⟩, hst⟩ := i1
              obtain ⟨ar, har1, har2⟩ := Option.map_eq_some_iff.mp i2
              refine ⟨oc, od, ("__init__" : Str), d.x ++ (".__init__" : Str), d.params, r, d.scope, .none, n9, n10, n11, n12, cda, n14, osl, cc, text, p0, p1, p2, p3, p4, p5, ar, j, ccl, cdd, vs, ccs, file, tf, cl, cld, csl, ?_, h1, stoB_ok hst, har1, har2, i3, i4, i5, i6, i7, i8, i9, fun x us s hlu => BindsTo.of_eq ?_, lcd, hvs, h2, lcc, hl⟩
              · rw [hbody] at lk
                exact lk
              · have := hb "__init__" (d.x ++ ".__init__") [("__class__", cc)] n9 n10 n11 (.ref cda) n14 n12 x us hlu
                rw [hbody] at this
                exact this
            · cases i1
          · cases h3
        · cases h2
      · cases h2
    · cases h
  · cases h
theorem ClD.xc (e : fnM K (d.fI K) = d.val) (h : d.ok P K = true) (hi : iniB d = true) (hb : bindsB d) (ho : PySem.W.nsIn K cStatics "thirdparty.any" = some none) (hs : PySem.W.nsIn K mainGlobals ("super" : Str) = some none) (ht : (P.main.scope.names.lookup ("super" : Str)).isSome = false) : XcOk P K (d.C K) d.ns ∧ ClsF K (d.C K) d.ns := by
  unfold ClD.ok at h
  simp only [Bool.and_eq_true, decide_eq_true_eq, List.all_eq_true] at h
  obtain ⟨⟨⟨⟨⟨⟨⟨⟨⟨⟨⟨⟨⟨⟨⟨h1, h2⟩, h3⟩, h4⟩, h5⟩, h6⟩, h7⟩, h8⟩, h9⟩, h10⟩, h11⟩, h12⟩, h13⟩, h14⟩, h15⟩, h16⟩ := h
  have fn := ClD.inn e h16 hi hb
  unfold iniB at hi
  simp only [Bool.and_eq_true, decide_eq_true_eq, Bool.not_eq_true', List.all_eq_true] at hi
  obtain ⟨⟨⟨⟨⟨⟨⟨⟨⟨⟨⟨⟨i1, i2⟩, i3⟩, i4⟩, i5⟩, i6⟩, i7⟩, i8⟩, i9⟩, i10⟩, i11⟩, i12⟩, i13⟩ := hi
  have no : ∀ n ∈ d.ns, PySem.W.findIn K (.ref (d.C K)) n = some none := fun n hn => He.eqO_ok (h6 n hn)
  refine ⟨⟨⟨d.fI K, d.B, d.newId, d.initId, d.bm, ?_, fn⟩, h12, h13, h14, i12, (List.nodup_cons.mp i10).2, ht, hs⟩, xfB_ok h15, no⟩
  have base : ExcBaseFacts d.B d.newId d.initId d.bm ∧ PySem.W.KxsFacts d.B d.initId ∧ StoreFacts d.B d.bm "object.__setattr__" "object" := by
    unfold ClD.B ClD.newId ClD.initId ClD.bm
    cases d.vb with
    | true => exact ⟨PySem.F.excBase_ValueError, PySem.W.kxs_ValueError, PySem.F.store_ValueError⟩
    | false => exact ⟨PySem.F.excBase_OverflowError, PySem.W.kxs_OverflowError, PySem.F.store_OverflowError⟩
  exact ⟨base.1, base.2.1, base.2.2, h2, h3, h4, He.eqO_ok h5, no, He.eqO_ok h7, h8, He.eqO_ok h9, h10, h11, ho, i11, i10⟩
end
end Bk

set_option Elab.async false
set_option linter.all false
set_option maxRecDepth 100000
set_option maxHeartbeats 4000000
set_option pp.maxSteps 800
/-! The head's own hook, and the def that tells of errors held against its text. -/
namespace Bk
open PySem PySem.Spec PyProof.Rows L2
def kOf (n : Nat) (g : Addr → Option Obj) : PySem.W.Frag := He.frT g (He.asD g n ++ [cStatics])
def clsB (P : Program) (cl : List ClD) (tf : List He.Defn) (K : PySem.W.Frag) : Bool :=
  (cl.all fun d => d.ok P K) && (cl.all fun d => cl.all fun e => decide (PySem.W.exmOne K (.ref (d.C K)) (.ref (e.C K)) = some (decide (d.num = e.num)))) && decide ((tf.map fun p => (He.cT K p).2).Nodup) &&
  He.eqO (PySem.W.nsIn K cStatics "thirdparty.any") (some none) && He.eqO (PySem.W.nsIn K mainGlobals ("super" : Str)) (some none)
abbrev AlB : Type := He.AlD × List FnM × Bool
def obsB (P : Program) (n : Nat) (fa : List He.Fa) (fn : List He.DefD) (cl : List ClD) (tf : List He.Defn) (g : Addr → Option Obj) : AlB :=
  (He.obsD fa fn (kOf n g), cl.map (fun d => fnM (kOf n g) (d.fI (kOf n g))), clsB P cl tf (kOf n g) && He.tabsB g tf (kOf n g))
def valB (fn : List He.DefD) (cl : List ClD) : AlB := (He.valD fn, cl.map ClD.val, true)
structure SaysB (P : Program) (fa : List He.Fa) (fn : List He.DefD) (cl : List ClD) (tf : List He.Defn) (h : Heap) (K : PySem.W.Frag) : Prop where
  d : He.SaysD fa fn K
  fm : cl.map (fun d => fnM K (d.fI K)) = cl.map ClD.val
  more : clsB P cl tf K = true
  hd : ∀ p ∈ tf, PySem.W.codeHdIn K (He.cT K p).1 (He.cT K p).2 = true
  out : ∀ p ∈ tf, K.lookup (He.cT K p).2 = none
  empty : ∀ p ∈ tf, h.get? (He.cT K p).2 = some { cls := .none, data := .fields #[] }
theorem saysB_of {P : Program} {n : Nat} {fa : List He.Fa} {fn : List He.DefD} {cl : List ClD} {tf : List He.Defn} {h : Heap} (e : obsB P n fa fn cl tf h.get? = valB fn cl) : SaysB P fa fn cl tf h (kOf n h.get?) := by
  have e1 : He.obsD fa fn (kOf n h.get?) = He.valD fn := congrArg (fun z : AlB => z.1) e
  have e2 : cl.map (fun d => fnM (kOf n h.get?) (d.fI (kOf n h.get?))) = cl.map ClD.val := congrArg (fun z : AlB => z.2.1) e
  have e3 : (clsB P cl tf (kOf n h.get?) && He.tabsB h.get? tf (kOf n h.get?)) = true := congrArg (fun z : AlB => z.2.2) e
  obtain ⟨h1, h2⟩ := (Bool.and_eq_true _ _).mp e3
  have key : ∀ p ∈ tf, PySem.W.codeHdIn (kOf n h.get?) (He.cT (kOf n h.get?) p).1 (He.cT (kOf n h.get?) p).2 = true ∧ ∃ o, h.get? (He.cT (kOf n h.get?) p).2 = some o ∧ He.emptyTab o = true := fun p hp => by
    obtain ⟨h3, h4⟩ := (Bool.and_eq_true _ _).mp (List.all_eq_true.mp h2 p hp)
    refine ⟨h3, ?_⟩
    split at h4
    · rename_i o q
      exact ⟨o, q, h4⟩
    · cases h4
  exact ⟨e1, e2, h1, fun p hp => (key p hp).1, fun p hp => by
    obtain ⟨_, o, q, z⟩ := key p hp
    exact He.frT_none q z, fun p hp => by
    obtain ⟨_, o, q, z⟩ := key p hp
    rw [q, He.emptyTab_eq z]⟩
def hookB (P : Program) (n : Nat) (fa : List He.Fa) (fn : List He.DefD) (cl : List ClD) (tf : List He.Defn) : PySem.W.Hook where
  α := AlB
  obs := fun s => obsB P n fa fn cl tf s.heap.get?
  val := fun _ => valB fn cl
  says := fun _ h => ∃ K : PySem.W.Frag, K.In h ∧ SaysB P fa fn cl tf h K
  of := fun _ _ e => ⟨_, He.frT_in, saysB_of e⟩
  keeps := fun _ _ _ ⟨K, hK, c⟩ k => ⟨K, PySem.W.Frag.In.keeps hK k, ⟨c.d, c.fm, c.more, c.hd, c.out, fun p hp => k _ _ (c.empty p hp)⟩⟩
theorem obsB_eq {P : Program} {n : Nat} {fa : List He.Fa} {fn : List He.DefD} {cl : List ClD} {tf : List He.Defn} {g : Addr → Option Obj} {s : Shared} (h : ∀ a, g a = s.heap.get? a) : obsB P n fa fn cl tf g = (hookB P n fa fn cl tf).obs s := by
  have e : g = s.heap.get? := funext h
  rw [e] <;> rfl
def xcOf (K : PySem.W.Frag) (cl : List ClD) : List (Nat × Addr × List Str) := cl.map fun d => (d.num, d.C K, d.ns)
def tbOf (K : PySem.W.Frag) (tf : List He.Defn) : List (Addr × Str) := tf.map fun p => ((He.cT K p).2, p.1 ++ ".<locals>." ++ "<lambda>")
/-- which class -/
def clAt (cl : List ClD) (c : Nat) : Option ClD := (cl.map fun d => (d.num, d)).lookup c
theorem xc_at {K : PySem.W.Frag} {c : Nat} : ∀ {cl : List ClD}, (xcOf K cl).lookup c = (clAt cl c).map fun d => (d.C K, d.ns)
  | [] => rfl
  | d :: cl => by
    unfold xcOf clAt
    rw [List.map_cons, List.map_cons, List.lookup_cons, List.lookup_cons]
    by_cases e : c == d.num
    · rw [e]; rfl
    · simp only [Bool.not_eq_true] at e
      rw [e]
      exact xc_at (cl := cl)
theorem clAt_mem {c : Nat} {d : ClD} : ∀ {cl : List ClD}, clAt cl c = some d → d ∈ cl ∧ d.num = c
  | [], h => by cases h
  | a :: cl, h => by
    unfold clAt at h
    rw [List.map_cons, List.lookup_cons] at h
    by_cases e : c == a.num
    · rw [e] at h
      cases h
      exact ⟨List.mem_cons_self, (eq_of_beq e).symm⟩
    · simp only [Bool.not_eq_true] at e
      rw [e] at h
      obtain ⟨h1, h2⟩ := clAt_mem (cl := cl) h
      exact ⟨List.mem_cons_of_mem _ h1, h2⟩
/-- the clauses, held against the text -/
def fldB : List Str → List Expr → Bool
  | [], [] => true
  | n :: ns, .Attribute (.Name y _) m _ :: es => decide (y = ("e" : Str)) && decide (m = n) && fldB ns es
  | _, _ => false
theorem fldB_ok : ∀ {ns : List Str} {es : List Expr}, fldB ns es = true → FldE es ns
  | [], [], _ => .nil
  | [], _ :: _, h => by simp [fldB] at h
  | n :: ns, es, h => by
    unfold fldB at h
    split at h
    · rename_i e
      cases e
    · rename_i e
      simp only [Bool.and_eq_true, decide_eq_true_eq] at h
      obtain ⟨⟨rfl, rfl⟩, h⟩ := h
      cases e
      exact .cons (fldB_ok h)
    · cases h
def hdB (cl : List ClD) (sg : Scope) : List ExceptHandler → List (Nat × Str) → Bool
  | [], [] => true
  | .ExceptHandler (some (.Name cn _)) (some e) [.Assign [.Name y _] (.Tuple (.Constant (.str x) _ _ :: es) _ _) _] _ :: hds, (c, z) :: tb => decide (e = ("e" : Str)) && decide (y = ("_law_told_so" : Str)) && decide (x = z) && decide (sg.names.lookup cn = some .globalImplicit) && (match clAt cl c with
    | some d => decide (d.x = cn) && fldB d.ns es
    | none => false) && hdB cl sg hds tb
  | _, _ => false
def saidB (cl : List ClD) (sg : Scope) (bg : List Stmt) (tb : List (Nat × Str)) : Bool := (match bg with
  | [.Assign [.Name y1 _] (.List [] _) _, .Try [.Assign [.Name y2 _] (.List [.Call (.Name z _) [] [] _] _) _] (h0 :: hds) [] [] _, .Return (some (.Name y3 _)) _] => decide (y1 = ("_law_told_so" : Str)) && decide (y2 = ("_law_told_so" : Str)) && decide (y3 = ("_law_told_so" : Str)) && decide (z = ("_law_call" : Str)) && hdB cl sg (h0 :: hds) tb
  | _ => false) && decide (sg.names.lookup ("_law_told_so" : Str) = some .local) && decide (sg.names.lookup ("e" : Str) = some .local) && decide ((tb.map (·.1)).Nodup)
section
variable {P : Program} {w : World} {K : PySem.W.Frag} {h : Heap} {mg : Str → Option Value} {base : Heap} {fa : List He.Fa} {fn : List He.DefD} {cl : List ClD} {tf : List He.Defn}
theorem SaysB.at (c : SaysB P fa fn cl tf h K) (hi : ∀ d ∈ cl, iniB d = true ∧ bindsB d) (ht : (P.main.scope.names.lookup ("super" : Str)).isSome = false) {d : ClD} (hd : d ∈ cl) : PySem.W.nsIn K mainGlobals d.x = some (some (.ref (d.C K))) ∧ XcOk P K (d.C K) d.ns ∧ ClsF K (d.C K) d.ns := by
  have m := c.more
  unfold clsB at m
  simp only [Bool.and_eq_true, List.all_eq_true] at m
  obtain ⟨⟨⟨⟨m1, m2⟩, m3⟩, m4⟩, m5⟩ := m
  have e : fnM K (d.fI K) = d.val := by
    obtain ⟨i, hi', e⟩ := List.mem_iff_getElem.mp hd
    have e2 : (cl.map (fun d => fnM K (d.fI K)))[i]? = (cl.map ClD.val)[i]? := by rw [c.fm]
    rw [List.getElem?_map, List.getElem?_map, List.getElem?_eq_getElem hi', e] at e2
    exact Option.some.inj e2
  refine ⟨?_, ClD.xc e (m1 d hd) (hi d hd).1 (hi d hd).2 (He.eqO_ok m4) (He.eqO_ok m5) ht⟩
  have := m1 d hd
  unfold ClD.ok at this
  simp only [Bool.and_eq_true] at this
  obtain ⟨⟨⟨⟨⟨⟨⟨⟨⟨⟨⟨⟨⟨⟨⟨h1, h2⟩, h3⟩, h4⟩, h5⟩, h6⟩, h7⟩, h8⟩, h9⟩, h10⟩, h11⟩, h12⟩, h13⟩, h14⟩, h15⟩, h16⟩ := this
  exact He.eqO_ok h1
theorem SaysB.mgAt (c : SaysB P fa fn cl tf h K) (hi : ∀ d ∈ cl, iniB d = true ∧ bindsB d) (ht : (P.main.scope.names.lookup ("super" : Str)).isSome = false) (X : K.In h) (G : h.Ns mainGlobals mg) {d : ClD} (hd : d ∈ cl) : mg d.x = some (.ref (d.C K)) := by
  have e := (c.at hi ht hd).1
  exact PySem.W.mg_of X G e
theorem SaysB.exm (c : SaysB P fa fn cl tf h K) {a b : Nat} {C C' : Addr} {ns ns' : List Str} (h1 : (xcOf K cl).lookup a = some (C, ns)) (h2 : (xcOf K cl).lookup b = some (C', ns')) : PySem.W.exmOne K (.ref C) (.ref C') = some (decide (a = b)) := by
  rw [xc_at] at h1 h2
  obtain ⟨d, hd, e⟩ := Option.map_eq_some_iff.mp h1
  obtain ⟨d', hd', e'⟩ := Option.map_eq_some_iff.mp h2
  cases e
  cases e'
  obtain ⟨z1, rfl⟩ := clAt_mem hd
  obtain ⟨z2, rfl⟩ := clAt_mem hd'
  have m := c.more
  unfold clsB at m
  simp only [Bool.and_eq_true, List.all_eq_true, decide_eq_true_eq] at m
  exact m.1.1.1.2 d z1 d' z2
theorem hdB_ok (c : SaysB P fa fn cl tf h K) (hi : ∀ d ∈ cl, iniB d = true ∧ bindsB d) (ht : (P.main.scope.names.lookup ("super" : Str)).isSome = false) (X : K.In h) (G : h.Ns mainGlobals mg) {sg : Scope} {Z : Cx} (zk : Z.K = K) (zm : Z.mg = mg) (zs : Z.env.scope = sg) : ∀ {hds : List ExceptHandler} {tb : List (Nat × Str)}, hdB cl sg hds tb = true → HdL Z (xcOf K cl) hds tb
  | [], [], _ => .nil
  | [], _ :: _, h => by simp [hdB] at h
  | _ :: _, [], h => by
    unfold hdB at h
    split at h
    · rename_i e _; cases e
    · rename_i e; cases e
    · cases h
  | hd :: hds, (n, z) :: tb, h => by
    unfold hdB at h
    split at h
    · rename_i e _; cases e
    · rename_i e1 e2
      cases e1
      cases e2
      simp only [Bool.and_eq_true, decide_eq_true_eq] at h
      obtain ⟨⟨⟨⟨⟨rfl, rfl⟩, rfl⟩, h4⟩, h5⟩, h6⟩ := h
      split at h5
      · rename_i d hd
        simp only [Bool.and_eq_true, decide_eq_true_eq] at h5
        obtain ⟨rfl, h7⟩ := h5
        obtain ⟨dm, rfl⟩ := clAt_mem hd
        have a := c.at hi ht dm
        have i := (hi d dm).1
        unfold iniB at i
        simp only [Bool.and_eq_true, decide_eq_true_eq, Bool.not_eq_true', List.all_eq_true] at i
        obtain ⟨⟨⟨⟨⟨⟨⟨⟨⟨⟨⟨⟨i1, i2⟩, i3⟩, i4⟩, i5⟩, i6⟩, i7⟩, i8⟩, i9⟩, i10⟩, i11⟩, i12⟩, i13⟩ := i
        refine .cons (C := d.C K) (ns := d.ns) ⟨?_, okN1 i13, .inl ?_⟩ (by rw [xc_at, hd]; rfl) (fldB_ok h7) i12.2 (by rw [zk]; exact a.2.2) (hdB_ok c hi ht X G zk zm zs h6)
        · show Gl Z d.x
          rw [← zs] at h4
          exact h4
        · rw [zm]
          exact c.mgAt hi ht X G dm
      · cases h5
    · cases h
theorem said_ok (c : SaysB P fa fn cl tf h K) (hi : ∀ d ∈ cl, iniB d = true ∧ bindsB d) (ht : (P.main.scope.names.lookup ("super" : Str)).isSome = false) (X : K.In h) (G : h.Ns mainGlobals mg) {x : Str} {g : Addr} {pg : Arguments} {bg : List Stmt} {sg : Scope} {fd : FuncData} {tb : List (Nat × Str)}
    (F : FunD K x x pg bg sg [] [] g fd) (hm : mg x = some (.ref g)) (hb : L2.Binds K fd ["_law_call"] []) (S : FnScope nSaid ["_law_call"] sg) (hx : okN x = true) (hs : saidB cl sg bg tb = true) : SaidOk P w K mg base (xcOf K cl) x tb := by
  obtain ⟨oc, od, dV, kV, doc, pm, an, cdv, ct, osl, rfl, lk, hcd, _, _⟩ := F.ex
  have hv : Vis sg "_law_call" := by
    rcases S.par "_law_call" (by simp) with z | z
    · exact .inl z
    · exact .inr (.inl z)
  refine ⟨g, pg, bg, sg, dV, kV, doc, pm, cdv, ct, oc, an, od, osl, "_law_call", nSaid, hm, F.kp, lk, hcd, hb, S, rfl, hv, by decide, hx, ?_⟩
  rintro X0 rfl rfl rfl rfl rfl
  unfold saidB at hs
  simp only [Bool.and_eq_true, decide_eq_true_eq] at hs
  obtain ⟨⟨⟨h1, h2⟩, h3⟩, h4⟩ := hs
  split at h1
  · simp only [Bool.and_eq_true, decide_eq_true_eq] at h1
    obtain ⟨⟨⟨⟨rfl, rfl⟩, rfl⟩, rfl⟩, h5⟩ := h1
    exact said_gives (p12 := ⟨0, 0, 0, 0⟩) S hv h2 h3 (fun s H => hdB_ok (Z := (cxOf C8.CX0 X0.prog X0.w X0.K X0.mg X0.base nSaid x sg g cdv X0.A X0.stack s H C8.E0).nox) c hi ht X G rfl rfl rfl h5) (fun a b C C' ns ns' q1 q2 => c.exm q1 q2) h4
  · cases h1
/-- a def's table -/
theorem lamD_of (c : SaysB P fa fn cl tf h K) {x : Str} {params : Arguments} {body : List Stmt} {scope : Scope} {fd : FuncData} (F : FunD K x x params body scope [] [] (He.fAd K (x, none)) fd) (hx : (x, none) ∈ tf) (TB : ∀ q ∈ tf.map (He.cT K), LamX.TabB base mg q.1 q.2) : LamD mg base (tbOf K tf) x fd.code := by
  obtain ⟨oc, od, dV, kV, doc, pm, an, cdv, ct, osl, rfl, lk, hcd, _, _⟩ := F.ex
  obtain ⟨c0, rfl⟩ := He.codeIn_ref hcd
  have e : He.codeOf K (x, none) = c0 := He.codeOf_eq lk rfl
  have m := c.more
  unfold clsB at m
  simp only [Bool.and_eq_true, List.all_eq_true, decide_eq_true_eq] at m
  have nd := m.1.1.2
  have t := TB _ (List.mem_map.mpr ⟨_, hx, rfl⟩)
  refine ⟨c0, (He.cT K (x, none)).2, rfl, ?_, List.mem_map.mpr ⟨_, hx, rfl⟩, fun p hp hq => ?_⟩
  · have : (He.cT K (x, none)).1 = c0 := e
    rw [← this]
    exact t
  · obtain ⟨r, hr, rfl⟩ := List.mem_map.mp hp
    have hq : (He.cT K r).2 = (He.cT K (x, none)).2 := hq
    obtain ⟨i, hi, ei⟩ := List.mem_iff_getElem.mp hr
    obtain ⟨j, hj, ej⟩ := List.mem_iff_getElem.mp hx
    have : i = j := by
      refine (List.getElem_inj (xs := tf.map fun p => (He.cT K p).2) (h₀ := by simpa using hi) (h₁ := by simpa using hj) nd).mp ?_
      simp only [List.getElem_map, ei, ej]
      exact hq
    subst this
    rw [ei] at ej
    rw [ej]
end
end Bk

set_option Elab.async false
set_option linter.all false
set_option maxRecDepth 100000
set_option maxHeartbeats 0
namespace Bk
open PySem PySem.Spec PyProof.Rows L2 Row
abbrev DEPTH : Nat := 12
abbrev STEPS : Nat := 6000
/-! ### held against the text -/
def pn : PrN := ⟨[(1, ("MOST_ROOM" : Str)), (0, ("MOST_OF" : Str)), (2, ("MOST_FARES" : Str)), (3, ("MOST_FARE" : Str))], [(17, ("_law_like" : Str)), (389, ("_law_best_of" : Str)), (391, ("_law_value" : Str)), (3, ("best_share" : Str)), (2, ("best_plan" : Str)), (100, ("check_bar" : Str)), (1, ("_law_fares" : Str)), (99, ("share_bar" : Str)), (15, ("long_share" : Str)), (392, ("_law_parts" : Str)), (393, ("_law_is_above" : Str)), (390, ("_law_least" : Str)), (18, ("bar_value" : Str)), (20, ("need_fares" : Str)), (19, ("weights_of" : Str)), (4, ("common" : Str)), (21, ("is_whole" : Str)), (16, ("long_in" : Str)), (6, ("need_plan" : Str)), (23, ("fraction" : Str)), (24, ("are_fares" : Str)), (11, ("gains_by" : Str)), (13, ("lesser_share" : Str)), (22, ("are_rising" : Str))], [(0, ("BadHall" : Str), ["part"]), (1, ("BadRule" : Str), ["path"]), (2, ("BadCall" : Str), ["place"]), (3, ("BadNumber" : Str), ["value"]), (4, ("BadPlan" : Str), ["part"]), (5, ("BadShare" : Str), ["value"]), (6, ("BadLog" : Str), ["place"]), (7, ("BadPaper" : Str), ["word"]), (8, ("BadText" : Str), ["line", "word"]), (9, ("TooGreat" : Str), ["most"])], [(0, ("_law_said" : Str), tbSaid)]⟩
theorem sc__law_like : FnScope n__law_like ["_law_answer", "_law_due"] (defScope (top 41)) := C8.fnScope_by (by decide +kernel)
theorem ck__law_like : chkB 200 pn ⟨n__law_like, defScope (top 41), fun _ => true, false⟩ (defBody (top 41)) b__law_like = true := by decide +kernel
theorem sc__law_best_of : FnScope n__law_best_of ["_law_fares_so"] (defScope (top 45)) := C8.fnScope_by (by decide +kernel)
theorem ck__law_best_of : chkB 200 pn ⟨n__law_best_of, defScope (top 45), fun _ => true, false⟩ (defBody (top 45)) b__law_best_of = true := by decide +kernel
theorem sc__law_value : FnScope n__law_value ["_law_fares_so", "_law_bar_so"] (defScope (top 46)) := C8.fnScope_by (by decide +kernel)
theorem ck__law_value : chkB 200 pn ⟨n__law_value, defScope (top 46), fun _ => true, false⟩ (defBody (top 46)) b__law_value = true := by decide +kernel
theorem sc_best_share : FnScope n_best_share ["fares"] (defScope (top 32)) := C8.fnScope_by (by decide +kernel)
theorem ck_best_share : chkB 200 pn ⟨n_best_share, defScope (top 32), fun _ => true, false⟩ (defBody (top 32)) b_best_share = true := by decide +kernel
theorem sc_best_plan : FnScope n_best_plan ["fares"] (defScope (top 33)) := C8.fnScope_by (by decide +kernel)
theorem ck_best_plan : chkB 200 pn ⟨n_best_plan, defScope (top 33), fun _ => true, false⟩ (defBody (top 33)) b_best_plan = true := by decide +kernel
theorem sc_check_bar : FnScope n_check_bar ["fares", "bar"] (defScope (top 35)) := C8.fnScope_by (by decide +kernel)
theorem ck_check_bar : chkB 200 pn ⟨n_check_bar, defScope (top 35), fun _ => true, false⟩ (defBody (top 35)) b_check_bar = true := by decide +kernel
theorem sc__law_fares : FnScope n__law_fares ["_law_m", "_law_most"] (defScope (top 42)) := C8.fnScope_by (by decide +kernel)
theorem ck__law_fares : chkB 200 pn ⟨n__law_fares, defScope (top 42), fun _ => true, false⟩ (defBody (top 42)) b__law_fares = true := by decide +kernel
theorem sc_share_bar : FnScope n_share_bar ["fares"] (defScope (top 34)) := C8.fnScope_by (by decide +kernel)
theorem ck_share_bar : chkB 200 pn ⟨n_share_bar, defScope (top 34), fun _ => true, false⟩ (defBody (top 34)) b_share_bar = true := by decide +kernel
theorem sc_long_share : FnScope n_long_share ["plan"] (defScope (top 29)) := C8.fnScope_by (by decide +kernel)
theorem ck_long_share : chkB 200 pn ⟨n_long_share, defScope (top 29), fun _ => true, false⟩ (defBody (top 29)) b_long_share = true := by decide +kernel
theorem sc__law_parts : FnScope n__law_parts ["_law_many", "_law_whole"] (defScope (top 47)) := C8.fnScope_by (by decide +kernel)
theorem ck__law_parts : chkB 200 pn ⟨n__law_parts, defScope (top 47), fun _ => true, false⟩ (defBody (top 47)) b__law_parts = true := by decide +kernel
theorem sc__law_is_above : FnScope n__law_is_above ["_law_one", "_law_other"] (defScope (top 48)) := C8.fnScope_by (by decide +kernel)
theorem ck__law_is_above : chkB 200 pn ⟨n__law_is_above, defScope (top 48), fun _ => true, false⟩ (defBody (top 48)) b__law_is_above = true := by decide +kernel
theorem sc__law_least_390 : FnScope n__law_least_390 ["_law_part", "_law_of"] (defScope (top 43)) := C8.fnScope_by (by decide +kernel)
theorem ck__law_least_390 : chkB 200 pn ⟨n__law_least_390, defScope (top 43), fun _ => true, false⟩ (defBody (top 43)) b__law_least_390 = true := by decide +kernel
theorem sc_bar_value : FnScope n_bar_value ["fares", "weights"] (defScope (top 31)) := C8.fnScope_by (by decide +kernel)
theorem ck_bar_value : chkB 200 pn ⟨n_bar_value, defScope (top 31), fun _ => true, false⟩ (defBody (top 31)) b_bar_value = true := by decide +kernel
theorem sc_need_fares : FnScope n_need_fares ["fares"] (defScope (top 24)) := C8.fnScope_by (by decide +kernel)
theorem ck_need_fares : chkB 200 pn ⟨n_need_fares, defScope (top 24), fun _ => true, false⟩ (defBody (top 24)) b_need_fares = true := by decide +kernel
theorem sc_weights_of : FnScope n_weights_of ["fares"] (defScope (top 30)) := C8.fnScope_by (by decide +kernel)
theorem ck_weights_of : chkB 200 pn ⟨n_weights_of, defScope (top 30), fun _ => true, false⟩ (defBody (top 30)) b_weights_of = true := by decide +kernel
theorem sc_common : FnScope n_common ["one", "other"] (defScope (top 17)) := C8.fnScope_by (by decide +kernel)
theorem ck_common : chkB 200 pn ⟨n_common, defScope (top 17), fun _ => true, false⟩ (defBody (top 17)) b_common = true := by decide +kernel
theorem sc_is_whole : FnScope n_is_whole ["value", "least", "most"] (defScope (top 15)) := C8.fnScope_by (by decide +kernel)
theorem ck_is_whole : chkB 200 pn ⟨n_is_whole, defScope (top 15), fun _ => true, false⟩ (defBody (top 15)) b_is_whole = true := by decide +kernel
theorem sc_long_in : FnScope n_long_in ["plan"] (defScope (top 28)) := C8.fnScope_by (by decide +kernel)
theorem ck_long_in : chkB 200 pn ⟨n_long_in, defScope (top 28), fun _ => true, false⟩ (defBody (top 28)) b_long_in = true := by decide +kernel
theorem sc_need_plan : FnScope n_need_plan ["plan"] (defScope (top 25)) := C8.fnScope_by (by decide +kernel)
theorem ck_need_plan : chkB 200 pn ⟨n_need_plan, defScope (top 25), fun _ => true, false⟩ (defBody (top 25)) b_need_plan = true := by decide +kernel
theorem sc_fraction : FnScope n_fraction ["one", "other"] (defScope (top 18)) := C8.fnScope_by (by decide +kernel)
theorem ck_fraction : chkB 200 pn ⟨n_fraction, defScope (top 18), fun _ => true, false⟩ (defBody (top 18)) b_fraction = true := by decide +kernel
theorem sc_are_fares : FnScope n_are_fares ["value"] (defScope (top 22)) := C8.fnScope_by (by decide +kernel)
theorem ck_are_fares : chkB 200 pn ⟨n_are_fares, defScope (top 22), fun _ => true, false⟩ (defBody (top 22)) b_are_fares = true := by decide +kernel
theorem sc_gains_by : FnScope n_gains_by ["fares", "limits"] (defScope (top 26)) := C8.fnScope_by (by decide +kernel)
theorem ck_gains_by : chkB 200 pn ⟨n_gains_by, defScope (top 26), fun _ => true, false⟩ (defBody (top 26)) b_gains_by = true := by decide +kernel
theorem sc_lesser_share : FnScope n_lesser_share ["pairs"] (defScope (top 27)) := C8.fnScope_by (by decide +kernel)
theorem ck_lesser_share : chkB 200 pn ⟨n_lesser_share, defScope (top 27), fun _ => true, false⟩ (defBody (top 27)) b_lesser_share = true := by decide +kernel
theorem sc_are_rising : FnScope n_are_rising ["value"] (defScope (top 23)) := C8.fnScope_by (by decide +kernel)
theorem ck_are_rising : chkB 200 pn ⟨n_are_rising, defScope (top 23), fun _ => true, false⟩ (defBody (top 23)) b_are_rising = true := by decide +kernel
theorem sc_law : FnScope n_law ["_law_script"] (defScope sLaw) := C8.fnScope_by (by decide +kernel)
theorem ck_law : chkB 200 pn ⟨n_law, defScope sLaw, fun _ => true, true⟩ (defBody sLaw).tail b_law = true := by decide +kernel
/-! ### the head -/
def d__law_mixed : He.DefD := ⟨("_law_mixed", none), "_law_mixed", "_law_mixed", defArgs (top 37), defBody (top 37), defScope (top 37), [], []⟩
def d__law_folded : He.DefD := ⟨("_law_folded", none), "_law_folded", "_law_folded", defArgs (top 38), defBody (top 38), defScope (top 38), [], []⟩
def d__law_draw : He.DefD := ⟨("_law_draw", none), "_law_draw", "_law_draw", defArgs (top 39), defBody (top 39), defScope (top 39), [], []⟩
def d__law_begun : He.DefD := ⟨("_law_begun", none), "_law_begun", "_law_begun", defArgs (top 40), defBody (top 40), defScope (top 40), [], []⟩
def d_law : He.DefD := ⟨("law", none), "law", "law", defArgs (top 49), defBody (top 49), defScope (top 49), [], []⟩
def d__law_said : He.DefD := ⟨("_law_said", none), "_law_said", "_law_said", defArgs (top 44), defBody (top 44), defScope (top 44), [], []⟩
def d__law_like : He.DefD := ⟨("_law_like", none), "_law_like", "_law_like", defArgs (top 41), defBody (top 41), defScope (top 41), [], []⟩
def d__law_best_of : He.DefD := ⟨("_law_best_of", none), "_law_best_of", "_law_best_of", defArgs (top 45), defBody (top 45), defScope (top 45), [], []⟩
def d__law_value : He.DefD := ⟨("_law_value", none), "_law_value", "_law_value", defArgs (top 46), defBody (top 46), defScope (top 46), [], []⟩
def d_best_share : He.DefD := ⟨("best_share", none), "best_share", "best_share", defArgs (top 32), defBody (top 32), defScope (top 32), [], []⟩
def d_best_plan : He.DefD := ⟨("best_plan", none), "best_plan", "best_plan", defArgs (top 33), defBody (top 33), defScope (top 33), [], []⟩
def d_check_bar : He.DefD := ⟨("check_bar", none), "check_bar", "check_bar", defArgs (top 35), defBody (top 35), defScope (top 35), [], []⟩
def d__law_fares : He.DefD := ⟨("_law_fares", none), "_law_fares", "_law_fares", defArgs (top 42), defBody (top 42), defScope (top 42), [], []⟩
def d_share_bar : He.DefD := ⟨("share_bar", none), "share_bar", "share_bar", defArgs (top 34), defBody (top 34), defScope (top 34), [], []⟩
def d_long_share : He.DefD := ⟨("long_share", none), "long_share", "long_share", defArgs (top 29), defBody (top 29), defScope (top 29), [], []⟩
def d__law_parts : He.DefD := ⟨("_law_parts", none), "_law_parts", "_law_parts", defArgs (top 47), defBody (top 47), defScope (top 47), [], []⟩
def d__law_is_above : He.DefD := ⟨("_law_is_above", none), "_law_is_above", "_law_is_above", defArgs (top 48), defBody (top 48), defScope (top 48), [], []⟩
def d__law_least_390 : He.DefD := ⟨("_law_least", none), "_law_least", "_law_least", defArgs (top 43), defBody (top 43), defScope (top 43), [], []⟩
def d_bar_value : He.DefD := ⟨("bar_value", none), "bar_value", "bar_value", defArgs (top 31), defBody (top 31), defScope (top 31), [], []⟩
def d_need_fares : He.DefD := ⟨("need_fares", none), "need_fares", "need_fares", defArgs (top 24), defBody (top 24), defScope (top 24), [], []⟩
def d_weights_of : He.DefD := ⟨("weights_of", none), "weights_of", "weights_of", defArgs (top 30), defBody (top 30), defScope (top 30), [], []⟩
def d_common : He.DefD := ⟨("common", none), "common", "common", defArgs (top 17), defBody (top 17), defScope (top 17), [], []⟩
def d_is_whole : He.DefD := ⟨("is_whole", none), "is_whole", "is_whole", defArgs (top 15), defBody (top 15), defScope (top 15), [], []⟩
def d_long_in : He.DefD := ⟨("long_in", none), "long_in", "long_in", defArgs (top 28), defBody (top 28), defScope (top 28), [], []⟩
def d_need_plan : He.DefD := ⟨("need_plan", none), "need_plan", "need_plan", defArgs (top 25), defBody (top 25), defScope (top 25), [], []⟩
def d_fraction : He.DefD := ⟨("fraction", none), "fraction", "fraction", defArgs (top 18), defBody (top 18), defScope (top 18), [], []⟩
def d_are_fares : He.DefD := ⟨("are_fares", none), "are_fares", "are_fares", defArgs (top 22), defBody (top 22), defScope (top 22), [], []⟩
def d_gains_by : He.DefD := ⟨("gains_by", none), "gains_by", "gains_by", defArgs (top 26), defBody (top 26), defScope (top 26), [], []⟩
def d_lesser_share : He.DefD := ⟨("lesser_share", none), "lesser_share", "lesser_share", defArgs (top 27), defBody (top 27), defScope (top 27), [], []⟩
def d_are_rising : He.DefD := ⟨("are_rising", none), "are_rising", "are_rising", defArgs (top 23), defBody (top 23), defScope (top 23), [], []⟩
def fn : List He.DefD := [d__law_mixed, d__law_folded, d__law_draw, d__law_begun, d_law, d__law_said, d__law_like, d__law_best_of, d__law_value, d_best_share, d_best_plan, d_check_bar, d__law_fares, d_share_bar, d_long_share, d__law_parts, d__law_is_above, d__law_least_390, d_bar_value, d_need_fares, d_weights_of, d_common, d_is_whole, d_long_in, d_need_plan, d_fraction, d_are_fares, d_gains_by, d_lesser_share, d_are_rising]
def fa : List He.Fa := [.glo "_law_mixed", .glo "_law_folded", .glo "_law_draw", .glo "_law_begun", .glo "law", .glo "_law_said", .glo "_law_like", .glo "_law_best_of", .glo "_law_value", .glo "best_share", .glo "best_plan", .glo "check_bar", .glo "_law_fares", .glo "share_bar", .glo "long_share", .glo "_law_parts", .glo "_law_is_above", .glo "_law_least", .glo "bar_value", .glo "need_fares", .glo "weights_of", .glo "common", .glo "is_whole", .glo "long_in", .glo "need_plan", .glo "fraction", .glo "are_fares", .glo "gains_by", .glo "lesser_share", .glo "are_rising", .int "MOST_ROOM" 1000000000000000000000000000000, .int "MOST_OF" 1000000000, .int "MOST_FARES" 4, .int "MOST_FARE" 99, .free "len", .free "all", .free "any", .free "sum", .free "min", .free "max", .free "sorted", .free "tuple", .free "list", .free "int", .free "repr", .free "isinstance", .free "range", .free "zip", .free "enumerate", .free "bool", .free "str"]
abbrev RR : PySem.W.OpenRow := PySem.W.OpenLaw.row PySem.Challenge.rw_booklimits_k84_whole_best_plans
def inCls (s : Stmt) : Stmt := match s with
  | .ClassDef _ _ _ (b :: _) _ _ _ _ _ _ _ => b
  | _ => s
def x_BadHall : ClD := ⟨0, "BadHall", ["part"], true, defArgs (inCls (top 2)), defBody (inCls (top 2)), defScope (inCls (top 2))⟩
def x_BadRule : ClD := ⟨1, "BadRule", ["path"], true, defArgs (inCls (top 3)), defBody (inCls (top 3)), defScope (inCls (top 3))⟩
def x_BadCall : ClD := ⟨2, "BadCall", ["place"], true, defArgs (inCls (top 4)), defBody (inCls (top 4)), defScope (inCls (top 4))⟩
def x_BadNumber : ClD := ⟨3, "BadNumber", ["value"], true, defArgs (inCls (top 6)), defBody (inCls (top 6)), defScope (inCls (top 6))⟩
def x_BadPlan : ClD := ⟨4, "BadPlan", ["part"], true, defArgs (inCls (top 7)), defBody (inCls (top 7)), defScope (inCls (top 7))⟩
def x_BadShare : ClD := ⟨5, "BadShare", ["value"], true, defArgs (inCls (top 8)), defBody (inCls (top 8)), defScope (inCls (top 8))⟩
def x_BadLog : ClD := ⟨6, "BadLog", ["place"], true, defArgs (inCls (top 9)), defBody (inCls (top 9)), defScope (inCls (top 9))⟩
def x_BadPaper : ClD := ⟨7, "BadPaper", ["word"], true, defArgs (inCls (top 5)), defBody (inCls (top 5)), defScope (inCls (top 5))⟩
def x_BadText : ClD := ⟨8, "BadText", ["line", "word"], true, defArgs (inCls (top 10)), defBody (inCls (top 10)), defScope (inCls (top 10))⟩
def x_TooGreat : ClD := ⟨9, "TooGreat", ["most"], false, defArgs (inCls (top 11)), defBody (inCls (top 11)), defScope (inCls (top 11))⟩
def xl : List ClD := [x_BadHall, x_BadRule, x_BadCall, x_BadNumber, x_BadPlan, x_BadShare, x_BadLog, x_BadPaper, x_BadText, x_TooGreat]
def tf : List He.Defn := [("law", none)]
abbrev PP : Program := RR.prog
abbrev hk : PySem.W.Hook := hookB PP 5 fa fn xl tf
def ob (s : PySem.W.SharedT) : AlB := obsB PP 5 fa fn xl tf (HandSHeadRun.getT s)
theorem ob_eq (s : PySem.W.SharedT) : ob s = hk.obs s.abs := obsB_eq (HandSHeadRun.getT_eq s)
def loose : List Str := (["CallError", "BadHall", "BadRule", "BadCall", "BadPaper", "BadNumber", "BadPlan", "BadShare", "BadLog", "BadText", "TooGreat", "MOST_FARES", "MOST_FARE", "is_whole", "common", "fraction", "MOST_ROOM", "MOST_OF", "are_fares", "are_rising", "need_fares", "need_plan", "gains_by", "lesser_share", "long_in", "long_share", "weights_of", "bar_value", "best_share", "best_plan"] : List Str) ++ (["share_bar", "check_bar", "_law_mixed", "_law_folded", "_law_draw", "_law_begun", "_law_like", "_law_fares", "_law_least", "_law_said", "_law_best_of", "_law_value", "_law_parts", "_law_is_above"] : List Str)
theorem run (w : World) : HandSHeadRun.RunEq RR (PySem.W.view RR.prog [49]) hk ob STEPS loose w := by
  intro os
  kernel_rfl
theorem x_ok : ∀ d ∈ xl, iniB d = true ∧ bindsB d := by
  intro d hd
  simp only [xl, List.mem_cons, List.not_mem_nil, or_false] at hd
  rcases hd with rfl | rfl | rfl | rfl | rfl | rfl | rfl | rfl | rfl | rfl
  · exact ⟨by decide +kernel, fun _ _ _ _ _ _ _ _ _ _ us hl => match us, hl with | [_], _ => rfl⟩
  · exact ⟨by decide +kernel, fun _ _ _ _ _ _ _ _ _ _ us hl => match us, hl with | [_], _ => rfl⟩
  · exact ⟨by decide +kernel, fun _ _ _ _ _ _ _ _ _ _ us hl => match us, hl with | [_], _ => rfl⟩
  · exact ⟨by decide +kernel, fun _ _ _ _ _ _ _ _ _ _ us hl => match us, hl with | [_], _ => rfl⟩
  · exact ⟨by decide +kernel, fun _ _ _ _ _ _ _ _ _ _ us hl => match us, hl with | [_], _ => rfl⟩
  · exact ⟨by decide +kernel, fun _ _ _ _ _ _ _ _ _ _ us hl => match us, hl with | [_], _ => rfl⟩
  · exact ⟨by decide +kernel, fun _ _ _ _ _ _ _ _ _ _ us hl => match us, hl with | [_], _ => rfl⟩
  · exact ⟨by decide +kernel, fun _ _ _ _ _ _ _ _ _ _ us hl => match us, hl with | [_], _ => rfl⟩
  · exact ⟨by decide +kernel, fun _ _ _ _ _ _ _ _ _ _ us hl => match us, hl with | [_, _], _ => rfl⟩
  · exact ⟨by decide +kernel, fun _ _ _ _ _ _ _ _ _ _ us hl => match us, hl with | [_], _ => rfl⟩
theorem no_super : (PP.main.scope.names.lookup ("super" : Str)).isSome = false := by decide +kernel
section
variable {w : World} {K : PySem.W.Frag} {h : Heap} {mg : Str → Option Value} {base : Heap}
theorem lookup_mem {α : Type} {l : List (Nat × α)} {i : Nat} {x : α} (h : l.lookup i = some x) : (i, x) ∈ l := by
  induction l with
  | nil => cases h
  | cons a l ih =>
    obtain ⟨j, y⟩ := a
    rw [List.lookup_cons] at h
    by_cases e : i == j
    · rw [e] at h; cases h; rw [eq_of_beq e]; exact List.mem_cons_self
    · simp only [Bool.not_eq_true] at e; rw [e] at h; exact List.mem_cons_of_mem _ (ih h)
theorem world (X : K.In h) (G : h.Ns mainGlobals mg) (c : SaysB PP fa fn xl tf h K) (TB : ∀ q ∈ tf.map (He.cT K), LamX.TabB base mg q.1 q.2) : World0 PP w K mg base pn p (xcOf K xl) (tbOf K tf) where
  cs := fun i d x h1 h2 => by
    have hm := lookup_mem h2
    simp only [pn, List.mem_cons, List.not_mem_nil, or_false, Prod.mk.injEq] at hm
    rcases hm with ⟨rfl, rfl⟩ | ⟨rfl, rfl⟩ | ⟨rfl, rfl⟩ | ⟨rfl, rfl⟩
    · obtain ⟨t, e⟩ := He.int_ok X G (c.d.fact 30 (f := .int "MOST_ROOM" 1000000000000000000000000000000) rfl)
      have h1 : some (D.int 1000000000000000000000000000000) = some d := h1
      cases h1
      exact ⟨_, .int 1000000000000000000000000000000, by decide +kernel, e, ⟨t, rfl⟩, fun _ _ => rfl⟩
    · obtain ⟨t, e⟩ := He.int_ok X G (c.d.fact 31 (f := .int "MOST_OF" 1000000000) rfl)
      have h1 : some (D.int 1000000000) = some d := h1
      cases h1
      exact ⟨_, .int 1000000000, by decide +kernel, e, ⟨t, rfl⟩, fun _ _ => rfl⟩
    · obtain ⟨t, e⟩ := He.int_ok X G (c.d.fact 32 (f := .int "MOST_FARES" 4) rfl)
      have h1 : some (D.int 4) = some d := h1
      cases h1
      exact ⟨_, .int 4, by decide +kernel, e, ⟨t, rfl⟩, fun _ _ => rfl⟩
    · obtain ⟨t, e⟩ := He.int_ok X G (c.d.fact 33 (f := .int "MOST_FARE" 99) rfl)
      have h1 : some (D.int 99) = some d := h1
      cases h1
      exact ⟨_, .int 99, by decide +kernel, e, ⟨t, rfl⟩, fun _ _ => rfl⟩
  ds := fun f x h1 => by
    have hm := lookup_mem h1
    simp only [pn, List.mem_cons, List.not_mem_nil, or_false, Prod.mk.injEq] at hm
    rcases hm with ⟨rfl, rfl⟩ | ⟨rfl, rfl⟩ | ⟨rfl, rfl⟩ | ⟨rfl, rfl⟩ | ⟨rfl, rfl⟩ | ⟨rfl, rfl⟩ | ⟨rfl, rfl⟩ | ⟨rfl, rfl⟩ | ⟨rfl, rfl⟩ | ⟨rfl, rfl⟩ | ⟨rfl, rfl⟩ | ⟨rfl, rfl⟩ | ⟨rfl, rfl⟩ | ⟨rfl, rfl⟩ | ⟨rfl, rfl⟩ | ⟨rfl, rfl⟩ | ⟨rfl, rfl⟩ | ⟨rfl, rfl⟩ | ⟨rfl, rfl⟩ | ⟨rfl, rfl⟩ | ⟨rfl, rfl⟩ | ⟨rfl, rfl⟩ | ⟨rfl, rfl⟩ | ⟨rfl, rfl⟩
    · obtain ⟨fd, F⟩ := c.d.def_ 6 (d := d__law_like) rfl
      exact ⟨_, _, fd, ["_law_answer", "_law_due"], rfl, ⟨_, _, _, n__law_like, 200, false, F, sc__law_like, by decide +kernel, ck__law_like, rfl, rfl, fun z => nomatch z⟩, by decide +kernel, He.glo_ok X G (c.d.fact 6 (f := .glo "_law_like") rfl), FunD.bindsN F fun _ _ _ _ _ _ us hl => match us, hl with | [_, _], _ => rfl⟩
    · obtain ⟨fd, F⟩ := c.d.def_ 7 (d := d__law_best_of) rfl
      exact ⟨_, _, fd, ["_law_fares_so"], rfl, ⟨_, _, _, n__law_best_of, 200, false, F, sc__law_best_of, by decide +kernel, ck__law_best_of, rfl, rfl, fun z => nomatch z⟩, by decide +kernel, He.glo_ok X G (c.d.fact 7 (f := .glo "_law_best_of") rfl), FunD.bindsN F fun _ _ _ _ _ _ us hl => match us, hl with | [_], _ => rfl⟩
    · obtain ⟨fd, F⟩ := c.d.def_ 8 (d := d__law_value) rfl
      exact ⟨_, _, fd, ["_law_fares_so", "_law_bar_so"], rfl, ⟨_, _, _, n__law_value, 200, false, F, sc__law_value, by decide +kernel, ck__law_value, rfl, rfl, fun z => nomatch z⟩, by decide +kernel, He.glo_ok X G (c.d.fact 8 (f := .glo "_law_value") rfl), FunD.bindsN F fun _ _ _ _ _ _ us hl => match us, hl with | [_, _], _ => rfl⟩
    · obtain ⟨fd, F⟩ := c.d.def_ 9 (d := d_best_share) rfl
      exact ⟨_, _, fd, ["fares"], rfl, ⟨_, _, _, n_best_share, 200, false, F, sc_best_share, by decide +kernel, ck_best_share, rfl, rfl, fun z => nomatch z⟩, by decide +kernel, He.glo_ok X G (c.d.fact 9 (f := .glo "best_share") rfl), FunD.bindsN F fun _ _ _ _ _ _ us hl => match us, hl with | [_], _ => rfl⟩
    · obtain ⟨fd, F⟩ := c.d.def_ 10 (d := d_best_plan) rfl
      exact ⟨_, _, fd, ["fares"], rfl, ⟨_, _, _, n_best_plan, 200, false, F, sc_best_plan, by decide +kernel, ck_best_plan, rfl, rfl, fun z => nomatch z⟩, by decide +kernel, He.glo_ok X G (c.d.fact 10 (f := .glo "best_plan") rfl), FunD.bindsN F fun _ _ _ _ _ _ us hl => match us, hl with | [_], _ => rfl⟩
    · obtain ⟨fd, F⟩ := c.d.def_ 11 (d := d_check_bar) rfl
      exact ⟨_, _, fd, ["fares", "bar"], rfl, ⟨_, _, _, n_check_bar, 200, false, F, sc_check_bar, by decide +kernel, ck_check_bar, rfl, rfl, fun z => nomatch z⟩, by decide +kernel, He.glo_ok X G (c.d.fact 11 (f := .glo "check_bar") rfl), FunD.bindsN F fun _ _ _ _ _ _ us hl => match us, hl with | [_, _], _ => rfl⟩
    · obtain ⟨fd, F⟩ := c.d.def_ 12 (d := d__law_fares) rfl
      exact ⟨_, _, fd, ["_law_m", "_law_most"], rfl, ⟨_, _, _, n__law_fares, 200, false, F, sc__law_fares, by decide +kernel, ck__law_fares, rfl, rfl, fun z => nomatch z⟩, by decide +kernel, He.glo_ok X G (c.d.fact 12 (f := .glo "_law_fares") rfl), FunD.bindsN F fun _ _ _ _ _ _ us hl => match us, hl with | [_, _], _ => rfl⟩
    · obtain ⟨fd, F⟩ := c.d.def_ 13 (d := d_share_bar) rfl
      exact ⟨_, _, fd, ["fares"], rfl, ⟨_, _, _, n_share_bar, 200, false, F, sc_share_bar, by decide +kernel, ck_share_bar, rfl, rfl, fun z => nomatch z⟩, by decide +kernel, He.glo_ok X G (c.d.fact 13 (f := .glo "share_bar") rfl), FunD.bindsN F fun _ _ _ _ _ _ us hl => match us, hl with | [_], _ => rfl⟩
    · obtain ⟨fd, F⟩ := c.d.def_ 14 (d := d_long_share) rfl
      exact ⟨_, _, fd, ["plan"], rfl, ⟨_, _, _, n_long_share, 200, false, F, sc_long_share, by decide +kernel, ck_long_share, rfl, rfl, fun z => nomatch z⟩, by decide +kernel, He.glo_ok X G (c.d.fact 14 (f := .glo "long_share") rfl), FunD.bindsN F fun _ _ _ _ _ _ us hl => match us, hl with | [_], _ => rfl⟩
    · obtain ⟨fd, F⟩ := c.d.def_ 15 (d := d__law_parts) rfl
      exact ⟨_, _, fd, ["_law_many", "_law_whole"], rfl, ⟨_, _, _, n__law_parts, 200, false, F, sc__law_parts, by decide +kernel, ck__law_parts, rfl, rfl, fun z => nomatch z⟩, by decide +kernel, He.glo_ok X G (c.d.fact 15 (f := .glo "_law_parts") rfl), FunD.bindsN F fun _ _ _ _ _ _ us hl => match us, hl with | [_, _], _ => rfl⟩
    · obtain ⟨fd, F⟩ := c.d.def_ 16 (d := d__law_is_above) rfl
      exact ⟨_, _, fd, ["_law_one", "_law_other"], rfl, ⟨_, _, _, n__law_is_above, 200, false, F, sc__law_is_above, by decide +kernel, ck__law_is_above, rfl, rfl, fun z => nomatch z⟩, by decide +kernel, He.glo_ok X G (c.d.fact 16 (f := .glo "_law_is_above") rfl), FunD.bindsN F fun _ _ _ _ _ _ us hl => match us, hl with | [_, _], _ => rfl⟩
    · obtain ⟨fd, F⟩ := c.d.def_ 17 (d := d__law_least_390) rfl
      exact ⟨_, _, fd, ["_law_part", "_law_of"], rfl, ⟨_, _, _, n__law_least_390, 200, false, F, sc__law_least_390, by decide +kernel, ck__law_least_390, rfl, rfl, fun z => nomatch z⟩, by decide +kernel, He.glo_ok X G (c.d.fact 17 (f := .glo "_law_least") rfl), FunD.bindsN F fun _ _ _ _ _ _ us hl => match us, hl with | [_, _], _ => rfl⟩
    · obtain ⟨fd, F⟩ := c.d.def_ 18 (d := d_bar_value) rfl
      exact ⟨_, _, fd, ["fares", "weights"], rfl, ⟨_, _, _, n_bar_value, 200, false, F, sc_bar_value, by decide +kernel, ck_bar_value, rfl, rfl, fun z => nomatch z⟩, by decide +kernel, He.glo_ok X G (c.d.fact 18 (f := .glo "bar_value") rfl), FunD.bindsN F fun _ _ _ _ _ _ us hl => match us, hl with | [_, _], _ => rfl⟩
    · obtain ⟨fd, F⟩ := c.d.def_ 19 (d := d_need_fares) rfl
      exact ⟨_, _, fd, ["fares"], rfl, ⟨_, _, _, n_need_fares, 200, false, F, sc_need_fares, by decide +kernel, ck_need_fares, rfl, rfl, fun z => nomatch z⟩, by decide +kernel, He.glo_ok X G (c.d.fact 19 (f := .glo "need_fares") rfl), FunD.bindsN F fun _ _ _ _ _ _ us hl => match us, hl with | [_], _ => rfl⟩
    · obtain ⟨fd, F⟩ := c.d.def_ 20 (d := d_weights_of) rfl
      exact ⟨_, _, fd, ["fares"], rfl, ⟨_, _, _, n_weights_of, 200, false, F, sc_weights_of, by decide +kernel, ck_weights_of, rfl, rfl, fun z => nomatch z⟩, by decide +kernel, He.glo_ok X G (c.d.fact 20 (f := .glo "weights_of") rfl), FunD.bindsN F fun _ _ _ _ _ _ us hl => match us, hl with | [_], _ => rfl⟩
    · obtain ⟨fd, F⟩ := c.d.def_ 21 (d := d_common) rfl
      exact ⟨_, _, fd, ["one", "other"], rfl, ⟨_, _, _, n_common, 200, false, F, sc_common, by decide +kernel, ck_common, rfl, rfl, fun z => nomatch z⟩, by decide +kernel, He.glo_ok X G (c.d.fact 21 (f := .glo "common") rfl), FunD.bindsN F fun _ _ _ _ _ _ us hl => match us, hl with | [_, _], _ => rfl⟩
    · obtain ⟨fd, F⟩ := c.d.def_ 22 (d := d_is_whole) rfl
      exact ⟨_, _, fd, ["value", "least", "most"], rfl, ⟨_, _, _, n_is_whole, 200, false, F, sc_is_whole, by decide +kernel, ck_is_whole, rfl, rfl, fun z => nomatch z⟩, by decide +kernel, He.glo_ok X G (c.d.fact 22 (f := .glo "is_whole") rfl), FunD.bindsN F fun _ _ _ _ _ _ us hl => match us, hl with | [_, _, _], _ => rfl⟩
    · obtain ⟨fd, F⟩ := c.d.def_ 23 (d := d_long_in) rfl
      exact ⟨_, _, fd, ["plan"], rfl, ⟨_, _, _, n_long_in, 200, false, F, sc_long_in, by decide +kernel, ck_long_in, rfl, rfl, fun z => nomatch z⟩, by decide +kernel, He.glo_ok X G (c.d.fact 23 (f := .glo "long_in") rfl), FunD.bindsN F fun _ _ _ _ _ _ us hl => match us, hl with | [_], _ => rfl⟩
    · obtain ⟨fd, F⟩ := c.d.def_ 24 (d := d_need_plan) rfl
      exact ⟨_, _, fd, ["plan"], rfl, ⟨_, _, _, n_need_plan, 200, false, F, sc_need_plan, by decide +kernel, ck_need_plan, rfl, rfl, fun z => nomatch z⟩, by decide +kernel, He.glo_ok X G (c.d.fact 24 (f := .glo "need_plan") rfl), FunD.bindsN F fun _ _ _ _ _ _ us hl => match us, hl with | [_], _ => rfl⟩
    · obtain ⟨fd, F⟩ := c.d.def_ 25 (d := d_fraction) rfl
      exact ⟨_, _, fd, ["one", "other"], rfl, ⟨_, _, _, n_fraction, 200, false, F, sc_fraction, by decide +kernel, ck_fraction, rfl, rfl, fun z => nomatch z⟩, by decide +kernel, He.glo_ok X G (c.d.fact 25 (f := .glo "fraction") rfl), FunD.bindsN F fun _ _ _ _ _ _ us hl => match us, hl with | [_, _], _ => rfl⟩
    · obtain ⟨fd, F⟩ := c.d.def_ 26 (d := d_are_fares) rfl
      exact ⟨_, _, fd, ["value"], rfl, ⟨_, _, _, n_are_fares, 200, false, F, sc_are_fares, by decide +kernel, ck_are_fares, rfl, rfl, fun z => nomatch z⟩, by decide +kernel, He.glo_ok X G (c.d.fact 26 (f := .glo "are_fares") rfl), FunD.bindsN F fun _ _ _ _ _ _ us hl => match us, hl with | [_], _ => rfl⟩
    · obtain ⟨fd, F⟩ := c.d.def_ 27 (d := d_gains_by) rfl
      exact ⟨_, _, fd, ["fares", "limits"], rfl, ⟨_, _, _, n_gains_by, 200, false, F, sc_gains_by, by decide +kernel, ck_gains_by, rfl, rfl, fun z => nomatch z⟩, by decide +kernel, He.glo_ok X G (c.d.fact 27 (f := .glo "gains_by") rfl), FunD.bindsN F fun _ _ _ _ _ _ us hl => match us, hl with | [_, _], _ => rfl⟩
    · obtain ⟨fd, F⟩ := c.d.def_ 28 (d := d_lesser_share) rfl
      exact ⟨_, _, fd, ["pairs"], rfl, ⟨_, _, _, n_lesser_share, 200, false, F, sc_lesser_share, by decide +kernel, ck_lesser_share, rfl, rfl, fun z => nomatch z⟩, by decide +kernel, He.glo_ok X G (c.d.fact 28 (f := .glo "lesser_share") rfl), FunD.bindsN F fun _ _ _ _ _ _ us hl => match us, hl with | [_], _ => rfl⟩
    · obtain ⟨fd, F⟩ := c.d.def_ 29 (d := d_are_rising) rfl
      exact ⟨_, _, fd, ["value"], rfl, ⟨_, _, _, n_are_rising, 200, false, F, sc_are_rising, by decide +kernel, ck_are_rising, rfl, rfl, fun z => nomatch z⟩, by decide +kernel, He.glo_ok X G (c.d.fact 29 (f := .glo "are_rising") rfl), FunD.bindsN F fun _ _ _ _ _ _ us hl => match us, hl with | [_], _ => rfl⟩
  dr := by
    obtain ⟨fd, F⟩ := c.d.def_ 2 (d := d__law_draw) rfl
    obtain ⟨fdM, FM⟩ := c.d.def_ 0 (d := d__law_mixed) rfl
    exact ⟨_, fd, _, He.glo_ok X G (c.d.fact 2 (f := .glo "_law_draw") rfl), F.kp, FunD.bindsN (ps := ["_law_m", "_law_limit"]) F fun _ _ _ _ _ _ us hl => match us, hl with | [_, _], _ => rfl, fun W => ok_draw W F FM (He.glo_ok X G (c.d.fact 0 (f := .glo "_law_mixed") rfl)) (He.free_ok X G (c.d.fact 43 (f := .free "int") rfl)) (He.free_ok X G (c.d.fact 34 (f := .free "len") rfl))⟩
  bn := fun x hx => by
    simp only [bNames, List.mem_cons, List.not_mem_nil, or_false] at hx
    rcases hx with rfl | rfl | rfl | rfl | rfl | rfl | rfl | rfl | rfl | rfl | rfl | rfl | rfl | rfl | rfl | rfl | rfl
    · exact (He.free_ok X G (c.d.fact 34 (f := .free "len") rfl))
    · exact (He.free_ok X G (c.d.fact 35 (f := .free "all") rfl))
    · exact (He.free_ok X G (c.d.fact 36 (f := .free "any") rfl))
    · exact (He.free_ok X G (c.d.fact 37 (f := .free "sum") rfl))
    · exact (He.free_ok X G (c.d.fact 38 (f := .free "min") rfl))
    · exact (He.free_ok X G (c.d.fact 39 (f := .free "max") rfl))
    · exact (He.free_ok X G (c.d.fact 40 (f := .free "sorted") rfl))
    · exact (He.free_ok X G (c.d.fact 41 (f := .free "tuple") rfl))
    · exact (He.free_ok X G (c.d.fact 42 (f := .free "list") rfl))
    · exact (He.free_ok X G (c.d.fact 43 (f := .free "int") rfl))
    · exact (He.free_ok X G (c.d.fact 44 (f := .free "repr") rfl))
    · exact (He.free_ok X G (c.d.fact 45 (f := .free "isinstance") rfl))
    · exact (He.free_ok X G (c.d.fact 46 (f := .free "range") rfl))
    · exact (He.free_ok X G (c.d.fact 47 (f := .free "zip") rfl))
    · exact (He.free_ok X G (c.d.fact 48 (f := .free "enumerate") rfl))
    · exact (He.free_ok X G (c.d.fact 49 (f := .free "bool") rfl))
    · exact (He.free_ok X G (c.d.fact 50 (f := .free "str") rfl))
  xs := fun i x ns h1 => by
    have hm := lookup_mem h1
    simp only [pn, List.mem_cons, List.not_mem_nil, or_false, Prod.mk.injEq] at hm
    rcases hm with ⟨rfl, rfl, rfl⟩ | ⟨rfl, rfl, rfl⟩ | ⟨rfl, rfl, rfl⟩ | ⟨rfl, rfl, rfl⟩ | ⟨rfl, rfl, rfl⟩ | ⟨rfl, rfl, rfl⟩ | ⟨rfl, rfl, rfl⟩ | ⟨rfl, rfl, rfl⟩ | ⟨rfl, rfl, rfl⟩ | ⟨rfl, rfl, rfl⟩
    · exact ⟨x_BadHall.C K, rfl, by decide +kernel, c.mgAt x_ok no_super X G (d := x_BadHall) (by simp [xl]), (c.at x_ok no_super (d := x_BadHall) (by simp [xl])).2.1⟩
    · exact ⟨x_BadRule.C K, rfl, by decide +kernel, c.mgAt x_ok no_super X G (d := x_BadRule) (by simp [xl]), (c.at x_ok no_super (d := x_BadRule) (by simp [xl])).2.1⟩
    · exact ⟨x_BadCall.C K, rfl, by decide +kernel, c.mgAt x_ok no_super X G (d := x_BadCall) (by simp [xl]), (c.at x_ok no_super (d := x_BadCall) (by simp [xl])).2.1⟩
    · exact ⟨x_BadNumber.C K, rfl, by decide +kernel, c.mgAt x_ok no_super X G (d := x_BadNumber) (by simp [xl]), (c.at x_ok no_super (d := x_BadNumber) (by simp [xl])).2.1⟩
    · exact ⟨x_BadPlan.C K, rfl, by decide +kernel, c.mgAt x_ok no_super X G (d := x_BadPlan) (by simp [xl]), (c.at x_ok no_super (d := x_BadPlan) (by simp [xl])).2.1⟩
    · exact ⟨x_BadShare.C K, rfl, by decide +kernel, c.mgAt x_ok no_super X G (d := x_BadShare) (by simp [xl]), (c.at x_ok no_super (d := x_BadShare) (by simp [xl])).2.1⟩
    · exact ⟨x_BadLog.C K, rfl, by decide +kernel, c.mgAt x_ok no_super X G (d := x_BadLog) (by simp [xl]), (c.at x_ok no_super (d := x_BadLog) (by simp [xl])).2.1⟩
    · exact ⟨x_BadPaper.C K, rfl, by decide +kernel, c.mgAt x_ok no_super X G (d := x_BadPaper) (by simp [xl]), (c.at x_ok no_super (d := x_BadPaper) (by simp [xl])).2.1⟩
    · exact ⟨x_BadText.C K, rfl, by decide +kernel, c.mgAt x_ok no_super X G (d := x_BadText) (by simp [xl]), (c.at x_ok no_super (d := x_BadText) (by simp [xl])).2.1⟩
    · exact ⟨x_TooGreat.C K, rfl, by decide +kernel, c.mgAt x_ok no_super X G (d := x_TooGreat) (by simp [xl]), (c.at x_ok no_super (d := x_TooGreat) (by simp [xl])).2.1⟩
  sd := fun v x t h1 => by
    have hm := lookup_mem h1
    simp only [pn, List.mem_cons, List.not_mem_nil, or_false, Prod.mk.injEq] at hm
    obtain ⟨rfl, rfl, rfl⟩ := hm
    obtain ⟨fd, F⟩ := c.d.def_ 5 (d := d__law_said) rfl
    exact said_ok c x_ok no_super X G F (He.glo_ok X G (c.d.fact 5 (f := .glo "_law_said") rfl)) (FunD.bindsN F fun _ _ _ _ _ _ us hl => match us, hl with | [_], _ => rfl) (C8.fnScope_by (by decide +kernel)) (by decide +kernel) (by decide +kernel)
end
theorem facts {w : World} {K : PySem.W.Frag} {h : Heap} {mg : Str → Option Value} {f : Addr} (X : K.In h) (GN : h.Ns mainGlobals mg) (hfa : mg ("law" : Str) = some (.ref f)) (c : SaysB PP fa fn xl tf h K)
    (hlaw : ∀ (ns : List Int) (g : G), ns.length ≤ 63 → GOk g → g.spot = 0 → ∃ g', evB p.cs (den p DEPTH) b_law (gm0 16 ns) g = .ok (.rt (.bl true)) g') :
    ∃ fd : FuncData, (∀ (s : Shared) (v : Value), BindsTo s fd ⟨[v], []⟩ [("_law_script", v)]) ∧ ∀ base : Heap, K.In base → base.Ns mainGlobals mg → (∀ q ∈ tf.map (He.cT K), LamX.TabB base mg q.1 q.2) → FnOkG PP w K mg base (L2.CX PP w) (ix (DEPTH + 1)) f fd ["_law_script"] (spLaw K ((tbOf K tf).map Prod.fst)) := by
  obtain ⟨fd, F⟩ := c.d.def_ 4 (d := d_law) rfl
  obtain ⟨fdB, FB⟩ := c.d.def_ 3 (d := d__law_begun) rfl
  obtain ⟨fdF, FF⟩ := c.d.def_ 1 (d := d__law_folded) rfl
  have e := hfa.symm.trans (He.glo_ok X GN (c.d.fact 4 (f := .glo "law") rfl))
  cases e
  have b := FunD.bindsA (ps := ["_law_script"]) F fun _ _ _ _ _ _ us hl => match us, hl with | [_], _ => rfl
  refine ⟨fd, fun s v => b s [v] rfl, fun base _ _ TB => ?_⟩
  have bB : Binds K fdB ["_law_script"] [] := FunD.bindsN FB fun _ _ _ _ _ _ us hl => match us, hl with | [_], _ => rfl
  exact ok_law (world X GN c TB) (n := 200) (st0 := (defBody sLaw).head!) (rest := (defBody sLaw).tail) F sc_law (by decide +kernel) rfl (by decide +kernel) (by decide +kernel) (He.glo_ok X GN (c.d.fact 3 (f := .glo "_law_begun") rfl)) FB.kp bB (ok_begun FB FF (He.glo_ok X GN (c.d.fact 1 (f := .glo "_law_folded") rfl)) (He.free_ok X GN (c.d.fact 43 (f := .free "int") rfl)) (He.free_ok X GN (c.d.fact 46 (f := .free "range") rfl)) (He.free_ok X GN (c.d.fact 48 (f := .free "enumerate") rfl))) ck_law (fun _ => lamD_of c F (by simp [tf]) TB) hlaw
end Bk
open PySem PySem.W PySem.Calls PyProof.Rows
/-- the law holds, once the compact program answers true -/
theorem holds_of (hlaw : ∀ (ns : List Int) (g : Bk.G), ns.length ≤ 63 → Bk.GOk g → g.spot = 0 → ∃ g', Bk.evB Bk.p.cs (Bk.den Bk.p Bk.DEPTH) Bk.b_law (Bk.gm0 16 ns) g = .ok (.rt (.bl true)) g') : PySem.Challenge.rw_booklimits_k84_whole_best_plans.Holds := by
  w_on; o_law
  refine HandSHeadRun.head_any (r := OpenLaw.row PySem.Challenge.rw_booklimits_k84_whole_best_plans) (q := view (OpenLaw.row PySem.Challenge.rw_booklimits_k84_whole_best_plans).prog [49]) (H := Bk.hk) (ob := Bk.ob) (M := Bk.STEPS) (loose := Bk.loose) (d := HandSHeadRun.topDef (OpenLaw.row PySem.Challenge.rw_booklimits_k84_whole_best_plans).prog 49) (kwd := []) Bk.ob_eq
    (by kernel_rfl) (fun s => by kernel_rfl) Bk.run (by kernel_rfl) (by kernel_rfl) (by kernel_rfl) (by rfl) (by first | assumption | decide +kernel) (by decide +kernel) ⟨rfl, rfl, rfl, rfl, rfl, by decide +kernel⟩ ?hw ?hc
  case hw => w_witness2
  case hc =>
    refine Bk.walk_T (l := PySem.Challenge.rw_booklimits_k84_whole_best_plans) (n := 63) (k := Bk.ix (Bk.DEPTH + 1)) (x := "_law_script") (CX := fun w => L2.CX Bk.PP w) rfl (by decide) (by kernel_rfl) ⟨rfl, by decide, by decide⟩ ?F (fun _ _ _ _ _ ⟨_, _, _, _, _, _, _, _, _, _, _, _, z⟩ => z)
    intro w mg fa h Y GN hmg0
    obtain ⟨K, KX, c⟩ := Y
    have hmg : mg ("law" : PySem.Str) = some (.ref fa) := by
      have e : (HandSHeadRun.topDef (OpenLaw.row PySem.Challenge.rw_booklimits_k84_whole_best_plans).prog 49).name = ("law" : PySem.Str) := by kernel_rfl
      rw [← e]
      exact hmg0
    obtain ⟨fd, hb, hF⟩ := Bk.facts (w := w) KX GN hmg c hlaw
    have mm : ∀ {q : Addr × Addr}, q ∈ Bk.tf.map (He.cT K) → ∃ p ∈ Bk.tf, He.cT K p = q := fun h => List.mem_map.mp h
    exact ⟨K, fd, Bk.spLaw K ((Bk.tbOf K Bk.tf).map Prod.fst), Bk.tf.map (He.cT K), KX, fun q hq => by obtain ⟨p, hp, rfl⟩ := mm hq; exact c.empty p hp, fun q hq => by obtain ⟨p, hp, rfl⟩ := mm hq; exact c.out p hp, fun q hq => by obtain ⟨p, hp, rfl⟩ := mm hq; exact PySem.W.codeHd_of_K KX (c.hd p hp), hb, fun H a ns hl hS => ⟨a, ns, rfl, (show Bk.Begin K a ns ((Bk.tbOf K Bk.tf).map Prod.fst) H from hS), hl, fun _ => rfl⟩, hF⟩

set_option maxRecDepth 100000 in
set_option maxHeartbeats 8000000 in
theorem PySem.Challenge.cw_booklimits_k84_whole_best_plans_holds : PySem.Challenge.rw_booklimits_k84_whole_best_plans.Holds := by
  exact holds_of fun ns g hl _ hs => Pk.law_ok ns g hl hs
