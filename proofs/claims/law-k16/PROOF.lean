import PyProof.Rows.All
import Wide.All
import OpenK.AllK
import Wide.FinOn
import HandS.ForMost
import HandS.Deep
import KE.SortData
import HandS.TupAny
import HandS.TupLe
import HandS.TupMul
import HandS.IsInst
import KE.DataCmp
import HandS.Walk
import HandS.Zip
import KE.GoesEnum
import HandS.More
import HandS.Words
import HandS.EndBits
import KE.DataMinMax
import HandS.SetFor
import HandS.Strs
import HandS.Style
import HandS.Conv
import HandS.Dict
import PyProof.AutoSeq1
import PySem.Challenge.RW_namelines_k16_how_soon_they_come_to_it
set_option Elab.async false
set_option linter.all false
set_option maxRecDepth 100000
namespace Ev
open PySem

/-- plain data; ref n: the n-th cell -/
inductive D where
  | non | bl (b : Bool) | int (i : Int) | str (x : Str)
  | tup (xs : List D) | lst (xs : List D) | dct (t : Bool) (ks vs : List D) | ref (n : Nat)
  | scr (ns : List Int)
/-- what a name holds: nothing, a value, a list or dict that no one else holds -/
inductive Sl where
  | un | val (d : D) | own (xs : List D) | ownd (t : Bool) (ks vs : List D)
/-- what a cell holds -/
inductive Cell where
  | dead | lst (xs : List D) | dct (t : Bool) (ks vs : List D) | ins (c : String) (fs : List (Str × D))
abbrev Rho := List Sl
abbrev Hs := List Cell

inductive BOp where | add | sub | mul | fdiv | mod | pow
  deriving DecidableEq
inductive COp where | eq | ne | lt | le | gt | ge | isn | notn | inn | nin
  deriving DecidableEq
inductive Ty where | int | bool | str | list | tuple
  deriving DecidableEq
inductive Bi where | len | abs | min2 | max2 | int | str | ord | sum | all | any | min1 | max1 | sorted | list | tuple
  deriving DecidableEq
/-- methods that change nothing -/
inductive Sm where | join | count | split | get1 | get2 | index
  deriving DecidableEq
inductive Tg where
  | nm (i : Nat) | tp (is : List Nat)
/-- a module's constant -/
inductive GD where
  | int (i : Int) | str (x : Str) | strs (l : List Str)
  deriving DecidableEq
def GD.d : GD → D
  | .int i => .int i
  | .str x => .str x
  | .strs l => .tup (l.map .str)
mutual
inductive X where
  | non | bl (b : Bool) | int (i : Int) | str (x : Str)
  | var (i : Nat) | bor (i : Nat) | glob (x : Str) (g : GD)
  | bin (o : BOp) (a b : X) | neg (a : X)
  | cmp (o : COp) (a b : X) | cmp2 (o p : COp) (a b c : X)
  | both (isAnd : Bool) (xs : List X) | not (a : X) | ife (c a b : X)
  | idx (a i : X) | sl (a lo hi : X)
  | tup (xs : List X) | lst (xs : List X)
  | call (f : String) (xs : List X)
  | bi (b : Bi) (xs : List X) | isin (a : X) (ts : List Ty) | sset (a : X)
  | sm (m : Sm) (a : X) (xs : List X)
  | pcall (fr : Bool) (f : String) (xs : List X)
  | rev (a : X)
  | trng (a : X) | lrng (a : X)
  | dnew | dnew1 (k v : X) | dget (a k : X) | din (neg : Bool) (k a : X) | dget2 (a k d : X)
  | comp (own : List Nat) (tg : Tg) (it : It) (c e : X)
  | alloc (a : X)
inductive It where
  | over (a : X) | rng (a : X) | rng2 (a b : X) | enum (a : X) | zip (a b : X)
end
inductive Mu where | append | extend | pop | popat | insert | remove | reverse | setix
  deriving DecidableEq
inductive S where
  | expr (x : X)
  | asg (tg : Tg) (x : X)
  | own (i : Nat) (x : X)
  | mut (m : Mu) (i : Nat) (xs : List X)
  | popv (tg : Tg) (m : Mu) (i : Nat) (xs : List X)
  | cset (o k v : X)
  | dput (o k v : X)
  | ife (c : X) (a b : List S)
  | fors (tg : Tg) (it : It) (b : List S)
  | whil (c : X) (b : List S)
  | par (is : List Nat) (fl : List Bool) (xs : List X)
  | reto (i : Nat) | retf (x : X)
  | ret (x : X) | retn | brk | cnt | pas
  | frz (i : Nat)
/-- how a statement ends -/
inductive Fl where
  | nx | rt (d : D) | rf (d : D) | bk | ct

/-- sizes stay below this -/
abbrev lim : Nat := 4000000

mutual
def toPy : D → Option PyData
  | .non => some .none
  | .bl b => some (.bool b)
  | .int i => some (.int i)
  | .str x => some (.str x)
  | .tup xs => (toPyL xs).map .tuple
  | .lst xs => (toPyL xs).map .list
  | .dct _ _ _ => none
  | .ref _ => none
  | .scr _ => none
def toPyL : List D → Option (List PyData)
  | [] => some []
  | x :: r => match toPy x, toPyL r with
    | some y, some s => some (y :: s)
    | _, _ => none
end
/-- as data that == may look at -/
def pyOf (d : D) : Option PyData := match toPy d with
  | some p => if SeqAt.shaped p = true then some p else none
  | none => none
def asInt : D → Option Int
  | .int i => some i
  | _ => none
def asBl : D → Option Bool
  | .bl b => some b
  | _ => none
def asStr : D → Option Str
  | .str x => some x
  | _ => none
def mapO {α β : Type} (f : α → Option β) : List α → Option (List β)
  | [] => some []
  | x :: r => match f x, mapO f r with
    | some y, some s => some (y :: s)
    | _, _ => none
/-- the items of a list or tuple -/
def items : D → Option (List D)
  | .lst xs => some xs
  | .tup xs => some xs
  | _ => none
/-- a list's, a tuple's or a text's length -/
def lenD : D → Option Nat
  | .lst xs => some xs.length
  | .tup xs => some xs.length
  | .str x => some x.length
  | .scr ns => some ns.length
  | _ => none
def tyIs : Ty → D → Option Bool
  | .int, .int _ => some true
  | .int, .bl _ => some true
  | .bool, .bl _ => some true
  | .str, .str _ => some true
  | .list, .lst _ => some true
  | .tuple, .tup _ => some true
  | _, .dct _ _ _ => none
  | _, .ref _ => none
  | _, .scr _ => none
  | _, _ => some false
def tyAny : List Ty → D → Option Bool
  | [], _ => some false
  | t :: r, d => match tyIs t d, tyAny r d with
    | some a, some b => some (a || b)
    | _, _ => none
/-- min, max of alike data, the first of several -/
def bestD (lt : PyData → PyData → Bool) : (D × PyData) → List (D × PyData) → D
  | b, [] => b.1
  | b, y :: r => if lt y.2 b.2 = true then bestD lt y r else bestD lt b r
def allAlike (ps : List PyData) : Bool := ps.all fun a => ps.all fun b => PySem.W.alike a b

def powOk (i j : Int) : Bool := decide (0 ≤ j) && decide (j ≤ 1000) && decide (i.natAbs < 2 ^ 64)
def mulOk (i j : Int) : Bool := (decide (-(2 ^ 64) < i) && decide (i < 2 ^ 64)) || (decide (-(2 ^ 64) < j) && decide (j < 2 ^ 64))
def binD : BOp → D → D → Option D
  | .add, .int i, .int j => some (.int (i + j))
  | .add, .str x, .str y => if x.length + y.length ≤ lim then some (.str (x ++ y)) else none
  | .add, .tup x, .tup y => if x.length + y.length ≤ lim then some (.tup (x ++ y)) else none
  | .add, .lst x, .lst y => if x.length + y.length ≤ lim then some (.lst (x ++ y)) else none
  | .sub, .int i, .int j => some (.int (i - j))
  | .mul, .int i, .int j => if mulOk i j = true then some (.int (i * j)) else none
  | .mul, .lst x, .int j => if x.length * j.toNat ≤ lim ∧ j < 2 ^ 62 ∧ -(2 ^ 62) < j then some (.lst (List.replicate j.toNat x).flatten) else none
  | .mul, .tup x, .int j => if x.length ≤ 1000 ∧ j ≤ 1000 ∧ -(2 ^ 62) < j then some (.tup (List.replicate j.toNat x).flatten) else none
  | .mul, .str x, .int j => if x.length * j.toNat ≤ lim ∧ j < 2 ^ 62 ∧ -(2 ^ 62) < j then some (.str ⟨((List.replicate j.toNat x.cps.toList).flatten).toArray⟩) else none
  | .fdiv, .int i, .int j => if 0 < j ∧ j < 1073741824 then some (.int (i / j)) else none
  | .mod, .int i, .int j => if 0 < j then some (.int (i % j)) else none
  | .pow, .int i, .int j => if powOk i j = true then some (.int (i ^ j.toNat)) else none
  | .add, .bl b, .int j => some (.int ((if b = true then (1 : Int) else 0) + j))
  | .sub, .bl b, .int j => some (.int ((if b = true then (1 : Int) else 0) - j))
  | _, _, _ => none
def negD : D → Option D
  | .int i => some (.int (-i))
  | .bl b => some (.int (-(if b = true then (1 : Int) else 0)))
  | _ => none
def eqD (a b : D) : Option Bool := match a, b with
  | .str x, .str y => some (x == y)
  | _, _ => match pyOf a, pyOf b with
    | some x, some y => some (PyData.eqv x y)
    | _, _ => none
/-- a < b: numbers, texts, alike tuples -/
def ltD (a b : D) : Option Bool := match a, b with
  | .int i, .int j => some (decide (i < j))
  | .str x, .str y => some (decide (x.cps.toList < y.cps.toList))
  | .tup xs, .tup ys => match pyOf (.tup xs), pyOf (.tup ys) with
    | some x, some y => if PySem.W.alike x y = true then some (PySem.W.dataLt x y) else none
    | _, _ => none
  | _, _ => none
/-- a > b of tuples -/
def gtD (xs ys : List D) : Option Bool := match pyOf (.tup xs), pyOf (.tup ys) with
  | some x, some y => if PySem.W.alike x y = true then some (PySem.W.dataLt y x) else none
  | _, _ => none
def inD (a c : D) : Option Bool := match pyOf a, c with
  | some x, .lst ys => match pyOf (.lst ys), toPyL ys with
    | some _, some zs => some (zs.any fun z => PyData.eqv z x)
    | _, _ => none
  | some x, .tup ys => match pyOf (.tup ys), toPyL ys with
    | some _, some zs => some (zs.any fun z => PyData.eqv z x)
    | _, _ => none
  | some (.str x), .str y => some (!(Builtin.Str.occurrences y x 0 y.length 1).isEmpty)
  | _, _ => none
def isNonD : D → Bool
  | .non => true
  | _ => false
def cmpD : COp → D → D → Option Bool
  | .eq, a, b => eqD a b
  | .ne, a, b => (eqD a b).map (!·)
  | .lt, a, b => ltD a b
  | .gt, .int i, .int j => some (decide (j < i))
  | .gt, .tup xs, .tup ys => gtD xs ys
  | .le, .int i, .int j => some (decide (i ≤ j))
  | .ge, .int i, .int j => some (decide (j ≤ i))
  | .isn, a, .non => some (isNonD a)
  | .notn, a, .non => some (!isNonD a)
  | .isn, .bl a, .bl b => some (decide (a = b))
  | .notn, .bl a, .bl b => some (!decide (a = b))
  | .inn, a, b => inD a b
  | .nin, a, b => (inD a b).map (!·)
  | _, _, _ => none
def idxD : D → D → Option D
  | .lst xs, .int i => L2.atI xs i
  | .tup xs, .int i => L2.atI xs i
  | .scr ns, .int i => (L2.atI ns i).map .int
  | .str x, .int i => (L2.atI x.cps.toList i).map fun c => .str ⟨#[c]⟩
  | _, _ => none
def optI : D → Option (Option Int)
  | .non => some none
  | .int i => some (some i)
  | _ => none
def cutL {α : Type} (xs : List α) (lo hi : Option Int) : List α := (xs.drop (HT.sIx xs.length 0 lo)).take (HT.sIx xs.length xs.length hi - HT.sIx xs.length 0 lo)
def cutD (a : D) (l u : Option Int) : Option D := match a with
  | .lst xs => some (.lst (cutL xs l u))
  | .tup xs => some (.tup (cutL xs l u))
  | _ => none
/-- x[::-1] -/
def revD : D → Option D
  | .lst xs => some (.lst xs.reverse)
  | .tup xs => some (.tup xs.reverse)
  | _ => none
/-- sorted(set(..)) of numbers -/
def insU (x : Int) : List Int → List Int
  | [] => [x]
  | y :: r => if x < y then x :: y :: r else if x = y then y :: r else y :: insU x r
def srtU (ns : List Int) : List Int := ns.foldr insU []
/-- str of a tuple, of a list -/
def strD (d : D) : Option D := match pyOf d with
  | some p => if p.showable = true ∧ p.shown.length ≤ lim then some (.str p.shown) else none
  | none => none
/-- sorted: alike data -/
def encD (d : D) : PyData := (pyOf d).getD .none
def tupNE : PyData → Bool
  | .tuple (_ :: _) => true
  | _ => false
def noTup : PyData → Bool
  | .tuple _ => false
  | .none => false
  | _ => true
def notNone : PyData → Bool
  | .none => false
  | _ => true
def leD (a b : D) : Bool := PySem.W.dataLe false encD a b
def sortD (xs : List D) : Option D := match mapO pyOf xs with
  | some ps => if (allAlike ps && ps.all notNone && (ps.all tupNE || ps.all noTup)) = true then some (.lst (xs.mergeSort leD)) else none
  | none => none
/-- min, max of a list of alike data: the first of several -/
def bestL (mx : Bool) (x : D) (xs : List D) : D := xs.foldl (fun a y => if (if mx = true then PySem.W.dataLt (encD a) (encD y) else PySem.W.dataLt (encD y) (encD a)) = true then y else a) x
def bestD1 (mx : Bool) : List D → Option D
  | [] => none
  | x :: xs => match mapO pyOf (x :: xs) with
    | some ps => if (allAlike ps && ps.all notNone) = true then (match bestL mx x xs with
      | .tup ys => some (.tup ys)
      | .int i => some (.int i)
      | _ => none) else none
    | none => none
def alikeB (x y : PyData) : Bool := PySem.W.alike x x && PySem.W.alike x y && PySem.W.alike y x && PySem.W.alike y y
def biD : Bi → List D → Option D
  | .len, [a] => (lenD a).map fun n => .int n
  | .abs, [.int i] => some (.int (if i < 0 then -i else i))
  | .min2, [.int i, .int j] => some (.int (if j < i then j else i))
  | .max2, [.int i, .int j] => some (.int (if j > i then j else i))
  | .min2, [.tup xs, .tup ys] => match pyOf (.tup xs), pyOf (.tup ys) with
    | some x, some y => if alikeB x y = true then (if PySem.W.dataLt y x = true then some (.tup ys) else some (.tup xs)) else none
    | _, _ => none
  | .max2, [.tup xs, .tup ys] => match pyOf (.tup xs), pyOf (.tup ys) with
    | some x, some y => if alikeB x y = true then (if PySem.W.dataLt x y = true then some (.tup ys) else some (.tup xs)) else none
    | _, _ => none
  | .int, [.int i] => some (.int i)
  | .int, [.bl b] => some (.int (if b then 1 else 0))
  | .str, [.int i] => if i.natAbs.log2 < 1920 ∧ (Str.ofString (toString i)).length ≤ lim then some (.str (toString i)) else none
  | .str, [.non] => some (.str "None")
  | .str, [.bl b] => some (.str (if b then "True" else "False"))
  | .str, [.str x] => some (.str x)
  | .str, [.tup xs] => strD (.tup xs)
  | .str, [.lst xs] => strD (.lst xs)
  | .ord, [.str x] => if x.length = 1 then some (.int (x.cps.getD 0 0 : Nat)) else none
  | .sum, [.lst xs] => (mapO asInt xs).map fun ns => .int ns.sum
  | .all, [.lst xs] => (mapO asBl xs).map fun bs => .bl (bs.all id)
  | .any, [.lst xs] => (mapO asBl xs).map fun bs => .bl (bs.any id)
  | .sorted, [.lst xs] => sortD xs
  | .min1, [.lst xs] => bestD1 false xs
  | .max1, [.lst xs] => bestD1 true xs
  | .list, [.lst xs] => some (.lst xs)
  | .list, [.tup xs] => some (.lst xs)
  | .tuple, [.lst xs] => some (.tup xs)
  | .tuple, [.tup xs] => some (.tup xs)
  | _, _ => none
def smD : Sm → D → List D → Option D
  | .join, .str s, [.lst xs] => match mapO asStr xs with
    | some ys => if (ys.map (·.length)).sum + ys.length * s.length ≤ lim ∧ (Str.join s ys).length ≤ lim then some (.str (Str.join s ys)) else none
    | none => none
  | .count, .str x, [.str y] => some (.int (Txt.count x y))
  | _, _, _ => none
def ssetD (d : D) : Option D := match items d with
  | some xs => match mapO asInt xs with
    | some ns => if ns.length < 4000 ∧ (srtU ns).length < 63 then some (.lst ((srtU ns).map .int)) else none
    | none => none
  | none => none

mutual
/-- no cell stands in it -/
def noRef : D → Bool
  | .tup xs => noRefL xs
  | .lst xs => noRefL xs
  | .dct _ _ _ => false
  | .ref _ => false
  | _ => true
def noRefL : List D → Bool
  | [] => true
  | x :: r => noRef x && noRefL r
end
/-- of no parts -/
def flatD : D → Bool
  | .non => true
  | .bl _ => true
  | .int _ => true
  | .str _ => true
  | _ => false

def dkey : D → Option L2.Key
  | .int i => some (Sum.inl i)
  | .str x => some (Sum.inr x)
  | _ => none
def dlk : List D → List D → L2.Key → Option D
  | k :: ks, v :: vs, q => if dkey k = some q then some v else dlk ks vs q
  | _, _, _ => none
def dst : List D → List D → L2.Key → D → List D
  | k :: ks, v :: vs, q, z => (if dkey k = some q then z else v) :: dst ks vs q z
  | _, _, _, _ => []
def dhas (ks : List D) (q : L2.Key) : Bool := ks.any fun k => decide (dkey k = some q)
/-- the dict in a cell -/
def dcell (h : Hs) : D → Option (List D × List D)
  | .ref n => match h[n]? with
    | some (.dct false ks vs) => some (ks, vs)
    | _ => none
  | _ => none
def dputH (o k v : D) (h : Hs) : Option Hs := match o, dcell h o, dkey k with
  | .ref n, some (ks, vs), some q => if ks.length < lim then some (h.set n (if dhas ks q = true then .dct false ks (dst ks vs q v) else .dct false (ks ++ [k]) (vs ++ [v]))) else none
  | _, _, _ => none

/-- names, arguments, cells: what a def hands back -/
abbrev FT := String → List D → Hs → Option (D × Hs)
def getV : Option Sl → Option D
  | some (.val d) => some d
  | _ => none
def getB : Option Sl → Option D
  | some (.own xs) => some (.lst xs)
  | some (.ownd t ks vs) => some (.dct t ks vs)
  | _ => none
def setMany : Rho → List Nat → List D → Option Rho
  | ρ, [], [] => some ρ
  | ρ, i :: is, d :: ds => setMany (ρ.set i (.val d)) is ds
  | _, _, _ => none
def bindT : Tg → D → Rho → Option Rho
  | .nm i, d, ρ => some (ρ.set i (.val d))
  | .tp is, .tup ds, ρ => setMany ρ is ds
  | .tp _, _, _ => none
def wipeR (ρ : Rho) : List Nat → Rho
  | [] => ρ
  | v :: vs => (wipeR ρ vs).set v .un
/-- a comprehension's turns -/
def compL (step : D → Hs → Option (Option D × Hs)) : List D → Hs → Option (List D × Hs)
  | [], h => some ([], h)
  | x :: r, h => do
    let (o, h1) ← step x h
    let (ys, h2) ← compL step r h1
    match o with
    | some y => some (y :: ys, h2)
    | none => some (ys, h2)
def pairs (xs ys : List D) : List D := List.zipWith (fun x y => .tup [x, y]) xs ys
def rngL (lo : Int) (n : Nat) : List D := (List.range n).map fun i => D.int (lo + (i : Nat))
def smallI (i : Int) : Bool := decide (-(2 ^ 62) ≤ i) && decide (i < 2 ^ 62)
/-- what is walked -/
def overD : D → Option (List D)
  | .lst xs => some xs
  | .tup xs => some xs
  | .str x => some (x.cps.toList.map fun c => .str ⟨#[c]⟩)
  | _ => none
def enumD (a : D) : Option (List D) := match overD a with
  | some xs => some (pairs (rngL 0 xs.length) xs)
  | none => none
def allocD : D → Hs → Option (D × Hs)
  | .lst xs, h => some (.ref h.length, h ++ [.lst xs])
  | .dct t ks vs, h => some (.ref h.length, h ++ [.dct t ks vs])
  | _, _ => none
/-- a new list or dict, held by no one -/
def X.fresh : X → Bool
  | .lst _ => true
  | .comp _ _ _ _ _ => true
  | .sl _ _ _ => true
  | .bin _ _ _ => true
  | .bi _ _ => true
  | .sset _ => true
  | .sm _ _ _ => true
  | .pcall fr _ _ => fr
  | .rev _ => true
  | .trng _ => true
  | .lrng _ => true
  | _ => false
def X.isBor : X → Bool
  | .bor _ => true
  | _ => false
/-- a slice's end: left out, or a number -/
def optX : X → D → Option (Option Int)
  | .non, .non => some none
  | .non, _ => none
  | _, .int i => some (some i)
  | _, _ => none
def It.two : It → Bool
  | .enum _ => true
  | .zip _ _ => true
  | _ => false
def Tg.isTp : Tg → Bool
  | .tp _ => true
  | _ => false
mutual
def evE (Γ : FT) : X → Rho → Hs → Option (D × Hs)
  | .non, _, h => some (.non, h)
  | .bl b, _, h => some (.bl b, h)
  | .int i, _, h => some (.int i, h)
  | .str x, _, h => some (.str x, h)
  | .var i, ρ, h => (getV ρ[i]?).map fun d => (d, h)
  | .bor i, ρ, h => (getB ρ[i]?).map fun d => (d, h)
  | .glob _ g, _, h => some (g.d, h)
  | .bin o a b, ρ, h => do
    let (x, h1) ← evE Γ a ρ h
    let (y, h2) ← evE Γ b ρ h1
    (binD o x y).map fun z => (z, h2)
  | .neg a, ρ, h => do
    let (x, h1) ← evE Γ a ρ h
    (negD x).map fun z => (z, h1)
  | .cmp o a b, ρ, h => do
    let (x, h1) ← evE Γ a ρ h
    let (y, h2) ← evE Γ b ρ h1
    (cmpD o x y).map fun z => (.bl z, h2)
  | .cmp2 o p a b c, ρ, h => do
    let (x, h1) ← evE Γ a ρ h
    let (y, h2) ← evE Γ b ρ h1
    let k ← cmpD o x y
    if k = true then do
      let (z, h3) ← evE Γ c ρ h2
      (cmpD p y z).map fun z => (.bl z, h3)
    else some (.bl false, h2)
  | .both k xs, ρ, h => evAnd Γ k xs ρ h
  | .not a, ρ, h => do
    let (x, h1) ← evE Γ a ρ h
    (asBl x).map fun b => (.bl (!b), h1)
  | .ife c a b, ρ, h => do
    let (x, h1) ← evE Γ c ρ h
    let k ← asBl x
    if k = true then evE Γ a ρ h1 else evE Γ b ρ h1
  | .idx a i, ρ, h => do
    let (x, h1) ← evE Γ a ρ h
    let (y, h2) ← evE Γ i ρ h1
    match x with
    | .ref n => match h2[n]? with
      | some (.lst xs) => (idxD (.lst xs) y).map fun z => (z, h2)
      | _ => none
    | _ => (idxD x y).map fun z => (z, h2)
  | .sl a lo hi, ρ, h => do
    let (x, h1) ← evE Γ a ρ h
    let (l, h2) ← evE Γ lo ρ h1
    let (u, h3) ← evE Γ hi ρ h2
    match optX lo l, optX hi u with
    | some l, some u => (cutD x l u).map fun z => (z, h3)
    | _, _ => none
  | .tup xs, ρ, h => do
    let (ds, h1) ← evL Γ xs ρ h
    if ds.length ≤ lim then some (.tup ds, h1) else none
  | .lst xs, ρ, h => do
    let (ds, h1) ← evL Γ xs ρ h
    if ds.length ≤ lim then some (.lst ds, h1) else none
  | .call f xs, ρ, h => do
    let (ds, h1) ← evL Γ xs ρ h
    Γ f ds h1
  | .pcall _ f xs, ρ, h => do
    let (ds, h1) ← evL Γ xs ρ h
    if noRefL ds = true then do
      let (r, _) ← Γ f ds []
      if noRef r = true ∧ (xs.any X.isBor = false ∨ flatD r = true) then some (r, h1) else none
    else none
  | .rev a, ρ, h => do
    let (x, h1) ← evE Γ a ρ h
    (revD x).map fun z => (z, h1)
  | .dnew, _, h => some (.ref h.length, h ++ [.dct false [] []])
  | .dnew1 k v, ρ, h => do
    let (x, h1) ← evE Γ k ρ h
    let (y, h2) ← evE Γ v ρ h1
    let _ ← dkey x
    some (.ref h2.length, h2 ++ [.dct false [x] [y]])
  | .dget a k, ρ, h => do
    let (x, h1) ← evE Γ a ρ h
    let (y, h2) ← evE Γ k ρ h1
    let c ← dcell h2 x
    let q ← dkey y
    (dlk c.1 c.2 q).map fun z => (z, h2)
  | .din neg k a, ρ, h => do
    let (y, h1) ← evE Γ k ρ h
    let (x, h2) ← evE Γ a ρ h1
    let c ← dcell h2 x
    let q ← dkey y
    some (.bl (neg != (dlk c.1 c.2 q).isSome), h2)
  | .dget2 a k d, ρ, h => do
    let (x, h1) ← evE Γ a ρ h
    let _ ← dcell h1 x
    let (y, h2) ← evE Γ k ρ h1
    let (z, h3) ← evE Γ d ρ h2
    let c ← dcell h3 x
    let q ← dkey y
    some ((dlk c.1 c.2 q).getD z, h3)
  | .trng a, ρ, h => do
    let (x, h1) ← evE Γ a ρ h
    let i ← asInt x
    if smallI i = true ∧ i.toNat ≤ lim then some (.tup (rngL 0 i.toNat), h1) else none
  | .lrng a, ρ, h => do
    let (x, h1) ← evE Γ a ρ h
    let i ← asInt x
    if smallI i = true ∧ i.toNat ≤ lim then some (.lst (rngL 0 i.toNat), h1) else none
  | .bi b xs, ρ, h => do
    let (ds, h1) ← evL Γ xs ρ h
    (biD b ds).map fun z => (z, h1)
  | .isin a ts, ρ, h => do
    let (x, h1) ← evE Γ a ρ h
    (tyAny ts x).map fun z => (.bl z, h1)
  | .sset a, ρ, h => do
    let (x, h1) ← evE Γ a ρ h
    (ssetD x).map fun z => (z, h1)
  | .sm m a xs, ρ, h => do
    let (x, h1) ← evE Γ a ρ h
    let (ds, h2) ← evL Γ xs ρ h1
    (smD m x ds).map fun z => (z, h2)
  | .comp own tg it c e, ρ, h => do
    let (xs, h1) ← evI Γ it ρ h
    let (ys, h2) ← compL (fun d h => do
      let ρ' ← bindT tg d (wipeR ρ own)
      let (k, h1) ← evE Γ c ρ' h
      let b ← asBl k
      if b = true then (evE Γ e ρ' h1).map fun r => (some r.1, r.2) else some (none, h1)) xs h1
    some (.lst ys, h2)
  | .alloc a, ρ, h => do
    let (x, h1) ← evE Γ a ρ h
    allocD x h1
def evL (Γ : FT) : List X → Rho → Hs → Option (List D × Hs)
  | [], _, h => some ([], h)
  | x :: r, ρ, h => do
    let (d, h1) ← evE Γ x ρ h
    let (ds, h2) ← evL Γ r ρ h1
    some (d :: ds, h2)
/-- and, or of truths -/
def evAnd (Γ : FT) (k : Bool) : List X → Rho → Hs → Option (D × Hs)
  | [], _, _ => none
  | x :: r, ρ, h => do
    let (d, h1) ← evE Γ x ρ h
    let b ← asBl d
    match r with
    | [] => some (.bl b, h1)
    | _ :: _ => if b = k then evAnd Γ k r ρ h1 else some (.bl b, h1)
/-- the items that are walked -/
def evI (Γ : FT) : It → Rho → Hs → Option (List D × Hs)
  | .over a, ρ, h => do
    let (x, h1) ← evE Γ a ρ h
    (overD x).map fun xs => (xs, h1)
  | .rng a, ρ, h => do
    let (x, h1) ← evE Γ a ρ h
    let i ← asInt x
    if smallI i = true ∧ i.toNat ≤ lim then some (rngL 0 i.toNat, h1) else none
  | .rng2 a b, ρ, h => do
    let (x, h1) ← evE Γ a ρ h
    let (y, h2) ← evE Γ b ρ h1
    let i ← asInt x
    let j ← asInt y
    if smallI i = true ∧ smallI j = true ∧ (j - i).toNat ≤ lim then some (rngL i (j - i).toNat, h2) else none
  | .enum a, ρ, h => do
    let (x, h1) ← evE Γ a ρ h
    (enumD x).map fun xs => (xs, h1)
  | .zip a b, ρ, h => do
    let (x, h1) ← evE Γ a ρ h
    let (y, h2) ← evE Γ b ρ h1
    let xs ← items x
    let ys ← items y
    some (pairs xs ys, h2)
end

def muL : Mu → List D → List D → Option (List D × D)
  | .append, xs, [y] => if xs.length < lim then some (xs ++ [y], .non) else none
  | .extend, xs, [.lst ys] => if xs.length + ys.length ≤ lim then some (xs ++ ys, .non) else none
  | .extend, xs, [.tup ys] => if xs.length + ys.length ≤ lim then some (xs ++ ys, .non) else none
  | .pop, xs, [] => match xs[xs.length - 1]? with
    | some y => some (xs.dropLast, y)
    | none => none
  | .popat, xs, [.int i] => match L2.ixN xs.length i with
    | some k => match xs[k]? with
      | some y => some (xs.eraseIdx k, y)
      | none => none
    | none => none
  | .reverse, xs, [] => some (xs.reverse, .non)
  | .insert, xs, [.int i, y] => if xs.length < lim ∧ 0 ≤ i ∧ i < 2 ^ 62 then some (xs.take i.toNat ++ [y] ++ xs.drop i.toNat, .non) else none
  | .setix, xs, [v, .int i] => match L2.ixN xs.length i with
    | some k => some (xs.set k v, .non)
    | none => none
  | _, _, _ => none
/-- o[k] = v of a cell -/
def csetD (o k v : D) (h : Hs) : Option Hs := match o, k with
  | .ref n, .int i => match h[n]? with
    | some (.lst xs) => match L2.ixN xs.length i with
      | some j => some (h.set n (.lst (xs.set j v)))
      | none => none
    | _ => none
  | _, _ => none
abbrev SR := Option (Fl × Rho × Hs)
/-- a for's turns -/
def forL (bind : D → Rho → Option Rho) (body : Rho → Hs → SR) : List D → Rho → Hs → SR
  | [], ρ, h => some (.nx, ρ, h)
  | x :: r, ρ, h => do
    let ρ1 ← bind x ρ
    let (f, ρ2, h2) ← body ρ1 h
    match f with
    | .nx => forL bind body r ρ2 h2
    | .ct => forL bind body r ρ2 h2
    | .bk => some (.nx, ρ2, h2)
    | .rt d => some (.rt d, ρ2, h2)
    | .rf d => some (.rf d, ρ2, h2)
def whileL (test : Rho → Hs → Option (D × Hs)) (body : Rho → Hs → SR) : Nat → Rho → Hs → SR
  | 0, _, _ => none
  | n + 1, ρ, h => do
    let (t, h1) ← test ρ h
    let b ← asBl t
    if b = true then do
      let (f, ρ2, h2) ← body ρ h1
      match f with
      | .nx => whileL test body n ρ2 h2
      | .ct => whileL test body n ρ2 h2
      | .bk => some (.nx, ρ2, h2)
      | .rt d => some (.rt d, ρ2, h2)
      | .rf d => some (.rf d, ρ2, h2)
    else some (.nx, ρ, h1)
/-- several names, some of which alone hold a new list -/
def setPar : Rho → List Nat → List Bool → List D → Option Rho
  | ρ, [], [], [] => some ρ
  | ρ, i :: is, false :: fl, d :: ds => setPar (ρ.set i (.val d)) is fl ds
  | ρ, i :: is, true :: fl, .lst es :: ds => setPar (ρ.set i (.own es)) is fl ds
  | _, _, _, _ => none
def isSeqD : D → Bool
  | .lst _ => true
  | .dct _ _ _ => true
  | _ => false
def fuel : Nat := 1000000000
mutual
def evS (Γ : FT) : S → Rho → Hs → SR
  | .expr x, ρ, h => do
    let (_, h1) ← evE Γ x ρ h
    some (.nx, ρ, h1)
  | .asg tg x, ρ, h => do
    let (d, h1) ← evE Γ x ρ h
    let ρ1 ← bindT tg d ρ
    some (.nx, ρ1, h1)
  | .own i x, ρ, h => do
    let (d, h1) ← evE Γ x ρ h
    match d with
    | .lst xs => if x.fresh = true then some (.nx, ρ.set i (.own xs), h1) else none
    | _ => none
  | .mut m i xs, ρ, h => do
    let (ds, h1) ← evL Γ xs ρ h
    match ρ[i]? with
    | some (.own ys) => (muL m ys ds).map fun r => (.nx, ρ.set i (.own r.1), h1)
    | _ => none
  | .popv tg m i xs, ρ, h => do
    let (ds, h1) ← evL Γ xs ρ h
    match ρ[i]? with
    | some (.own ys) => do
      let r ← muL m ys ds
      let ρ1 ← bindT tg r.2 (ρ.set i (.own r.1))
      some (.nx, ρ1, h1)
    | _ => none
  | .cset o k v, ρ, h => do
    let (z, h1) ← evE Γ v ρ h
    let (x, h2) ← evE Γ o ρ h1
    let (y, h3) ← evE Γ k ρ h2
    (csetD x y z h3).map fun h4 => (.nx, ρ, h4)
  | .dput o k v, ρ, h => do
    let (z, h1) ← evE Γ v ρ h
    let (x, h2) ← evE Γ o ρ h1
    let (y, h3) ← evE Γ k ρ h2
    (dputH x y z h3).map fun h4 => (.nx, ρ, h4)
  | .ife c a b, ρ, h => do
    let (x, h1) ← evE Γ c ρ h
    let k ← asBl x
    if k = true then evSs Γ a ρ h1 else evSs Γ b ρ h1
  | .fors tg it b, ρ, h => do
    let (xs, h1) ← evI Γ it ρ h
    forL (bindT tg) (evSs Γ b) xs ρ h1
  | .whil c b, ρ, h => whileL (evE Γ c) (evSs Γ b) fuel ρ h
  | .par is fl xs, ρ, h => do
    let (ds, h1) ← evL Γ xs ρ h
    let ρ1 ← setPar ρ is fl ds
    some (.nx, ρ1, h1)
  | .reto i, ρ, h => match ρ[i]? with
    | some (.own xs) => some (.rf (.lst xs), ρ, h)
    | _ => none
  | .retf x, ρ, h => do
    let (d, h1) ← evE Γ x ρ h
    if x.fresh = true ∨ isSeqD d = false then some (.rf d, ρ, h1) else none
  | .ret x, ρ, h => do
    let (d, h1) ← evE Γ x ρ h
    some (.rt d, ρ, h1)
  | .retn, ρ, h => some (.rt .non, ρ, h)
  | .brk, ρ, h => some (.bk, ρ, h)
  | .cnt, ρ, h => some (.ct, ρ, h)
  | .pas, ρ, h => some (.nx, ρ, h)
  | .frz i, ρ, h => match ρ[i]? with
    | some (.own xs) => some (.nx, ρ.set i (.val (.lst xs)), h)
    | some (.ownd t ks vs) => some (.nx, ρ.set i (.val (.dct t ks vs)), h)
    | _ => none
def evSs (Γ : FT) : List S → Rho → Hs → SR
  | [], ρ, h => some (.nx, ρ, h)
  | s :: r, ρ, h => do
    let (f, ρ1, h1) ← evS Γ s ρ h
    match f with
    | .nx => evSs Γ r ρ1 h1
    | f => some (f, ρ1, h1)
end

structure Fn where
  np : Nat
  nl : Nat
  body : List S
  fr : Bool := false
def callF (fns : List (String × Fn)) : Nat → FT
  | 0 => fun _ _ _ => none
  | n + 1 => fun f ds h => match fns.lookup f with
    | none => none
    | some fn => if ds.length = fn.np then
        match evSs (callF fns n) fn.body (ds.map .val ++ List.replicate (fn.nl - fn.np) .un) h with
        | some (.nx, _, h1) => some (.non, h1)
        | some (.rt d, _, h1) => if fn.fr = true then none else some (d, h1)
        | some (.rf d, _, h1) => some (d, h1)
        | _ => none
      else none
end Ev

namespace Ev
open PySem L2

theorem lim_le : lim ≤ sizeLine := by rw [sizeLine_eq]; decide
def keyD : Key → D
  | .inl i => .int i
  | .inr x => .str x
/-- the cells that live, by their addresses -/
def liveA : List Cell → List Addr → List Addr
  | .dead :: h, _ :: L => liveA h L
  | _ :: h, a :: L => a :: liveA h L
  | _, _ => []
/-- a tuple of the written part -/
def KTup (K : PySem.W.Frag) (a : Addr) (xs : List V) : Prop :=
  ∃ (o : Obj) (its : Array Value) (n : Nat), K.lookup a = some o ∧ o.cls = .type "tuple" ∧
    o.data = .seq its n ∧ its.size ≤ sizeLine ∧ Vals xs its.toList
def TupAt (K : PySem.W.Frag) (M : List Addr) (H : Hp) (a : Addr) (vs : List V) : Prop :=
  (H a = some (.tup vs) ∧ a ∉ M) ∨ KTup K a vs
theorem TupAt.sq {K : PySem.W.Frag} {M : List Addr} {H : Hp} {a : Addr} {vs : List V} (h : TupAt K M H a vs) : SqT K H a vs := by
  rcases h with h | h
  · exact .inl (.inl h.1)
  · exact .inr h
/-- a list of the written part -/
def KLst (K : PySem.W.Frag) (a : Addr) (xs : List V) : Prop :=
  ∃ (o : Obj) (its : Array Value) (n : Nat), K.lookup a = some o ∧ o.cls = .type "list" ∧ o.dict = none ∧
    o.data = .seq its n ∧ its.size ≤ sizeLine ∧ Vals xs its.toList
/-- the law's list -/
def ScrAt (K : PySem.W.Frag) (M : List Addr) (H : Hp) (a : Addr) (vs : List V) : Prop :=
  ((∃ o, H a = some (.frz o (.lst vs))) ∧ a ∉ M) ∨ KLst K a vs
theorem ScrAt.sq {K : PySem.W.Frag} {M : List Addr} {H : Hp} {a : Addr} {vs : List V} (h : ScrAt K M H a vs) : SqL K H a vs := by
  rcases h with h | h
  · exact .inl (.inr h.1)
  · exact .inr h
/-- a dict's pairs at an address -/
def DctAt (H : Hp) (a : Addr) (t : Bool) (ks : List D) (vs : List V) : Prop :=
  (t = false ∧ ∃ kvs : List (Key × V), Rd H a (.dK kvs) ∧ ks = kvs.map (fun kv => keyD kv.1) ∧ vs = kvs.map (·.2)) ∨
  (t = true ∧ ∃ kvs : List (List Key × V), Rd H a (.dT kvs) ∧ ks = kvs.map (fun kv => D.tup (kv.1.map keyD)) ∧ vs = kvs.map (·.2))
mutual
/-- v is the datum d in H; M: what may change -/
def Rep (K : PySem.W.Frag) (M L : List Addr) (H : Hp) : D → V → Prop
  | .non, v => v = .non
  | .bl b, v => v = .bl b
  | .int i, v => v = .int i
  | .str x, v => v = .str x ∧ x.length ≤ sizeLine
  | .tup ds, v => ∃ a vs, v = .ref a ∧ TupAt K M H a vs ∧ vs.length ≤ sizeLine ∧ RepL K M L H ds vs
  | .lst ds, v => ∃ a vs, v = .ref a ∧ H a = some (.lst vs) ∧ a ∉ M ∧ vs.length ≤ sizeLine ∧ RepL K M L H ds vs
  | .dct t ks ds, v => ∃ a vs, v = .ref a ∧ DctAt H a t ks vs ∧ a ∉ M ∧ RepL K M L H ds vs
  | .ref n, v => ∃ a, v = .ref a ∧ L[n]? = some a
  | .scr ns, v => ∃ a, v = .ref a ∧ ScrAt K M H a (ns.map V.int)
def RepL (K : PySem.W.Frag) (M L : List Addr) (H : Hp) : List D → List V → Prop
  | [], vs => vs = []
  | d :: ds, vs => ∃ v r, vs = v :: r ∧ Rep K M L H d v ∧ RepL K M L H ds r
end
section
variable {K : PySem.W.Frag} {M M' L L' : List Addr} {H H' : Hp}
theorem rd_move {a : Addr} {u : HO} (h : Rd H a u) (k : ∀ o, H a = some o → H' a = some o) : Rd H' a u := by
  rcases h with h | ⟨o, h⟩
  · exact .inl (k _ h)
  · exact .inr ⟨o, k _ h⟩
theorem rd_some {a : Addr} {u : HO} (h : Rd H a u) : ∃ o, H a = some o := by
  rcases h with h | ⟨o, h⟩
  · exact ⟨_, h⟩
  · exact ⟨_, h⟩
theorem DctAt.move {a : Addr} {t : Bool} {ks : List D} {vs : List V} (h : DctAt H a t ks vs) (k : ∀ o, H a = some o → H' a = some o) : DctAt H' a t ks vs := by
  rcases h with ⟨e, kvs, r, q⟩ | ⟨e, kvs, r, q⟩
  · exact .inl ⟨e, kvs, rd_move r k, q⟩
  · exact .inr ⟨e, kvs, rd_move r k, q⟩
theorem DctAt.some {a : Addr} {t : Bool} {ks : List D} {vs : List V} (h : DctAt H a t ks vs) : ∃ o, H a = some o := by
  rcases h with ⟨e, kvs, r, q⟩ | ⟨e, kvs, r, q⟩
  · exact rd_some r
  · exact rd_some r
/-- what carries data from one heap to another -/
structure Mv (M M' L L' : List Addr) (H H' : Hp) : Prop where
  at_ : ∀ a o, H a = some o → a ∉ M → H' a = some o ∧ a ∉ M'
  ls : ∀ (n : Nat) a, L[n]? = some a → L'[n]? = some a
mutual
theorem Rep.mv (m : Mv M M' L L' H H') : ∀ (d : D) (v : V), Rep K M L H d v → Rep K M' L' H' d v
  | .non, _, h => by simpa only [Rep] using h
  | .bl _, _, h => by simpa only [Rep] using h
  | .int _, _, h => by simpa only [Rep] using h
  | .str _, _, h => by simpa only [Rep] using h
  | .tup ds, _, h => by
    simp only [Rep] at h ⊢
    obtain ⟨a, vs, e, t, z, r⟩ := h
    refine ⟨a, vs, e, ?_, z, RepL.mv m ds vs r⟩
    rcases t with ⟨t, n⟩ | t
    · exact .inl (m.at_ a _ t n)
    · exact .inr t
  | .lst ds, _, h => by
    simp only [Rep] at h ⊢
    obtain ⟨a, vs, e, t, n, z, r⟩ := h
    exact ⟨a, vs, e, (m.at_ a _ t n).1, (m.at_ a _ t n).2, z, RepL.mv m ds vs r⟩
  | .dct t ks ds, _, h => by
    simp only [Rep] at h ⊢
    obtain ⟨a, vs, e, t, n, r⟩ := h
    obtain ⟨o, ho⟩ := t.some
    exact ⟨a, vs, e, t.move fun o h => (m.at_ a o h n).1, (m.at_ a o ho n).2, RepL.mv m ds vs r⟩
  | .ref n, _, h => by
    simp only [Rep] at h ⊢
    obtain ⟨a, e, q⟩ := h
    exact ⟨a, e, m.ls n a q⟩
  | .scr ns, _, h => by
    simp only [Rep] at h ⊢
    obtain ⟨a, e, q⟩ := h
    refine ⟨a, e, ?_⟩
    rcases q with ⟨⟨o, q⟩, n⟩ | q
    · exact .inl ⟨⟨o, (m.at_ a _ q n).1⟩, (m.at_ a _ q n).2⟩
    · exact .inr q
theorem RepL.mv (m : Mv M M' L L' H H') : ∀ (ds : List D) (vs : List V), RepL K M L H ds vs → RepL K M' L' H' ds vs
  | [], _, h => by simpa only [RepL] using h
  | d :: ds, _, h => by
    simp only [RepL] at h ⊢
    obtain ⟨v, r, e, h1, h2⟩ := h
    exact ⟨v, r, e, Rep.mv m d v h1, RepL.mv m ds r h2⟩
end
theorem RepL.length : ∀ {ds : List D} {vs : List V}, RepL K M L H ds vs → vs.length = ds.length
  | [], _, h => by simp only [RepL] at h; rw [h]; rfl
  | d :: ds, _, h => by
    simp only [RepL] at h
    obtain ⟨v, r, rfl, _, h2⟩ := h
    rw [List.length_cons, List.length_cons, RepL.length h2]
theorem RepL.append : ∀ {ds es : List D} {vs ws : List V}, RepL K M L H ds vs → RepL K M L H es ws → RepL K M L H (ds ++ es) (vs ++ ws)
  | [], _, _, _, h, h' => by simp only [RepL] at h; subst h; exact h'
  | d :: ds, _, _, _, h, h' => by
    simp only [RepL] at h
    obtain ⟨v, r, rfl, h1, h2⟩ := h
    show RepL K M L H (d :: (ds ++ _)) (v :: (r ++ _))
    simp only [RepL]
    exact ⟨v, _, rfl, h1, RepL.append h2 h'⟩
theorem RepL.get : ∀ {ds : List D} {vs : List V} {i : Nat} {d : D}, RepL K M L H ds vs → ds[i]? = some d → ∃ v, vs[i]? = some v ∧ Rep K M L H d v
  | [], _, _, _, _, e => by simp at e
  | x :: ds, _, 0, d, h, e => by
    simp only [RepL] at h
    obtain ⟨v, r, rfl, h1, h2⟩ := h
    simp at e
    subst e
    exact ⟨v, by simp, h1⟩
  | x :: ds, _, i + 1, d, h, e => by
    simp only [RepL] at h
    obtain ⟨v, r, rfl, h1, h2⟩ := h
    simp at e
    obtain ⟨w, q1, q2⟩ := RepL.get (i := i) h2 e
    exact ⟨w, by simpa using q1, q2⟩
theorem RepL.get' : ∀ {ds : List D} {vs : List V} {i : Nat} {v : V}, RepL K M L H ds vs → vs[i]? = some v → ∃ d, ds[i]? = some d ∧ Rep K M L H d v
  | [], _, _, _, h, e => by simp only [RepL] at h; subst h; simp at e
  | x :: ds, _, 0, d, h, e => by
    simp only [RepL] at h
    obtain ⟨v, r, rfl, h1, h2⟩ := h
    simp at e
    subst e
    exact ⟨x, by simp, h1⟩
  | x :: ds, _, i + 1, d, h, e => by
    simp only [RepL] at h
    obtain ⟨v, r, rfl, h1, h2⟩ := h
    simp at e
    obtain ⟨w, q1, q2⟩ := RepL.get' (i := i) h2 e
    exact ⟨w, by simpa using q1, q2⟩
theorem RepL.set : ∀ {ds : List D} {vs : List V} {i : Nat} {d : D} {v : V}, RepL K M L H ds vs → Rep K M L H d v → RepL K M L H (ds.set i d) (vs.set i v)
  | [], _, _, _, _, h, _ => by simp only [RepL] at h; subst h; simp [RepL]
  | x :: ds, _, 0, d, v, h, q => by
    simp only [RepL] at h
    obtain ⟨w, r, rfl, h1, h2⟩ := h
    simp only [List.set, RepL]
    exact ⟨v, r, rfl, q, h2⟩
  | x :: ds, _, i + 1, d, v, h, q => by
    simp only [RepL] at h
    obtain ⟨w, r, rfl, h1, h2⟩ := h
    simp only [List.set, RepL]
    exact ⟨w, _, rfl, h1, RepL.set h2 q⟩
theorem RepL.drop : ∀ {ds : List D} {vs : List V} (n : Nat), RepL K M L H ds vs → RepL K M L H (ds.drop n) (vs.drop n)
  | _, _, 0, h => by simpa using h
  | [], _, n + 1, h => by simp only [RepL] at h; subst h; simp [RepL]
  | x :: ds, _, n + 1, h => by
    simp only [RepL] at h
    obtain ⟨w, r, rfl, h1, h2⟩ := h
    simpa using RepL.drop n h2
theorem RepL.take : ∀ {ds : List D} {vs : List V} (n : Nat), RepL K M L H ds vs → RepL K M L H (ds.take n) (vs.take n)
  | _, _, 0, h => by simp [RepL]
  | [], _, n + 1, h => by simp only [RepL] at h; subst h; simp [RepL]
  | x :: ds, _, n + 1, h => by
    simp only [RepL] at h
    obtain ⟨w, r, rfl, h1, h2⟩ := h
    simp only [List.take_succ_cons, RepL]
    exact ⟨w, _, rfl, h1, RepL.take n h2⟩
theorem RepL.erase : ∀ {ds : List D} {vs : List V} (n : Nat), RepL K M L H ds vs → RepL K M L H (ds.eraseIdx n) (vs.eraseIdx n)
  | [], _, n, h => by simp only [RepL] at h; subst h; simp [RepL]
  | x :: ds, _, 0, h => by
    simp only [RepL] at h
    obtain ⟨w, r, rfl, h1, h2⟩ := h
    simpa using h2
  | x :: ds, _, n + 1, h => by
    simp only [RepL] at h
    obtain ⟨w, r, rfl, h1, h2⟩ := h
    simp only [List.eraseIdx_cons_succ, RepL]
    exact ⟨w, _, rfl, h1, RepL.erase n h2⟩
theorem RepL.reverse : ∀ {ds : List D} {vs : List V}, RepL K M L H ds vs → RepL K M L H ds.reverse vs.reverse
  | [], _, h => by simp only [RepL] at h; subst h; simp [RepL]
  | x :: ds, _, h => by
    simp only [RepL] at h
    obtain ⟨w, r, rfl, h1, h2⟩ := h
    rw [List.reverse_cons, List.reverse_cons]
    refine RepL.append (RepL.reverse h2) ?_
    simp only [RepL]
    exact ⟨w, [], rfl, h1, rfl⟩
theorem RepL.rep {ds : List D} {vs : List V} (h : RepL K M L H ds vs) : ∀ k : Nat, RepL K M L H (List.replicate k ds).flatten (List.replicate k vs).flatten
  | 0 => by simp [RepL]
  | k + 1 => by
    rw [List.replicate_succ, List.replicate_succ, List.flatten_cons, List.flatten_cons]
    exact RepL.append h (RepL.rep h k)
theorem RepL.one {d : D} {v : V} (h : Rep K M L H d v) : RepL K M L H [d] [v] := by
  simp only [RepL]
  exact ⟨v, [], rfl, h, rfl⟩
theorem RepL.cons {d : D} {v : V} {ds : List D} {vs : List V} (h : Rep K M L H d v) (h' : RepL K M L H ds vs) : RepL K M L H (d :: ds) (v :: vs) := by
  simp only [RepL]
  exact ⟨v, vs, rfl, h, h'⟩
theorem RepL.nil : RepL K M L H [] [] := by simp only [RepL]
theorem RepL.nil_inv {vs : List V} (h : RepL K M L H [] vs) : vs = [] := by simpa only [RepL] using h
theorem RepL.cons_inv {d : D} {ds : List D} {vs : List V} (h : RepL K M L H (d :: ds) vs) : ∃ v r, vs = v :: r ∧ Rep K M L H d v ∧ RepL K M L H ds r := by
  simpa only [RepL] using h
theorem RepL.ints : ∀ {ds : List D} {vs : List V} {ns : List Int}, RepL K M L H ds vs → mapO asInt ds = some ns → vs = ns.map V.int
  | [], _, _, h, e => by simp only [RepL] at h; subst h; simp [mapO] at e; subst e; rfl
  | d :: ds, _, ns, h, e => by
    obtain ⟨v, r, rfl, h1, h2⟩ := h.cons_inv
    cases d with
    | int i =>
      simp only [mapO, asInt] at e
      cases q : mapO asInt ds with
      | none => rw [q] at e; cases e
      | some s =>
        rw [q] at e; cases e
        simp only [Rep] at h1
        subst h1
        rw [RepL.ints h2 q]; rfl
    | _ => simp [mapO, asInt] at e
theorem RepL.bls : ∀ {ds : List D} {vs : List V} {ns : List Bool}, RepL K M L H ds vs → mapO asBl ds = some ns → vs = ns.map V.bl
  | [], _, _, h, e => by simp only [RepL] at h; subst h; simp [mapO] at e; subst e; rfl
  | d :: ds, _, ns, h, e => by
    obtain ⟨v, r, rfl, h1, h2⟩ := h.cons_inv
    cases d with
    | bl i =>
      simp only [mapO, asBl] at e
      cases q : mapO asBl ds with
      | none => rw [q] at e; cases e
      | some s =>
        rw [q] at e; cases e
        simp only [Rep] at h1
        subst h1
        rw [RepL.bls h2 q]; rfl
    | _ => simp [mapO, asBl] at e
theorem RepL.strs : ∀ {ds : List D} {vs : List V} {ns : List Str}, RepL K M L H ds vs → mapO asStr ds = some ns → vs = ns.map V.str
  | [], _, _, h, e => by simp only [RepL] at h; subst h; simp [mapO] at e; subst e; rfl
  | d :: ds, _, ns, h, e => by
    obtain ⟨v, r, rfl, h1, h2⟩ := h.cons_inv
    cases d with
    | str i =>
      simp only [mapO, asStr] at e
      cases q : mapO asStr ds with
      | none => rw [q] at e; cases e
      | some s =>
        rw [q] at e; cases e
        simp only [Rep] at h1
        obtain ⟨h1, _⟩ := h1
        subst h1
        rw [RepL.strs h2 q]; rfl
    | _ => simp [mapO, asStr] at e
end

section
variable {K : PySem.W.Frag}
def CellOk (K : PySem.W.Frag) (M L : List Addr) (H : Hp) (a : Addr) : Cell → Prop
  | .dead => True
  | .lst ds => ∃ vs, H a = some (.lst vs) ∧ vs.length ≤ sizeLine ∧ RepL K M L H ds vs
  | .dct t ks ds => t = false ∧ ∃ kvs : List (Key × V), H a = some (.dK kvs) ∧ kvs.length ≤ lim ∧ ks = kvs.map (fun kv => keyD kv.1) ∧ RepL K M L H ds (kvs.map (·.2))
  | .ins _ _ => False
/-- the cells stand in H; O: what else may not be touched -/
structure CR (K : PySem.W.Frag) (O L : List Addr) (h : Hs) (H : Hp) : Prop where
  ll : L.length = h.length
  nd : (O ++ liveA h L).Nodup
  ot : ∀ a ∈ O, ∃ o, H a = some o
  ce : ∀ (n : Nat) c, h[n]? = some c → ∃ a, L[n]? = some a ∧ CellOk K (O ++ liveA h L) L H a c
/-- from one state of the cells to another -/
structure Stp (L : List Addr) (h : Hs) (H : Hp) (L' : List Addr) (h' : Hs) (H' : Hp) : Prop where
  pre : ∀ (n : Nat) a, L[n]? = some a → L'[n]? = some a
  keep : ∀ a o, H a = some o → a ∉ liveA h L → H' a = some o
  live : ∀ a ∈ liveA h' L', a ∈ liveA h L ∨ H a = none
  there : ∀ a o, H a = some o → ∃ o', H' a = some o'
theorem Stp.refl {L : List Addr} {h : Hs} {H : Hp} : Stp L h H L h H := ⟨fun _ _ e => e, fun _ _ e _ => e, fun _ h => .inl h, fun _ o e => ⟨o, e⟩⟩
theorem Stp.trans {L L1 L2 : List Addr} {h h1 h2 : Hs} {H H1 H2 : Hp} (a : Stp L h H L1 h1 H1) (b : Stp L1 h1 H1 L2 h2 H2) : Stp L h H L2 h2 H2 where
  pre := fun n x e => b.pre n x (a.pre n x e)
  keep := fun x o e n => b.keep x o (a.keep x o e n) fun q => by
    rcases a.live x q with z | z
    · exact n z
    · rw [e] at z; cases z
  live := fun x q => by
    rcases b.live x q with z | z
    · exact a.live x z
    · right
      cases e : H x with
      | none => rfl
      | some o =>
        obtain ⟨o', e'⟩ := a.there x o e
        rw [z] at e'; cases e'
  there := fun x o e => by
    obtain ⟨o', e'⟩ := a.there x o e
    exact b.there x o' e'
theorem Stp.none {L L' : List Addr} {h h' : Hs} {H H' : Hp} {a : Addr} (s : Stp L h H L' h' H') (e : H' a = Option.none) : H a = Option.none := by
  cases q : H a with
  | none => rfl
  | some o =>
    obtain ⟨o', e'⟩ := s.there a o q
    rw [e] at e'; cases e'
/-- new objects laid, old ones as they were -/
theorem Stp.laid {L : List Addr} {h : Hs} {H H' : Hp} (k : ∀ a o, H a = some o → H' a = some o) : Stp L h H L h H' := ⟨fun _ _ e => e, fun a o e _ => k a o e, fun _ h => .inl h, fun a o e => ⟨o, k a o e⟩⟩
theorem Stp.mv {O L L' : List Addr} {h h' : Hs} {H H' : Hp} (s : Stp L h H L' h' H') : Mv (O ++ liveA h L) (O ++ liveA h' L') L L' H H' where
  at_ := fun a o e n => by
    rw [List.mem_append, not_or] at n
    refine ⟨s.keep a o e n.2, ?_⟩
    rw [List.mem_append, not_or]
    refine ⟨n.1, fun q => ?_⟩
    rcases s.live a q with z | z
    · exact n.2 z
    · rw [e] at z; cases z
  ls := s.pre
theorem mv_sub {M M' L : List Addr} {H : Hp} (h : ∀ a ∈ M', a ∈ M) : Mv M M' L L H H := ⟨fun a o e n => ⟨e, fun q => n (h a q)⟩, fun _ _ e => e⟩
theorem live_mem : ∀ {h : Hs} {L : List Addr} {a : Addr}, a ∈ liveA h L → ∃ (n : Nat) (c : Cell), h[n]? = some c ∧ L[n]? = some a ∧ c ≠ .dead
  | [], _, _, m => by simp [liveA] at m
  | .dead :: h, [], _, m => by simp [liveA] at m
  | .lst _ :: h, [], _, m => by simp [liveA] at m
  | .dct _ _ _ :: h, [], _, m => by simp [liveA] at m
  | .ins _ _ :: h, [], _, m => by simp [liveA] at m
  | .dead :: h, b :: L, a, m => by
    obtain ⟨n, c, e1, e2, e3⟩ := live_mem (h := h) (L := L) (by simpa [liveA] using m)
    exact ⟨n + 1, c, by simpa using e1, by simpa using e2, e3⟩
  | .lst x :: h, b :: L, a, m => by
    rcases List.mem_cons.mp (by simpa [liveA] using m : a ∈ b :: liveA h L) with e | m
    · exact ⟨0, .lst x, by simp, by simp [e], by simp⟩
    · obtain ⟨n, c, e1, e2, e3⟩ := live_mem m
      exact ⟨n + 1, c, by simpa using e1, by simpa using e2, e3⟩
  | .dct t x y :: h, b :: L, a, m => by
    rcases List.mem_cons.mp (by simpa [liveA] using m : a ∈ b :: liveA h L) with e | m
    · exact ⟨0, .dct t x y, by simp, by simp [e], by simp⟩
    · obtain ⟨n, c, e1, e2, e3⟩ := live_mem m
      exact ⟨n + 1, c, by simpa using e1, by simpa using e2, e3⟩
  | .ins x y :: h, b :: L, a, m => by
    rcases List.mem_cons.mp (by simpa [liveA] using m : a ∈ b :: liveA h L) with e | m
    · exact ⟨0, .ins x y, by simp, by simp [e], by simp⟩
    · obtain ⟨n, c, e1, e2, e3⟩ := live_mem m
      exact ⟨n + 1, c, by simpa using e1, by simpa using e2, e3⟩
theorem mem_live : ∀ {h : Hs} {L : List Addr} {n : Nat} {a : Addr} {c : Cell}, h[n]? = some c → L[n]? = some a → c ≠ .dead → a ∈ liveA h L
  | [], _, n, _, _, e, _, _ => by simp at e
  | _ :: _, [], n, _, _, _, e, _ => by simp at e
  | c :: h, b :: L, 0, a, c', e1, e2, e3 => by
    simp at e1 e2
    subst e1 e2
    cases c <;> simp [liveA] at e3 ⊢
  | c :: h, b :: L, n + 1, a, c', e1, e2, e3 => by
    have q := mem_live (h := h) (L := L) (n := n) (by simpa using e1) (by simpa using e2) e3
    cases c <;> simp [liveA, q]
theorem CR.live_some {O L : List Addr} {h : Hs} {H : Hp} (c : CR K O L h H) {a : Addr} (m : a ∈ liveA h L) : ∃ o, H a = some o := by
  obtain ⟨n, x, e1, e2, e3⟩ := live_mem m
  obtain ⟨a', e2', ok⟩ := c.ce n x e1
  rw [e2] at e2'; cases e2'
  cases x with
  | dead => exact absurd rfl e3
  | lst ds => obtain ⟨vs, q, _⟩ := ok; exact ⟨_, q⟩
  | dct _ _ _ => obtain ⟨_, kvs, q, _⟩ := ok; exact ⟨_, q⟩
  | ins _ _ => exact ok.elim
theorem CR.fresh_notin {O L : List Addr} {h : Hs} {H : Hp} (c : CR K O L h H) {p : Addr} (hp : H p = none) : p ∉ O ++ liveA h L := fun m => by
  rcases List.mem_append.mp m with m | m
  · obtain ⟨o, e⟩ := c.ot p m
    rw [hp] at e; cases e
  · obtain ⟨o, e⟩ := c.live_some m
    rw [hp] at e; cases e
theorem CellOk.mv {M M' L L' : List Addr} {H H' : Hp} {a : Addr} (m : Mv M M' L L' H H') (k : ∀ o, H a = some o → H' a = some o) : ∀ {c : Cell}, CellOk K M L H a c → CellOk K M' L' H' a c
  | .dead, _ => trivial
  | .lst ds, h => by
    obtain ⟨vs, e, z, r⟩ := h
    exact ⟨vs, k _ e, z, RepL.mv m ds vs r⟩
  | .dct _ _ ds, h => by
    obtain ⟨t, kvs, e, z, w, r⟩ := h
    exact ⟨t, kvs, k _ e, z, w, RepL.mv m ds _ r⟩
  | .ins _ _, h => h.elim
theorem upd_keep {H : Hp} {p : Addr} {o : HO} (hp : H p = none) : ∀ a x, H a = some x → upd H p o a = some x := fun a x e => by
  rw [upd_ne (ne_of_none e hp)]; exact e
/-- a new object, held by no one -/
theorem CR.fresh {O L : List Addr} {h : Hs} {H : Hp} (c : CR K O L h H) {p : Addr} {o : HO} (hp : H p = none) : CR K (p :: O) L h (upd H p o) where
  ll := c.ll
  nd := List.nodup_cons.mpr ⟨c.fresh_notin hp, c.nd⟩
  ot := fun a m => by
    rcases List.mem_cons.mp m with e | m
    · subst e; exact ⟨o, upd_same⟩
    · obtain ⟨x, e⟩ := c.ot a m
      exact ⟨x, upd_keep hp a x e⟩
  ce := fun n x e => by
    obtain ⟨a, e2, ok⟩ := c.ce n x e
    refine ⟨a, e2, CellOk.mv (M := O ++ liveA h L) ⟨fun b y q m => ⟨upd_keep hp b y q, fun z => ?_⟩, fun _ _ q => q⟩ (fun y q => upd_keep hp a y q) ok⟩
    rcases List.mem_cons.mp z with z | z
    · subst z; rw [hp] at q; cases q
    · exact m z
theorem mv_fresh {M L : List Addr} {H : Hp} {p : Addr} {o : HO} (hp : H p = none) : Mv M (p :: M) L L H (upd H p o) := ⟨fun b y q m => ⟨upd_keep hp b y q, fun z => by
    rcases List.mem_cons.mp z with z | z
    · subst z; rw [hp] at q; cases q
    · exact m z⟩, fun _ _ q => q⟩
theorem stp_fresh {L : List Addr} {h : Hs} {H : Hp} {p : Addr} {o : HO} (hp : H p = none) : Stp L h H L h (upd H p o) := Stp.laid (upd_keep hp)
/-- less is protected -/
theorem CR.less {O O' L : List Addr} {h : Hs} {H : Hp} (c : CR K O L h H) (hs : List.Sublist O' O) : CR K O' L h H where
  ll := c.ll
  nd := List.Nodup.sublist (List.Sublist.append hs (List.Sublist.refl _)) c.nd
  ot := fun a m => c.ot a (hs.subset m)
  ce := fun n x e => by
    obtain ⟨a, e2, ok⟩ := c.ce n x e
    exact ⟨a, e2, CellOk.mv (mv_sub fun b m => (List.Sublist.append hs (List.Sublist.refl _)).subset m) (fun _ q => q) ok⟩
theorem CR.drop {O L : List Addr} {h : Hs} {H : Hp} {a : Addr} (c : CR K (a :: O) L h H) : CR K O L h H := c.less (List.sublist_cons_self _ _)
theorem CR.dropT {T O L : List Addr} {h : Hs} {H : Hp} (c : CR K (T ++ O) L h H) : CR K O L h H := c.less (List.sublist_append_right _ _)
/-- a slot -/
def SlOk (K : PySem.W.Frag) (O M L : List Addr) (H : Hp) : Sl → Option V → Prop
  | .un, _ => True
  | .val d, ov => ∃ v, ov = some v ∧ Rep K M L H d v
  | .own ds, ov => ∃ a vs, ov = some (.ref a) ∧ a ∈ O ∧ H a = some (.lst vs) ∧ vs.length ≤ sizeLine ∧ RepL K M L H ds vs
  | .ownd _ _ _, _ => False
structure SLs (K : PySem.W.Frag) (O L : List Addr) (h : Hs) (H : Hp) (ρ : Rho) (σ : St) : Prop where
  len : ρ.length = σ.length
  at_ : ∀ (i : Nat) s, ρ[i]? = some s → ∃ ov, σ[i]? = some ov ∧ SlOk K O (O ++ liveA h L) L H s ov
theorem SlOk.mv {O O' M M' L L' : List Addr} {H H' : Hp} (m : Mv M M' L L' H H') (k : ∀ a ∈ O, ∀ o, H a = some o → H' a = some o) (ho : ∀ a ∈ O, a ∈ O') : ∀ {s : Sl} {ov : Option V}, SlOk K O M L H s ov → SlOk K O' M' L' H' s ov
  | .un, _, _ => trivial
  | .val d, _, h => by
    obtain ⟨v, e, r⟩ := h
    exact ⟨v, e, Rep.mv m d v r⟩
  | .own ds, _, h => by
    obtain ⟨a, vs, e, q, w, z, r⟩ := h
    exact ⟨a, vs, e, ho a q, k a q _ w, z, RepL.mv m ds vs r⟩
  | .ownd _ _ _, _, h => h.elim
theorem CR.not_live {O L : List Addr} {h : Hs} {H : Hp} (c : CR K O L h H) {a : Addr} (m : a ∈ O) : a ∉ liveA h L := fun q =>
  (List.nodup_append.mp c.nd).2.2 a m a q rfl
theorem SLs.stp {O L L' : List Addr} {h h' : Hs} {H H' : Hp} {ρ : Rho} {σ : St} (c : CR K O L h H) (s : Stp L h H L' h' H') (r : SLs K O L h H ρ σ) : SLs K O L' h' H' ρ σ :=
  ⟨r.len, fun i x e => by
    obtain ⟨ov, e2, ok⟩ := r.at_ i x e
    exact ⟨ov, e2, SlOk.mv s.mv (fun a m o q => s.keep a o q (c.not_live m)) (fun _ m => m) ok⟩⟩
/-- what may be read as d, a list that is still changed later, too -/
def RepB (K : PySem.W.Frag) (O L : List Addr) (h : Hs) (H : Hp) (d : D) (v : V) : Prop := match d with
  | .lst ds => ∃ a vs, v = .ref a ∧ H a = some (.lst vs) ∧ a ∉ liveA h L ∧ vs.length ≤ sizeLine ∧ RepL K (O ++ liveA h L) L H ds vs
  | .dct t ks ds => ∃ a vs, v = .ref a ∧ DctAt H a t ks vs ∧ a ∉ liveA h L ∧ RepL K (O ++ liveA h L) L H ds vs
  | d => Rep K (O ++ liveA h L) L H d v
theorem Rep.b {O L : List Addr} {h : Hs} {H : Hp} : ∀ {d : D} {v : V}, Rep K (O ++ liveA h L) L H d v → RepB K O L h H d v
  | .non, _, r => r
  | .bl _, _, r => r
  | .int _, _, r => r
  | .str _, _, r => r
  | .tup _, _, r => r
  | .ref _, _, r => r
  | .scr _, _, r => r
  | .lst ds, _, r => by
    simp only [Rep] at r
    obtain ⟨a, vs, e, q, n, z, r⟩ := r
    exact ⟨a, vs, e, q, fun m => n (List.mem_append_right _ m), z, r⟩
  | .dct t ks ds, _, r => by
    simp only [Rep] at r
    obtain ⟨a, vs, e, q, n, r⟩ := r
    exact ⟨a, vs, e, q, fun m => n (List.mem_append_right _ m), r⟩
theorem RepB.stp {O L L' : List Addr} {h h' : Hs} {H H' : Hp} (s : Stp L h H L' h' H') : ∀ {d : D} {v : V}, RepB K O L h H d v → RepB K O L' h' H' d v
  | .non, v, r => Rep.mv (K := K) (s.mv (O := O)) .non v r
  | .bl b, v, r => Rep.mv (K := K) (s.mv (O := O)) (.bl b) v r
  | .int i, v, r => Rep.mv (K := K) (s.mv (O := O)) (.int i) v r
  | .str x, v, r => Rep.mv (K := K) (s.mv (O := O)) (.str x) v r
  | .tup ds, v, r => Rep.mv (K := K) (s.mv (O := O)) (.tup ds) v r
  | .ref n, v, r => Rep.mv (K := K) (s.mv (O := O)) (.ref n) v r
  | .scr n, v, r => Rep.mv (K := K) (s.mv (O := O)) (.scr n) v r
  | .lst ds, _, r => by
    obtain ⟨a, vs, e, q, n, z, r⟩ := r
    have ho := q
    refine ⟨a, vs, e, s.keep a _ q n, fun m => ?_, z, RepL.mv (K := K) (s.mv (O := O)) ds vs r⟩
    rcases s.live a m with y | y
    · exact n y
    · rw [ho] at y; cases y
  | .dct t ks ds, _, r => by
    obtain ⟨a, vs, e, q, n, r⟩ := r
    obtain ⟨o, ho⟩ := q.some
    refine ⟨a, vs, e, q.move fun o w => s.keep a o w n, fun m => ?_, RepL.mv (K := K) (s.mv (O := O)) ds vs r⟩
    rcases s.live a m with y | y
    · exact n y
    · rw [ho] at y; cases y
end
end Ev

namespace Ev
open PySem L2

/-- a result that no one else holds -/
def VF (K : PySem.W.Frag) (O T L : List Addr) (h : Hs) (H : Hp) (d : D) (v : V) : Prop := match d with
  | .lst ds => ∃ a vs, T = [a] ∧ v = .ref a ∧ H a = some (.lst vs) ∧ vs.length ≤ sizeLine ∧ RepL K (a :: (O ++ liveA h L)) L H ds vs
  | .dct _ _ _ => False
  | d => T = [] ∧ Rep K (O ++ liveA h L) L H d v
def ResF (K : PySem.W.Frag) (O L : List Addr) (h : Hs) (H : Hp) (d : D) (Q : VK) : Prop :=
  ∀ v H' T, Stp L h H L h H' → CR K (T ++ O) L h H' → (∀ a ∈ T, H a = none) → VF K O T L h H' d v → Q v H'
def ResP (K : PySem.W.Frag) (O L : List Addr) (h : Hs) (H : Hp) (d : D) (Q : VK) : Prop :=
  ∀ v H', Stp L h H L h H' → CR K O L h H' → Rep K (O ++ liveA h L) L H' d v → Q v H'
section
variable {K : PySem.W.Frag} {O L : List Addr} {h : Hs} {H : Hp} {Q : VK}
theorem VF.rep {T : List Addr} {d : D} {v : V} (c : CR K (T ++ O) L h H) (f : VF K O T L h H d v) : Rep K (O ++ liveA h L) L H d v := by
  cases d with
  | lst ds =>
    obtain ⟨a, vs, e, e2, q, z, r⟩ := f
    subst e
    simp only [Rep]
    refine ⟨a, vs, e2, q, ?_, z, RepL.mv (mv_sub fun b m => List.mem_cons_of_mem _ m) ds vs r⟩
    exact (List.nodup_cons.mp c.nd).1
  | dct t ks vs => exact f.elim
  | _ => exact f.2
theorem nT {H : Hp} : ∀ a ∈ ([] : List Addr), H a = none := fun _ m => nomatch m
theorem resF_lst {ds : List D} {vs : List V} {p : Addr} (c : CR K O L h H) (hp : H p = none) (r : RepL K (O ++ liveA h L) L H ds vs) (z : vs.length ≤ sizeLine)
    (q : ResF K O L h H (.lst ds) Q) : Q (.ref p) (upd H p (.lst vs)) := by
  refine q _ _ [p] (stp_fresh hp) (c.fresh hp) (fun a m => by rw [List.mem_singleton.mp m]; exact hp) ?_
  exact ⟨p, vs, rfl, rfl, upd_same, z, RepL.mv (mv_fresh hp) ds vs r⟩
theorem resF_at {d : D} {v : V} (c : CR K O L h H) (hd : ∀ ds, d ≠ .lst ds) (hd2 : ∀ t ks vs, d ≠ .dct t ks vs) (r : Rep K (O ++ liveA h L) L H d v) (q : ResF K O L h H d Q) : Q v H := by
  refine q _ _ [] Stp.refl c nT ?_
  cases d with
  | lst ds => exact absurd rfl (hd ds)
  | dct t ks vs => exact absurd rfl (hd2 t ks vs)
  | _ => exact ⟨rfl, r⟩
theorem rep_tup {ds : List D} {vs : List V} {p : Addr} (hp : H p = none) (c : CR K O L h H) (r : RepL K (O ++ liveA h L) L H ds vs) (z : vs.length ≤ sizeLine) :
    Rep K (O ++ liveA h L) L (upd H p (.tup vs)) (.tup ds) (.ref p) := by
  simp only [Rep]
  exact ⟨p, vs, rfl, .inl ⟨upd_same, c.fresh_notin hp⟩, z, RepL.mv (stp_fresh hp (h := h)).mv ds vs r⟩
theorem resF_tup {ds : List D} {vs : List V} {p : Addr} (c : CR K O L h H) (hp : H p = none) (r : RepL K (O ++ liveA h L) L H ds vs) (z : vs.length ≤ sizeLine)
    (q : ResF K O L h H (.tup ds) Q) : Q (.ref p) (upd H p (.tup vs)) :=
  q _ _ [] (stp_fresh hp) (c.fresh hp (o := .tup vs)).drop nT ⟨rfl, rep_tup hp c r z⟩
theorem resP_tup {ds : List D} {vs : List V} {p : Addr} (c : CR K O L h H) (hp : H p = none) (r : RepL K (O ++ liveA h L) L H ds vs) (z : vs.length ≤ sizeLine)
    (q : ResP K O L h H (.tup ds) Q) : Q (.ref p) (upd H p (.tup vs)) :=
  q _ _ (stp_fresh hp) (c.fresh hp (o := .tup vs)).drop (rep_tup hp c r z)
theorem resP_at {d : D} {v : V} (c : CR K O L h H) (r : Rep K (O ++ liveA h L) L H d v) (q : ResP K O L h H d Q) : Q v H := q _ _ Stp.refl c r
theorem ResF.p {d : D} (q : ResP K O L h H d Q) : ResF K O L h H d Q := fun v H' T s c _ f => q v H' s c.dropT (f.rep c)
theorem rb_int {i : Int} {x : V} (r : RepB K O L h H (.int i) x) : x = .int i := by simpa only [RepB, Rep] using r
theorem rb_bl {i : Bool} {x : V} (r : RepB K O L h H (.bl i) x) : x = .bl i := by simpa only [RepB, Rep] using r
theorem rb_non {x : V} (r : RepB K O L h H .non x) : x = .non := by simpa only [RepB, Rep] using r
theorem rb_str {i : Str} {x : V} (r : RepB K O L h H (.str i) x) : x = .str i ∧ i.length ≤ sizeLine := by simpa only [RepB, Rep] using r
theorem rb_tup {ds : List D} {x : V} (r : RepB K O L h H (.tup ds) x) : ∃ a vs, x = .ref a ∧ SqT K H a vs ∧ vs.length ≤ sizeLine ∧ RepL K (O ++ liveA h L) L H ds vs := by
  simp only [RepB, Rep] at r
  obtain ⟨a, vs, e, t, z, r⟩ := r
  exact ⟨a, vs, e, t.sq, z, r⟩
theorem rb_lst {ds : List D} {x : V} (r : RepB K O L h H (.lst ds) x) : ∃ a vs, x = .ref a ∧ H a = some (.lst vs) ∧ vs.length ≤ sizeLine ∧ RepL K (O ++ liveA h L) L H ds vs := by
  obtain ⟨a, vs, e, t, _, z, r⟩ := r
  exact ⟨a, vs, e, t, z, r⟩
theorem rb_scr {ns : List Int} {x : V} (r : RepB K O L h H (.scr ns) x) : ∃ a, x = .ref a ∧ SqL K H a (ns.map V.int) := by
  simp only [RepB, Rep] at r
  obtain ⟨a, e, t⟩ := r
  exact ⟨a, e, t.sq⟩
theorem rep_int (i : Int) {M : List Addr} : Rep K M L H (.int i) (.int i) := by simp only [Rep]
theorem rep_bl (i : Bool) {M : List Addr} : Rep K M L H (.bl i) (.bl i) := by simp only [Rep]
theorem rep_non {M : List Addr} : Rep K M L H .non .non := by simp only [Rep]
theorem rep_str {x : Str} {M : List Addr} (z : x.length ≤ sizeLine) : Rep K M L H (.str x) (.str x) := by simp only [Rep]; exact ⟨trivial, z⟩
end

def opOf : BOp → Operator
  | .add => .Add | .sub => .Sub | .mul => .Mult | .fdiv => .FloorDiv | .mod => .Mod | .pow => .Pow
section
variable {X : Cx}
def rBin (K : PySem.W.Frag) (o : BOp) : R2 := fun x y H Q => ∃ O L h a b z, CR K O L h H ∧ RepB K O L h H a x ∧ RepB K O L h H b y ∧ binD o a b = some z ∧ ResF K O L h H z Q
theorem foldl_app (l : List Nat) : ∀ (k : Nat) (acc : Array Nat), (List.replicate k l.toArray).foldl (· ++ ·) acc = acc ++ ((List.replicate k l).flatten).toArray
  | 0, acc => by simp
  | k + 1, acc => by
    rw [List.replicate_succ, List.foldl_cons, foldl_app l k, List.replicate_succ, List.flatten_cons]
    simp [Array.append_assoc]
theorem str_rep_len (x : Str) (k : Nat) : (⟨((List.replicate k x.cps.toList).flatten).toArray⟩ : Str).length = x.length * k := by
  show (((List.replicate k x.cps.toList).flatten).toArray).size = x.cps.size * k
  rw [List.size_toArray, PyProof.Rows.lm_len_rep_flat, Nat.mul_comm]
  simp
theorem op_mul_str {x : Str} {j : Int} {pins : List (Addr × Obj)} {s : Shared} {σ : St} {H : Hp} {v u : Value} {Q : VK} (I : Inv X pins σ H s) (rx : RelV (.str x) v) (ry : RelV (.int j) u)
    (g1 : x.length * j.toNat ≤ lim) (g2 : j < 2 ^ 62) (g3 : -(2 ^ 62) < j) (q : Q (.str ⟨((List.replicate j.toNat x.cps.toList).flatten).toArray⟩) H) :
    wpAny (model X.prog X.w) X.A (binaryOp .Mult v u) (EP X pins σ Q) X.xe s := by
  obtain ⟨t, rfl⟩ := rx
  obtain ⟨t', rfl⟩ := ry
  have hll : lim ≤ sizeLine := lim_le
  have hsl := sizeLine_eq
  refine PySem.P.mul_str ?_ ?_ ?_ ?_
  · rw [decide_eq_false (by omega), decide_eq_false (by omega)]; rfl
  · intro h1 h2 h3
    have hj : 1 ≤ j := by omega
    have : (x.length : Int) * j ≤ 2 ^ 62 := by
      have e : ((x.length * j.toNat : Nat) : Int) = (x.length : Int) * j := by
        rw [Int.natCast_mul, Int.toNat_of_nonneg (by omega)]
      rw [← e]
      have : x.length * j.toNat ≤ 16777216 := by omega
      omega
    have h4 : (x.length : Int) ≤ (2 ^ 63 - 1) / j := by
      rw [Int.le_ediv_iff_mul_le (by omega)]
      omega
    omega
  · intro h1 h2
    unfold Builtin.Str.tooLong
    exact decide_eq_false (by omega)
  · by_cases h1 : j < 1
    · rw [if_pos h1]
      have e : j.toNat = 0 := by omega
      rw [e] at q
      refine ⟨by decide, ?_⟩
      exact ⟨.str _, H, I.tok _, ⟨_, rfl⟩, q⟩
    · rw [if_neg h1]
      by_cases h2 : (j == 1 || x.length == 0) = true
      · rw [if_pos h2]
        have e : (⟨((List.replicate j.toNat x.cps.toList).flatten).toArray⟩ : Str) = x := by
          rcases Bool.or_eq_true_iff.mp h2 with h3 | h3
          · have : j = 1 := by simpa using h3
            subst this
            apply Str.ext'
            simp
          · have h4 : x.cps.size = 0 := by simpa [Str.length] using h3
            have h5 : x.cps = #[] := Array.size_eq_zero_iff.mp h4
            apply Str.ext'
            rw [h5]
            simp
        rw [e] at q
        exact ⟨.str _, H, I, ⟨t, rfl⟩, q⟩
      · rw [if_neg h2]
        have e : List.foldl (· ++ ·) #[] (List.replicate j.toNat x.cps) = ((List.replicate j.toNat x.cps.toList).flatten).toArray := by
          have := foldl_app x.cps.toList j.toNat #[]
          simpa using this
        rw [e]
        refine ⟨?_, ?_⟩
        · rw [str_rep_len]; omega
        · exact ⟨.str _, H, I.tok _, ⟨_, rfl⟩, q⟩
theorem op_cat_tup {pins : List (Addr × Obj)} {s : Shared} {σ : St} {H : Hp} {v u : Value} {Q : VK} {x y : V} {O L : List Addr} {h : Hs} {ds es : List D} (I : Inv X pins σ H s) (rx : RelV x v) (ry : RelV y u)
    (c : CR X.K O L h H) (ra : RepB X.K O L h H (.tup ds) x) (rb : RepB X.K O L h H (.tup es) y) (g : ds.length + es.length ≤ lim) (q : ResF X.K O L h H (.tup (ds ++ es)) Q) :
    wpAny (model X.prog X.w) X.A (binaryOp .Add v u) (EP X pins σ Q) X.xe s := by
  have hll : lim ≤ sizeLine := lim_le
  obtain ⟨p1, vs, e1, s1, z1, r1⟩ := rb_tup ra
  obtain ⟨p2, ws, e2, s2, z2, r2⟩ := rb_tup rb
  subst e1 e2
  have l1 := r1.length
  have l2 := r2.length
  refine op_catA pins s σ H _ _ v u Q I rx ry ⟨p1, p2, vs, ws, rfl, rfl, s1, s2, by omega, fun e => ?_, fun e e' => ?_, fun e e' p hp => ?_⟩
  · subst e
    have e : ds = [] := List.eq_nil_of_length_eq_zero (by simpa using l1.symm)
    subst e
    exact resF_at c (by simp) (by simp) rb q
  · subst e'
    have e : es = [] := List.eq_nil_of_length_eq_zero (by simpa using l2.symm)
    subst e
    rw [List.append_nil] at q
    exact resF_at c (by simp) (by simp) ra q
  · exact resF_tup c hp (r1.append r2) (by rw [List.length_append]; omega) q
theorem tuple_mul_self (l : Addr) (items : Array Value) (n : Nat) (dd : Option Addr) (sl : Array (Option Value)) (x : Int) (u : Tok) (c0 : (decide (x < -(2 ^ 63)) || decide (x ≥ 2 ^ 63)) = false) (c1 : (items.isEmpty || x == 1) = true) :
    Meets (Builtin.«tuple.__mul__» ⟨[.ref l, .int x u], []⟩) (fun _ R s => s.heap.get? l = some { cls := .type "tuple", dict := dd, data := .seq items n, slots := sl } ∧ R (.ok (.ret (Value.ref l))) s) :=
  .of_wp fun prog w A R s h => by
    obtain ⟨hp, g, d, tk, os⟩ := s
    obtain ⟨hl, h⟩ := h
    have f1 := AutoSeq1.idx_int
    wp_walk using wpAny_loadPart' hl
    repeat (first
      | (refine wpAny_ite_false (decide_eq_false (by rw [c0]; exact Bool.false_ne_true)) ?_; wp_walk using wpAny_loadPart' hl)
      | (refine wpAny_ite_true (decide_eq_true c1) ?_; wp_walk using wpAny_loadPart' hl))
    exact ⟨_, rfl, h⟩
theorem tuple_mul_none (l : Addr) (items : Array Value) (n : Nat) (dd : Option Addr) (sl : Array (Option Value)) (x : Int) (u : Tok) (c0 : (decide (x < -(2 ^ 63)) || decide (x ≥ 2 ^ 63)) = false) (c1 : (items.isEmpty || x == 1) = false) (c2 : (decide (x ≤ 0) || items.isEmpty) = true) :
    Meets (Builtin.«tuple.__mul__» ⟨[.ref l, .int x u], []⟩) (fun _ R s => s.heap.get? l = some { cls := .type "tuple", dict := dd, data := .seq items n, slots := sl } ∧
      R (.ok (.ret (Value.ref s.heap.objs.size))) { s with heap := s.heap.push { cls := Value.type "tuple", data := Data.seq #[] }, toks := s.toks }) :=
  .of_wp fun prog w A R s h => by
    obtain ⟨hp, g, d, tk, os⟩ := s
    obtain ⟨hl, h⟩ := h
    have f1 := AutoSeq1.idx_int
    wp_walk using wpAny_loadPart' hl
    repeat (first
      | (refine wpAny_ite_false (decide_eq_false (by rw [c0]; exact Bool.false_ne_true)) ?_; wp_walk using wpAny_loadPart' hl)
      | (refine wpAny_ite_false (decide_eq_false (by rw [c1]; exact Bool.false_ne_true)) ?_; wp_walk using wpAny_loadPart' hl)
      | (refine wpAny_ite_true (decide_eq_true c2) ?_; wp_walk using wpAny_loadPart' hl))
    exact ⟨_, rfl, h⟩
def rRepA (K : PySem.W.Frag) : R2 := fun x y H Q => ∃ l k xs, x = .ref l ∧ y = .int k ∧ SqT K H l xs ∧ -(2 ^ 62) < k ∧ k ≤ 1000 ∧ xs.length ≤ 1000 ∧ (xs = [] ∨ k = 1 → Q (.ref l) H) ∧ (xs ≠ [] → k ≠ 1 → ∀ p, H p = none → Q (.ref p) (upd H p (.tup (List.replicate k.toNat xs).flatten)))
theorem op_repA : OpR X (binaryOp .Mult) (rRepA X.K) := by
  intro pins s σ H x y v u Q I rx ry h
  obtain ⟨l, k, xs, rfl, rfl, hT, h0, h1, hz, q1, q2⟩ := h
  by_cases hb : xs ≠ [] ∧ 2 ≤ k
  · exact op_repT pins s σ H _ _ v u Q I rx ry ⟨l, k, xs, rfl, rfl, hT, hb.1, hb.2, h1, hz, q2 hb.1 (by omega)⟩
  cases rx
  obtain ⟨t, rfl⟩ := ry
  obtain ⟨its, r, ⟨⟨cls, dd, data, sl⟩, ho, hc, n, hd⟩, hs⟩ := I.tuple hT
  simp only at hc hd
  subst hc hd
  have hle : its.length = xs.length := r.length.symm
  have c0 : (decide (k < -(2 ^ 63)) || decide (k ≥ 2 ^ 63)) = false := by
    rw [decide_eq_false (by omega), decide_eq_false (by omega)] <;> rfl
  by_cases hs1 : xs = [] ∨ k = 1
  · have c1 : (its.toArray.isEmpty || k == 1) = true := by
      rcases hs1 with e | e
      · subst e
        have : its = [] := List.eq_nil_of_length_eq_zero hle
        subst this
        rfl
      · subst e
        simp
    refine wpAny_binaryOp_repeat_ref (T := "tuple") (U := "int") (by decide) ⟨_, ho, rfl⟩ (fun s' => typeIs_int s' k t) noFill_tuple_mul F.fills_int_mul F.slot_int_rmul repeat_tuple F.slot_int_index.lookup
      (call_meets F.slot_int_rmul (typeIs_int s k t) F.entry_int_rmul (F.args_int_rmul_2 _ _) (int_rmul_tuple k t l its.toArray n dd sl)
        ⟨ho, rfl, ⟨_, ho, rfl⟩, call_meets F.slot_tuple_mul ⟨_, ho, rfl⟩ F.entry_tuple_mul (F.args_tuple_mul_2 _ _) (tuple_mul_self l its.toArray n dd sl k t c0 c1) ⟨ho, ?_⟩⟩)
    exact ⟨.ref l, H, I, rfl, q1 hs1⟩
  · have hx : xs ≠ [] := fun e => hs1 (.inl e)
    have hk : k ≠ 1 := fun e => hs1 (.inr e)
    have hk0 : k ≤ 0 := by
      by_cases q : 2 ≤ k
      · exact absurd ⟨hx, q⟩ hb
      · omega
    have hn : its ≠ [] := fun e => hx (by
      rw [e] at hle
      exact List.eq_nil_of_length_eq_zero hle.symm)
    have hi : its.toArray.isEmpty = false := by
      cases its with
      | nil => exact absurd rfl hn
      | cons a b => rfl
    have c1 : (its.toArray.isEmpty || k == 1) = false := by
      rw [hi, Bool.false_or]
      exact beq_eq_false_iff_ne.mpr hk
    have c2 : (decide (k ≤ 0) || its.toArray.isEmpty) = true := by
      rw [decide_eq_true hk0]
      rfl
    refine wpAny_binaryOp_repeat_ref (T := "tuple") (U := "int") (by decide) ⟨_, ho, rfl⟩ (fun s' => typeIs_int s' k t) noFill_tuple_mul F.fills_int_mul F.slot_int_rmul repeat_tuple F.slot_int_index.lookup
      (call_meets F.slot_int_rmul (typeIs_int s k t) F.entry_int_rmul (F.args_int_rmul_2 _ _) (int_rmul_tuple k t l its.toArray n dd sl)
        ⟨ho, rfl, ⟨_, ho, rfl⟩, call_meets F.slot_tuple_mul ⟨_, ho, rfl⟩ F.entry_tuple_mul (F.args_tuple_mul_2 _ _) (tuple_mul_none l its.toArray n dd sl k t c0 c1 c2) ⟨ho, ?_⟩⟩)
    have q3 := q2 hx hk
    have e0 : (List.replicate k.toNat xs).flatten = [] := by
      rw [show k.toNat = 0 by omega]; rfl
    rw [e0] at q3
    refine ⟨.ref s.heap.objs.size, _, I.laid (t' := s.toks) (o := .tup []) (fun b ob q => Heap.get?_push_of_some _ q) (Nat.le_refl _) ?_, rfl, q3 _ (I.hok.fresh (Nat.le_refl _))⟩
    exact ⟨by rw [sizeLine_eq]; decide, _, .nil, PyProof.Rows.IsTup.new _ _⟩
theorem op_rep_tup {pins : List (Addr × Obj)} {s : Shared} {σ : St} {H : Hp} {v u : Value} {Q : VK} {x y : V} {O L : List Addr} {h : Hs} {ds : List D} {j : Int} (I : Inv X pins σ H s) (rx : RelV x v) (ry : RelV y u)
    (c : CR X.K O L h H) (ra : RepB X.K O L h H (.tup ds) x) (rb : RepB X.K O L h H (.int j) y) (g : ds.length ≤ 1000 ∧ j ≤ 1000 ∧ -(2 ^ 62) < j) (q : ResF X.K O L h H (.tup (List.replicate j.toNat ds).flatten) Q) :
    wpAny (model X.prog X.w) X.A (binaryOp .Mult v u) (EP X pins σ Q) X.xe s := by
  obtain ⟨p1, vs, e1, s1, z1, r1⟩ := rb_tup ra
  subst e1
  rw [rb_int rb] at ry
  have l1 := r1.length
  refine op_repA pins s σ H _ _ v u Q I rx ry ⟨p1, _, vs, rfl, rfl, s1, g.2.2, g.2.1, by omega, fun e => ?_, fun e e' p hp => ?_⟩
  · have e2 : (List.replicate j.toNat ds).flatten = ds := by
      rcases e with e | e
      · subst e
        have e : ds = [] := List.eq_nil_of_length_eq_zero (by simpa using l1.symm)
        subst e
        simp
      · subst e
        simp
    rw [e2] at q
    exact resF_at c (by simp) (by simp) ra q
  · refine resF_tup c hp (r1.rep _) ?_ q
    rw [PyProof.Rows.lm_len_rep_flat, l1, sizeLine_eq]
    have a1 : j.toNat * ds.length ≤ 1000 * 1000 := Nat.mul_le_mul (by omega) g.1
    omega
theorem op_add_bi {pins : List (Addr × Obj)} {s : Shared} {σ : St} {H : Hp} {v u : Value} {Q : VK} {b : Bool} {j : Int} (rx : RelV (.bl b) v) (ry : RelV (.int j) u) (I : Inv X pins σ H s)
    (q : Q (.int ((if b = true then (1 : Int) else 0) + j)) H) : wpAny (model X.prog X.w) X.A (binaryOp .Add v u) (EP X pins σ Q) X.xe s := by
  obtain ⟨t, rfl⟩ := ry
  cases rx
  exact PySem.IntBool.add_bool_int ⟨.int _, H, I.tok _, ⟨_, rfl⟩, q⟩
theorem op_sub_bi {pins : List (Addr × Obj)} {s : Shared} {σ : St} {H : Hp} {v u : Value} {Q : VK} {b : Bool} {j : Int} (rx : RelV (.bl b) v) (ry : RelV (.int j) u) (I : Inv X pins σ H s)
    (q : Q (.int ((if b = true then (1 : Int) else 0) - j)) H) : wpAny (model X.prog X.w) X.A (binaryOp .Sub v u) (EP X pins σ Q) X.xe s := by
  obtain ⟨t, rfl⟩ := ry
  cases rx
  exact PySem.IntBool.sub_bool_int ⟨.int _, H, I.tok _, ⟨_, rfl⟩, q⟩
theorem gives_bool_neg (b : Bool) : Gives (Builtin.«int.__neg__» ⟨[.bool b], []⟩) (.int (-(if b = true then (1 : Int) else 0))) := by
  cases b <;> exact .of_eq rfl
def rNeg (K : PySem.W.Frag) : V → Hp → VK → Prop := fun x H Q => (∃ i, x = .int i ∧ Q (.int (-i)) H) ∨ ∃ b, x = .bl b ∧ Q (.int (-(if b = true then (1 : Int) else 0))) H
theorem un_negS : UnR X (unaryOp .USub) (rNeg X.K) := by
  intro pins s σ H x v Q I rx h
  rcases h with ⟨i, rfl, q⟩ | ⟨b, rfl, q⟩
  · exact un_neg pins s σ H _ v Q I rx ⟨i, rfl, q⟩
  · cases rx
    exact unaryOp_gives (op := .USub) (T := "bool") rfl rfl F.slot_bool_neg F.entry_int_neg (F.args_int_neg_1 _) (gives_bool_neg b) ⟨.int _, H, I.tok _, ⟨_, rfl⟩, q⟩
theorem op_bin (o : BOp) : OpR X (binaryOp (opOf o)) (rBin X.K o) := by
  intro pins s σ H x y v u Q I rx ry hw
  obtain ⟨O, L, h, a, b, z, c, ra, rb, hz, q⟩ := hw
  have hll : lim ≤ sizeLine := lim_le
  unfold binD at hz
  split at hz
  · cases hz
    rw [rb_int ra] at rx; rw [rb_int rb] at ry
    exact op_add pins s σ H _ _ v u Q I rx ry ⟨_, _, rfl, rfl, resF_at c (by simp) (by simp) (rep_int _) q⟩
  · split at hz
    · rename_i g
      cases hz
      rw [(rb_str ra).1] at rx; rw [(rb_str rb).1] at ry
      refine op_add_str pins s σ H _ _ v u Q I rx ry ⟨_, _, rfl, rfl, by omega, resF_at c (by simp) (by simp) (rep_str ?_) q⟩
      rw [Str.length_append]; omega
    · cases hz
  · split at hz
    · rename_i g
      cases hz
      exact op_cat_tup I rx ry c ra rb g q
    · cases hz
  · split at hz
    · rename_i g
      cases hz
      obtain ⟨p1, vs, e1, s1, z1, r1⟩ := rb_lst ra
      obtain ⟨p2, ws, e2, s2, z2, r2⟩ := rb_lst rb
      subst e1 e2
      have l1 := r1.length
      have l2 := r2.length
      refine op_cat pins s σ H _ _ v u Q I rx ry ⟨p1, p2, vs, ws, rfl, rfl, s1, s2, by omega, fun p hp => ?_⟩
      exact resF_lst c hp (r1.append r2) (by rw [List.length_append]; omega) q
    · cases hz
  · cases hz
    rw [rb_int ra] at rx; rw [rb_int rb] at ry
    exact op_sub pins s σ H _ _ v u Q I rx ry ⟨_, _, rfl, rfl, resF_at c (by simp) (by simp) (rep_int _) q⟩
  · split at hz
    · rename_i g
      cases hz
      rw [rb_int ra] at rx; rw [rb_int rb] at ry
      refine op_mul pins s σ H _ _ v u Q I rx ry ⟨_, _, rfl, rfl, ?_, resF_at c (by simp) (by simp) (rep_int _) q⟩
      unfold mulOk at g
      simp only [Bool.or_eq_true, Bool.and_eq_true, decide_eq_true_eq] at g
      exact g
    · cases hz
  · split at hz
    · rename_i g
      cases hz
      obtain ⟨p1, vs, e1, s1, z1, r1⟩ := rb_lst ra
      subst e1
      rw [rb_int rb] at ry
      have l1 := r1.length
      refine op_rep pins s σ H _ _ v u Q I rx ry ⟨p1, _, vs, rfl, rfl, s1, by omega, by omega, by rw [l1]; omega, fun p hp => ?_⟩
      refine resF_lst c hp (r1.rep _) ?_ q
      rw [PyProof.Rows.lm_len_rep_flat, Nat.mul_comm, l1]; omega
    · cases hz
  · split at hz
    · rename_i g
      cases hz
      exact op_rep_tup I rx ry c ra rb g q
    · cases hz
  · split at hz
    · rename_i g
      cases hz
      rw [(rb_str ra).1] at rx; rw [rb_int rb] at ry
      refine op_mul_str I rx ry g.1 g.2.1 g.2.2 (resF_at c (by simp) (by simp) (rep_str ?_) q)
      rw [str_rep_len]; omega
    · cases hz
  · split at hz
    · rename_i g
      cases hz
      rw [rb_int ra] at rx; rw [rb_int rb] at ry
      exact op_fdiv pins s σ H _ _ v u Q I rx ry ⟨_, _, rfl, rfl, g, resF_at c (by simp) (by simp) (rep_int _) q⟩
    · cases hz
  · split at hz
    · rename_i g
      cases hz
      rw [rb_int ra] at rx; rw [rb_int rb] at ry
      exact op_mod pins s σ H _ _ v u Q I rx ry ⟨_, _, rfl, rfl, g, resF_at c (by simp) (by simp) (rep_int _) q⟩
    · cases hz
  · split at hz
    · rename_i g
      cases hz
      rw [rb_int ra] at rx; rw [rb_int rb] at ry
      refine op_pow pins s σ H _ _ v u Q I rx ry ⟨_, _, rfl, rfl, ?_, resF_at c (by simp) (by simp) (rep_int _) q⟩
      unfold powOk at g
      simp only [Bool.and_eq_true, decide_eq_true_eq] at g
      exact ⟨g.1.1, by omega, g.2⟩
    · cases hz
  · cases hz
    rw [rb_bl ra] at rx; rw [rb_int rb] at ry
    exact op_add_bi rx ry I (resF_at c (by simp) (by simp) (rep_int _) q)
  · cases hz
    rw [rb_bl ra] at rx; rw [rb_int rb] at ry
    exact op_sub_bi rx ry I (resF_at c (by simp) (by simp) (rep_int _) q)
  · cases hz
end
end Ev

namespace Ev
open PySem L2

section
variable {K : PySem.W.Frag} {M L : List Addr} {H : Hp}
theorem toPyL_cons {d : D} {ds : List D} {ps : List PyData} (e : toPyL (d :: ds) = some ps) : ∃ p r, ps = p :: r ∧ toPy d = some p ∧ toPyL ds = some r := by
  simp only [toPyL] at e
  split at e
  · rename_i y s h1 h2
    exact ⟨y, s, (Option.some.inj e).symm, h1, h2⟩
  · cases e
mutual
theorem dp_of : ∀ (d : D) (v : V) (p : PyData), Rep K M L H d v → toPy d = some p → Dp K H v p
  | .non, _, _, h, e => by simp only [Rep] at h; simp only [toPy] at e; cases e; subst h; exact .non
  | .bl b, _, _, h, e => by simp only [Rep] at h; simp only [toPy] at e; cases e; subst h; exact .bl b
  | .int i, _, _, h, e => by simp only [Rep] at h; simp only [toPy] at e; cases e; subst h; exact .int i
  | .str x, _, _, h, e => by simp only [Rep] at h; simp only [toPy] at e; cases e; rw [h.1]; exact .str x
  | .tup ds, _, _, h, e => by
    simp only [Rep] at h; simp only [toPy] at e
    obtain ⟨a, vs, rfl, t, z, r⟩ := h
    cases q : toPyL ds with
    | none => rw [q] at e; cases e
    | some ps =>
      rw [q] at e; cases e
      exact .tup t.sq (dpAll_of ds vs ps r q)
  | .lst ds, _, _, h, e => by
    simp only [Rep] at h; simp only [toPy] at e
    obtain ⟨a, vs, rfl, t, n, z, r⟩ := h
    cases q : toPyL ds with
    | none => rw [q] at e; cases e
    | some ps =>
      rw [q] at e; cases e
      exact .lst (SqL.of t) (dpAll_of ds vs ps r q)
  | .dct _ _ _, _, _, _, e => by simp only [toPy] at e; cases e
  | .ref _, _, _, _, e => by simp only [toPy] at e; cases e
  | .scr _, _, _, _, e => by simp only [toPy] at e; cases e
theorem dpAll_of : ∀ (ds : List D) (vs : List V) (ps : List PyData), RepL K M L H ds vs → toPyL ds = some ps → DpAll K H vs ps
  | [], _, _, h, e => by simp only [RepL] at h; simp only [toPyL] at e; cases e; subst h; exact .nil
  | d :: ds, _, _, h, e => by
    simp only [RepL] at h
    obtain ⟨v, r, rfl, h1, h2⟩ := h
    obtain ⟨p, s, rfl, e1, e2⟩ := toPyL_cons e
    exact .cons (dp_of d v p h1 e1) (dpAll_of ds r s h2 e2)
end
theorem dpB {O : List Addr} {h : Hs} : ∀ {d : D} {v : V} {p : PyData}, RepB K O L h H d v → toPy d = some p → Dp K H v p
  | .lst ds, _, _, r, e => by
    obtain ⟨a, vs, rfl, t, n, z, r⟩ := r
    simp only [toPy] at e
    cases q : toPyL ds with
    | none => rw [q] at e; cases e
    | some ps =>
      rw [q] at e; cases e
      exact .lst (SqL.of t) (dpAll_of ds vs ps r q)
  | .dct _ _ _, _, _, _, e => by simp only [toPy] at e; cases e
  | .non, v, p, r, e => dp_of (M := O ++ liveA h L) (L := L) .non v p r e
  | .bl b, v, p, r, e => dp_of (M := O ++ liveA h L) (L := L) (.bl b) v p r e
  | .int b, v, p, r, e => dp_of (M := O ++ liveA h L) (L := L) (.int b) v p r e
  | .str b, v, p, r, e => dp_of (M := O ++ liveA h L) (L := L) (.str b) v p r e
  | .tup b, v, p, r, e => dp_of (M := O ++ liveA h L) (L := L) (.tup b) v p r e
  | .ref b, v, p, r, e => dp_of (M := O ++ liveA h L) (L := L) (.ref b) v p r e
  | .scr b, v, p, r, e => dp_of (M := O ++ liveA h L) (L := L) (.scr b) v p r e
theorem pyOf_some {d : D} {p : PyData} (e : pyOf d = some p) : toPy d = some p ∧ SeqAt.shaped p = true := by
  unfold pyOf at e
  split at e
  · rename_i q hq
    split at e
    · cases e; exact ⟨hq, by assumption⟩
    · cases e
  · cases e
end
theorem pyOf_tup {ds : List D} {p : PyData} (e : pyOf (.tup ds) = some p) : p ≠ .none := fun q => by
  have := (pyOf_some e).1
  rw [q] at this
  simp only [toPy] at this
  cases k : toPyL ds <;> rw [k] at this <;> cases this
theorem shaped_room {A : Around} {a b : PyData} (h : SeqAt.shaped a = true) (hu : A.units + 64 < cLine) : A.units + min a.depth b.depth < cLine := by
  have h1 := SeqAt.depth_of_shaped h
  have h2 : min a.depth b.depth ≤ a.depth := Nat.min_le_left _ _
  omega

def copOf : COp → CmpOp
  | .eq => .Eq | .ne => .NotEq | .lt => .Lt | .le => .LtE | .gt => .Gt | .ge => .GtE | .isn => .Is | .notn => .IsNot | .inn => .In | .nin => .NotIn
section
variable {X : Cx}
def rCmp (K : PySem.W.Frag) (o : COp) : R2 := fun x y H Q => ∃ O L h a b z, CR K O L h H ∧ RepB K O L h H a x ∧ RepB K O L h H b y ∧ cmpD o a b = some z ∧ Q (.bl z) H
theorem rb_is_non {K : PySem.W.Frag} {O L : List Addr} {h : Hs} {H : Hp} : ∀ {a : D} {x : V}, RepB K O L h H a x → (decide (x = V.non)) = isNonD a
  | .non, _, r => by rw [rb_non r]; rfl
  | .bl _, _, r => by rw [rb_bl r]; rfl
  | .int _, _, r => by rw [rb_int r]; rfl
  | .str _, _, r => by rw [(rb_str r).1]; rfl
  | .tup _, _, r => by obtain ⟨a, vs, e, _⟩ := rb_tup r; rw [e]; rfl
  | .lst _, _, r => by obtain ⟨a, vs, e, _⟩ := rb_lst r; rw [e]; rfl
  | .dct _ _ _, _, r => by obtain ⟨a, vs, e, _⟩ := r; rw [e]; rfl
  | .ref _, _, r => by simp only [RepB, Rep] at r; obtain ⟨a, e, _⟩ := r; rw [e]; rfl
  | .scr _, _, r => by obtain ⟨a, e, _⟩ := rb_scr r; rw [e]; rfl
theorem op_inT (hu : X.A.units + 65 < cLine) {pins : List (Addr × Obj)} {s : Shared} {σ : St} {H : Hp} {x y : V} {v u : Value} {Q : VK} (I : Inv X pins σ H s) (rx : RelV x v) (ry : RelV y u) {d : PyData} {ds : List PyData}
    (hd : Dp X.K H x d) (hy : Dp X.K H y (.tuple ds)) (sd : SeqAt.shaped d = true) (se : SeqAt.shaped (.tuple ds) = true) (q : Q (.bl (ds.any fun z => PyData.eqv z d)) H) :
    wpAny (model X.prog X.w) X.A (compareOp .In v u) (EP X pins σ Q) X.xe s := by
  obtain ⟨as, r1⟩ := Dp.reads I d x v hd rx
  obtain ⟨bs, r2⟩ := Dp.reads I (.tuple ds) y u hy ry
  have lay : PyData.canLayAll0 ds = true := by have := SeqAt.canLay_of_shaped se; simpa only [PyData.canLay0] using this
  exact SeqAt.in_tuple_reads r2 r1 lay (SeqAt.canLay_of_shaped sd) (PyProof.Rows.room_in_shaped sd hu) ⟨.bl _, H, I, rfl, q⟩
theorem op_ninT (hu : X.A.units + 65 < cLine) {pins : List (Addr × Obj)} {s : Shared} {σ : St} {H : Hp} {x y : V} {v u : Value} {Q : VK} (I : Inv X pins σ H s) (rx : RelV x v) (ry : RelV y u) {d : PyData} {ds : List PyData}
    (hd : Dp X.K H x d) (hy : Dp X.K H y (.tuple ds)) (sd : SeqAt.shaped d = true) (se : SeqAt.shaped (.tuple ds) = true) (q : Q (.bl (!ds.any fun z => PyData.eqv z d)) H) :
    wpAny (model X.prog X.w) X.A (compareOp .NotIn v u) (EP X pins σ Q) X.xe s := by
  obtain ⟨as, r1⟩ := Dp.reads I d x v hd rx
  obtain ⟨bs, r2⟩ := Dp.reads I (.tuple ds) y u hy ry
  have lay : PyData.canLayAll0 ds = true := by have := SeqAt.canLay_of_shaped se; simpa only [PyData.canLay0] using this
  exact SeqAt.notIn_tuple_reads r2 r1 lay (SeqAt.canLay_of_shaped sd) (PyProof.Rows.room_in_shaped sd hu) ⟨.bl _, H, I, rfl, q⟩
/-- in, not in -/
theorem in_run (neg : Bool) (hu : X.A.units + 65 < cLine) {pins : List (Addr × Obj)} {s : Shared} {σ : St} {H : Hp} {x y : V} {v u : Value} {Q : VK} (I : Inv X pins σ H s) (rx : RelV x v) (ry : RelV y u) {O L : List Addr} {h : Hs} {a b : D} {z : Bool}
    (ra : RepB X.K O L h H a x) (rb : RepB X.K O L h H b y) (e : inD a b = some z) (q : Q (.bl (if neg then !z else z)) H) :
    wpAny (model X.prog X.w) X.A (compareOp (if neg then .NotIn else .In) v u) (EP X pins σ Q) X.xe s := by
  unfold inD at e
  split at e
  · rename_i p ys hp
    split at e
    · rename_i w zs hw hz
      cases e
      have h1 := pyOf_some hp
      have h2 := pyOf_some hw
      have ew : w = .list zs := by
        have := h2.1
        simp only [toPy, hz] at this
        exact (Option.some.inj this).symm
      subst ew
      have d1 := dpB ra h1.1
      have d2 := dpB rb h2.1
      cases neg with
      | true => exact op_notInD hu pins s σ H x y v u Q I rx ry ⟨p, zs, d1, d2, h1.2, h2.2, q⟩
      | false => exact op_inD hu pins s σ H x y v u Q I rx ry ⟨p, zs, d1, d2, h1.2, h2.2, q⟩
    · cases e
  · rename_i p ys hp
    split at e
    · rename_i w zs hw hz
      cases e
      have h1 := pyOf_some hp
      have h2 := pyOf_some hw
      have ew : w = .tuple zs := by
        have := h2.1
        simp only [toPy, hz] at this
        exact (Option.some.inj this).symm
      subst ew
      have d1 := dpB ra h1.1
      have d2 := dpB rb h2.1
      cases neg with
      | true => exact op_ninT hu I rx ry d1 d2 h1.2 h2.2 q
      | false => exact op_inT hu I rx ry d1 d2 h1.2 h2.2 q
    · cases e
  · rename_i p ys hp
    cases e
    have h1 := pyOf_some hp
    have ea : x = .str p := by
      have d1 := dpB ra h1.1
      cases d1; rfl
    subst ea
    rw [(rb_str rb).1] at ry
    cases neg with
    | true => exact op_notIn_str pins s σ H _ _ v u Q I rx ry ⟨_, _, rfl, rfl, q⟩
    | false => exact op_in_str pins s σ H _ _ v u Q I rx ry ⟨_, _, rfl, rfl, q⟩
  · cases e
theorem lt_run (hu : X.A.units + 65 < cLine) {pins : List (Addr × Obj)} {s : Shared} {σ : St} {H : Hp} {x y : V} {v u : Value} {Q : VK} (I : Inv X pins σ H s) (rx : RelV x v) (ry : RelV y u) {O L : List Addr} {h : Hs} {a b : D} {z : Bool}
    (ra : RepB X.K O L h H a x) (rb : RepB X.K O L h H b y) (e : ltD a b = some z) (q : Q (.bl z) H) : wpAny (model X.prog X.w) X.A (compareOp .Lt v u) (EP X pins σ Q) X.xe s := by
  unfold ltD at e
  split at e
  · cases e
    rw [rb_int ra] at rx; rw [rb_int rb] at ry
    exact op_lt pins s σ H _ _ v u Q I rx ry ⟨_, _, rfl, rfl, q⟩
  · cases e
    rw [(rb_str ra).1] at rx; rw [(rb_str rb).1] at ry
    exact op_lt_str pins s σ H _ _ v u Q I rx ry ⟨_, _, rfl, rfl, q⟩
  · split at e
    · rename_i xs ys p w hp hw
      split at e
      · rename_i al
        cases e
        have h1 := pyOf_some hp
        have h2 := pyOf_some hw
        obtain ⟨as, r1⟩ := Dp.reads I p x v (dpB ra h1.1) rx
        obtain ⟨bs, r2⟩ := Dp.reads I w y u (dpB rb h2.1) ry
        have hne : p ≠ .none := pyOf_tup hp
        exact PySem.W.rcLt_alike p w X.A s v u as bs r1 r2 al hne (shaped_room h1.2 (by omega)) X.prog X.w X.xe _ ⟨.bl _, H, I, rfl, q⟩
      · cases e
    · cases e
  · cases e
theorem gt_run (hu : X.A.units + 65 < cLine) {pins : List (Addr × Obj)} {s : Shared} {σ : St} {H : Hp} {x y : V} {v u : Value} {Q : VK} (I : Inv X pins σ H s) (rx : RelV x v) (ry : RelV y u) {O L : List Addr} {h : Hs} {xs ys : List D} {z : Bool}
    (ra : RepB X.K O L h H (.tup xs) x) (rb : RepB X.K O L h H (.tup ys) y) (e : gtD xs ys = some z) (q : Q (.bl z) H) : wpAny (model X.prog X.w) X.A (compareOp .Gt v u) (EP X pins σ Q) X.xe s := by
  unfold gtD at e
  split at e
  · rename_i p w hp hw
    split at e
    · rename_i al
      cases e
      have h1 := pyOf_some hp
      have h2 := pyOf_some hw
      obtain ⟨as, r1⟩ := Dp.reads I p x v (dpB ra h1.1) rx
      obtain ⟨bs, r2⟩ := Dp.reads I w y u (dpB rb h2.1) ry
      have hne : p ≠ .none := pyOf_tup hp
      exact PySem.W.rcGt_alike p w X.A s v u as bs r1 r2 al hne (shaped_room h1.2 (by omega)) X.prog X.w X.xe _ ⟨.bl _, H, I, rfl, q⟩
    · cases e
  · cases e
theorem op_cmp (o : COp) (hu : X.A.units + 65 < cLine) : OpR X (compareOp (copOf o)) (rCmp X.K o) := by
  intro pins s σ H x y v u Q I rx ry hw
  obtain ⟨O, L, h, a, b, z, c, ra, rb, hz, q⟩ := hw
  have eqv : ∀ {k : Bool}, eqD a b = some k → (∃ i j, a = .str i ∧ b = .str j ∧ k = (i == j)) ∨ ∃ p w, Dp X.K H x p ∧ Dp X.K H y w ∧ SeqAt.shaped p = true ∧ SeqAt.shaped w = true ∧ k = PyData.eqv p w := fun {k} e => by
    unfold eqD at e
    split at e
    · cases e
      exact .inl ⟨_, _, rfl, rfl, rfl⟩
    · split at e
      · rename_i p w h1 h2
        cases e
        have h1 := pyOf_some h1
        have h2 := pyOf_some h2
        exact .inr ⟨p, w, dpB ra h1.1, dpB rb h2.1, h1.2, h2.2, rfl⟩
      · cases e
  have dstr : ∀ i j : Str, decide (V.str i = V.str j) = (i == j) := fun i j => by
    rw [Bool.eq_iff_iff]
    simp
  unfold cmpD at hz
  split at hz
  · rcases eqv hz with ⟨i, j, rfl, rfl, rfl⟩ | ⟨p, w, d1, d2, s1, s2, rfl⟩
    · rw [(rb_str ra).1] at rx; rw [(rb_str rb).1] at ry
      exact op_eq pins s σ H _ _ v u Q I rx ry ⟨rfl, by rw [dstr]; exact q⟩
    exact op_eqD (by omega) pins s σ H x y v u Q I rx ry ⟨p, w, d1, d2, s1, s2, q⟩
  · obtain ⟨k, hk, rfl⟩ := Option.map_eq_some_iff.mp hz
    rcases eqv hk with ⟨i, j, rfl, rfl, rfl⟩ | ⟨p, w, d1, d2, s1, s2, rfl⟩
    · rw [(rb_str ra).1] at rx; rw [(rb_str rb).1] at ry
      exact op_ne pins s σ H _ _ v u Q I rx ry ⟨rfl, by rw [dstr]; exact q⟩
    exact op_neD (by omega) pins s σ H x y v u Q I rx ry ⟨p, w, d1, d2, s1, s2, q⟩
  · exact lt_run hu I rx ry ra rb hz q
  · cases hz
    rw [rb_int ra] at rx; rw [rb_int rb] at ry
    exact op_gt pins s σ H _ _ v u Q I rx ry ⟨_, _, rfl, rfl, q⟩
  · exact gt_run hu I rx ry ra rb hz q
  · cases hz
    rw [rb_int ra] at rx; rw [rb_int rb] at ry
    exact op_le pins s σ H _ _ v u Q I rx ry ⟨_, _, rfl, rfl, q⟩
  · cases hz
    rw [rb_int ra] at rx; rw [rb_int rb] at ry
    exact op_ge pins s σ H _ _ v u Q I rx ry ⟨_, _, rfl, rfl, q⟩
  · have e := rb_is_non ra
    refine op_isN pins s σ H _ _ v u Q I rx ry ⟨rb_non rb, ?_⟩
    rw [e, Option.some.inj hz]; exact q
  · have e := rb_is_non ra
    refine op_notN pins s σ H _ _ v u Q I rx ry ⟨rb_non rb, ?_⟩
    rw [e, Option.some.inj hz]; exact q
  · cases hz
    rw [rb_bl ra] at rx; rw [rb_bl rb] at ry
    exact op_is_bl pins s σ H _ _ v u Q I rx ry ⟨_, _, rfl, rfl, q⟩
  · cases hz
    rw [rb_bl ra] at rx; rw [rb_bl rb] at ry
    exact op_isnot_bl pins s σ H _ _ v u Q I rx ry ⟨_, _, rfl, rfl, q⟩
  · exact in_run false hu I rx ry ra rb hz q
  · obtain ⟨k, hk, rfl⟩ := Option.map_eq_some_iff.mp hz
    exact in_run true hu I rx ry ra rb hk q
  · cases hz
end

section
variable {X : Cx}
theorem atI_rep {K : PySem.W.Frag} {M L : List Addr} {H : Hp} {ds : List D} {vs : List V} {i : Int} {d : D} (r : RepL K M L H ds vs) (e : atI ds i = some d) : ∃ v, atI vs i = some v ∧ Rep K M L H d v := by
  unfold atI at e ⊢
  rw [r.length]
  cases q : ixN ds.length i with
  | none => rw [q] at e; cases e
  | some j =>
    rw [q] at e
    obtain ⟨v, e1, e2⟩ := r.get (i := j) e
    exact ⟨v, e1, e2⟩
theorem atI_map {α β : Type} (f : α → β) (xs : List α) (i : Int) : atI (xs.map f) i = (atI xs i).map f := by
  unfold atI
  rw [List.length_map]
  cases ixN xs.length i with
  | none => rfl
  | some j => simp
def rIdx (K : PySem.W.Frag) : R2 := fun x y H Q => ∃ O L h a b z, CR K O L h H ∧ RepB K O L h H b y ∧
  ((RepB K O L h H a x ∧ idxD a b = some z) ∨ ∃ n xs, a = .ref n ∧ RepB K O L h H a x ∧ h[n]? = some (.lst xs) ∧ idxD (.lst xs) b = some z) ∧ ResP K O L h H z Q
theorem ix_run : IxR X (rIdx X.K) := by
  intro value slice pins s σ H x y v u Q I rx ry hw hns
  obtain ⟨O, L, h, a, b, z, c, rb, hx, q⟩ := hw
  rcases hx with ⟨ra, hz⟩ | ⟨n, xs, rfl, ra, hn, hz⟩
  · unfold idxD at hz
    split at hz
    · obtain ⟨p, vs, rfl, t, zz, r⟩ := rb_lst ra
      obtain ⟨w, e, rw'⟩ := atI_rep r hz
      exact ix_list value slice pins s σ H _ _ v u Q I rx ry ⟨p, vs, _, w, rfl, rb_int rb, SqL.of t, e, resP_at c rw' q⟩ hns
    · obtain ⟨p, vs, rfl, t, zz, r⟩ := rb_tup ra
      obtain ⟨w, e, rw'⟩ := atI_rep r hz
      exact ix_tup value slice pins s σ H _ _ v u Q I rx ry ⟨p, vs, _, w, rfl, rb_int rb, t, e, resP_at c rw' q⟩ hns
    · obtain ⟨p, rfl, t⟩ := rb_scr ra
      obtain ⟨k, hk, rfl⟩ := Option.map_eq_some_iff.mp hz
      exact ix_list value slice pins s σ H _ _ v u Q I rx ry ⟨p, _, _, .int k, rfl, rb_int rb, t, by rw [atI_map, hk]; rfl, resP_at c (rep_int k) q⟩ hns
    · obtain ⟨k, hk, rfl⟩ := Option.map_eq_some_iff.mp hz
      have e := rb_str ra
      rw [e.1] at rx
      exact ix_str value slice pins s σ H _ _ v u Q I rx ry ⟨_, _, k, rfl, rb_int rb, e.2, hk, resP_at c (rep_str (by show 1 ≤ sizeLine; rw [sizeLine_eq]; decide)) q⟩ hns
    · cases hz
  · simp only [RepB, Rep] at ra
    obtain ⟨p, rfl, hp⟩ := ra
    obtain ⟨p', hp', ok⟩ := c.ce n _ hn
    rw [hp] at hp'; cases hp'
    obtain ⟨vs, t, zz, r⟩ := ok
    cases b with
    | int i =>
      simp only [idxD] at hz
      obtain ⟨w, e, rw'⟩ := atI_rep r hz
      exact ix_list value slice pins s σ H _ _ v u Q I rx ry ⟨p, vs, _, w, rfl, rb_int rb, SqL.of t, e, resP_at c rw' q⟩ hns
    | _ => simp [idxD] at hz
theorem cutL_rep {K : PySem.W.Frag} {M L : List Addr} {H : Hp} {ds : List D} {vs : List V} {lo hi : Option Int} (r : RepL K M L H ds vs) : RepL K M L H (cutL ds lo hi) (cutV vs lo hi) := by
  unfold cutL cutV
  rw [r.length]
  exact (r.drop _).take _
def rSlD (K : PySem.W.Frag) : V → Option Int → Option Int → Hp → VK → Prop := fun x lo hi H Q => ∃ O L h a z, CR K O L h H ∧ RepB K O L h H a x ∧
  cutD a lo hi = some z ∧ ResF K O L h H z Q
theorem sl_run : SlR X (rSlD X.K) := by
  intro pins s σ H x v vl vu lo hi sl Q I rx hs pl pu hw
  obtain ⟨O, L, h, a, z, c, ra, hz, q⟩ := hw
  unfold cutD at hz
  split at hz
  · cases hz
    obtain ⟨p, vs, rfl, t, zz, r⟩ := rb_lst ra
    exact sl_list pins s σ H _ v vl vu lo hi sl Q I rx hs pl pu ⟨p, vs, rfl, SqL.of t, fun p' hp => resF_lst c hp (cutL_rep r) (Nat.le_trans (cutV_length _ _ _) zz) q⟩
  · cases hz
    rename_i xs
    have ra' := ra
    obtain ⟨p, vs, rfl, t, zz, r⟩ := rb_tup ra
    refine sl_tupA pins s σ H _ v vl vu lo hi sl Q I rx hs pl pu ⟨p, vs, rfl, t, fun w => ?_, fun w p' hp => resF_tup c hp (cutL_rep r) (Nat.le_trans (cutV_length _ _ _) zz) q⟩
    have e : cutL xs lo hi = xs := by
      unfold cutL
      rw [r.length] at w
      rw [w.1, w.2]
      simp
    rw [e] at q
    exact resF_at c (by simp) (by simp) ra' q
  · cases hz
end

def tyName : Ty → String
  | .int => "int" | .bool => "bool" | .str => "str" | .list => "list" | .tuple => "tuple"
def biName : Bi → String
  | .len => "len" | .abs => "abs" | .min2 => "min" | .max2 => "max" | .int => "int" | .str => "str" | .ord => "ord" | .sum => "sum" | .all => "all" | .any => "any"
  | .min1 => "min" | .max1 => "max" | .sorted => "sorted" | .list => "list" | .tuple => "tuple"
def biTy : Bi → Bool
  | .int => true | .str => true | .list => true | .tuple => true | _ => false
def biVal (b : Bi) : Value := if biTy b = true then .type (biName b) else .builtin (biName b)
section
variable {X : Cx}
theorem tyx_of {pins : List (Addr × Obj)} {σ : St} {s : Shared} {K : PySem.W.Frag} {O L : List Addr} {h : Hs} {H : Hp} : ∀ {d : D} {v : V}, RepB K O L h H d v → (∀ t ks vs, d ≠ .dct t ks vs) → (∀ n, d ≠ .ref n) → (∀ n, d ≠ .scr n) →
    ∃ t : String, TyX K H v (.type t) ∧ t = (match d with | .non => "NoneType" | .bl _ => "bool" | .int _ => "int" | .str _ => "str" | .tup _ => "tuple" | _ => "list")
  | .non, _, r, _, _, _ => by rw [rb_non r]; exact ⟨_, .base .non, rfl⟩
  | .bl b, _, r, _, _, _ => by rw [rb_bl r]; exact ⟨_, .base (.bl b), rfl⟩
  | .int b, _, r, _, _, _ => by rw [rb_int r]; exact ⟨_, .base (.int b), rfl⟩
  | .str b, _, r, _, _, _ => by rw [(rb_str r).1]; exact ⟨_, .base (.str b), rfl⟩
  | .lst ds, _, r, _, _, _ => by obtain ⟨a, vs, rfl, t, _⟩ := rb_lst r; exact ⟨_, .base (.lst t), rfl⟩
  | .tup ds, _, r, _, _, _ => by
    simp only [RepB, Rep] at r
    obtain ⟨a, vs, rfl, t, _⟩ := r
    rcases t with ⟨t, _⟩ | ⟨o, its, n, k, cl, _⟩
    · exact ⟨_, .base (.tup t), rfl⟩
    · exact ⟨_, .kTuple k cl, rfl⟩
  | .dct t ks vs, _, _, h, _, _ => absurd rfl (h t ks vs)
  | .ref n, _, _, _, h, _ => absurd rfl (h n)
  | .scr n, _, _, _, _, h => absurd rfl (h n)
theorem kit_all (K : PySem.W.Frag) : ∀ (t : Ty) (d : D) (b : Bool), tyIs t d = some b →
    PySem.W.kitOne K (.type (match d with | .non => "NoneType" | .bl _ => "bool" | .int _ => "int" | .str _ => "str" | .tup _ => "tuple" | _ => "list")) (.type (tyName t)) = some b := by
  intro t d b e
  cases d <;> cases t <;> simp only [tyIs] at e <;> (first | (cases e; done) | (cases e; dsimp only [tyName]; exact kit_ty (by decide +kernel)))
theorem kit_any (K : PySem.W.Frag) (d : D) : ∀ (ts : List Ty) (b : Bool), tyAny ts d = some b →
    PySem.W.kitAny K (.type (match d with | .non => "NoneType" | .bl _ => "bool" | .int _ => "int" | .str _ => "str" | .tup _ => "tuple" | _ => "list")) (ts.map fun t => .type (tyName t)) = some b
  | [], b, e => by simp only [tyAny] at e; cases e; rfl
  | t :: r, b, e => by
    simp only [tyAny] at e
    split at e
    · rename_i x y h1 h2
      cases e
      rw [List.map_cons]
      refine kitAny_cons (kit_all K t d x h1) (fun e => ?_) (fun e => ?_)
      · subst e
        rw [Bool.false_or]
        exact kit_any K d r y h2
      · subst e; rfl
    · cases e
theorem tyIs_no {t : Ty} {d : D} {b : Bool} (e : tyIs t d = some b) : (∀ t ks vs, d ≠ .dct t ks vs) ∧ (∀ n, d ≠ .ref n) ∧ ∀ n, d ≠ .scr n := by
  refine ⟨fun t' ks vs q => ?_, fun n q => ?_, fun n q => ?_⟩ <;> (subst q; cases t <;> simp [tyIs] at e)
/-- isinstance(x, T) -/
def rIs1 (K : PySem.W.Frag) (t : Ty) : List V → Hp → VK → Prop := fun xs H Q => ∃ O L h a x z, xs = [x, .ty (tyName t)] ∧ CR K O L h H ∧ RepB K O L h H a x ∧ tyAny [t] a = some z ∧ Q (.bl z) H
theorem call_is1 (t : Ty) : CallR X (.builtin "isinstance") (rIs1 X.K t) := by
  intro pins s σ H xs us Q I r hw
  obtain ⟨O, L, h, a, x, z, rfl, c, ra, hz, q⟩ := hw
  simp only [tyAny] at hz
  split at hz
  · rename_i k k2 h1 h2
    cases h2
    cases hz
    have n := tyIs_no h1
    obtain ⟨w, ty, ew⟩ := tyx_of (pins := pins) (σ := σ) (s := s) ra n.1 n.2.1 n.2.2
    subst ew
    rw [Bool.or_false] at q
    exact call_isi pins s σ H _ us Q I r ⟨x, _, _, _, k, rfl, .ty _, ty, kit_all X.K t a k h1, q⟩
  · cases hz
def rIsN (K : PySem.W.Frag) (ts : List Ty) : List V → Hp → VK → Prop := fun xs H Q => ∃ O L h a x p z, xs = [x, .ref p] ∧ H p = some (.tup (ts.map fun t => V.ty (tyName t))) ∧ ts ≠ [] ∧ CR K O L h H ∧ RepB K O L h H a x ∧ tyAny ts a = some z ∧ Q (.bl z) H
theorem call_isN (ts : List Ty) : CallR X (.builtin "isinstance") (rIsN X.K ts) := by
  intro pins s σ H xs us Q I r hw
  obtain ⟨O, L, h, a, x, p, z, rfl, hp, hne, c, ra, hz, q⟩ := hw
  have n : (∀ t ks vs, a ≠ .dct t ks vs) ∧ (∀ n, a ≠ .ref n) ∧ ∀ n, a ≠ .scr n := by
    cases ts with
    | nil => exact absurd rfl hne
    | cons t r =>
      simp only [tyAny] at hz
      split at hz
      · exact tyIs_no (by assumption)
      · cases hz
  obtain ⟨w, ty, ew⟩ := tyx_of (pins := pins) (σ := σ) (s := s) ra n.1 n.2.1 n.2.2
  subst ew
  have pr : ∀ ts : List Ty, Paired ClsV (ts.map fun t => V.ty (tyName t)) (ts.map fun t => Value.type (tyName t)) := by
    intro ts
    induction ts with
    | nil => exact .nil
    | cons t r ih => exact .cons (.ty _) ih
  exact call_isiT pins s σ H _ us Q I r ⟨x, p, _, _, _, z, rfl, hp, pr ts, ty, kit_any X.K a ts z hz, q⟩
def rBi (K : PySem.W.Frag) (b : Bi) : List V → Hp → VK → Prop := fun xs H Q => ∃ O L h ds z, CR K O L h H ∧ Paired (RepB K O L h H) ds xs ∧ biD b ds = some z ∧ ResF K O L h H z Q
theorem pair1 {K : PySem.W.Frag} {O L : List Addr} {h : Hs} {H : Hp} {d : D} {xs : List V} (p : Paired (RepB K O L h H) [d] xs) : ∃ x, xs = [x] ∧ RepB K O L h H d x := by
  cases p with
  | cons a b => cases b; exact ⟨_, rfl, a⟩
theorem pair2 {K : PySem.W.Frag} {O L : List Addr} {h : Hs} {H : Hp} {d e : D} {xs : List V} (p : Paired (RepB K O L h H) [d, e] xs) : ∃ x y, xs = [x, y] ∧ RepB K O L h H d x ∧ RepB K O L h H e y := by
  cases p with
  | cons a b =>
    cases b with
    | cons b c => cases c; exact ⟨_, _, rfl, a, b⟩
end
end Ev

namespace Ev
open PySem PySem.W PySem.SeqAt
section
variable {prog : Program} {w : World} {A : Around} {E : Value → Shared → Prop} {s : Shared} {a b : Value} {da db : PyData} {as bs : List Addr} {Q : Value → Shared → Prop}
theorem min_dat2 (hh : A.handled = none) (ra : Reads s.heap a da as) (rb : Reads s.heap b db bs) (al : AlikeAll [da, db]) (hu : A.units + 1 + PyData.depthAll [da, db] < cLine)
    (h : ∀ h' tk, (∀ c o, s.heap.get? c = some o → h'.get? c = some o) → Q (if dataLt db da = true then b else a) { s with heap := h', toks := tk }) : wpAny (model prog w) A (call (.builtin "min") [a, b]) Q E s := by
  have hname : (toString "min" ++ toString ".loop" : String) = "min.loop" := by decide
  have k0 : ∀ c o, s.heap.get? c = some o → (s.heap.push { cls := .type "tuple", data := .seq #[a, b] }).get? c = some o := fun c o e => Heap.get?_push_of_some _ e
  have rs : ReadsAll (s.heap.push { cls := .type "tuple", data := .seq #[a, b] }) #[a, b].toList [da, db] (as ++ (bs ++ [])) := .cons (reads_keeps k0 ra) (.cons (reads_keeps k0 rb) .nil)
  have hT : (s.heap.push { cls := .type "tuple", data := .seq #[a, b] }).IsTuple s.heap.objs.size #[a, b] := ⟨_, Heap.get?_push_size _ rfl, rfl, 0, rfl⟩
  refine call_function_tree F.kind_min F.plain_min F.entry_min (F.args_min2 _ _) ?_
  refine wpAny_bind (wpAny_of_eq (show Builtin.Builtins.bindParams "min" ["key", "default"] 0 ⟨[], []⟩ = pure [none, none] from rfl) ?_)
  show wpAny _ A.in1 (newTuple [a, b] >>= _) _ _ s
  refine wpAny_bind (wpAny_newObj_type ?_)
  refine wpAny_bind (iter_tupleW (A := A.in1) (s := { s with heap := s.heap.push { cls := .type "tuple", data := .seq #[a, b] } }) hh hT fun s₂ e W st hfp hw hk => ?_)
  refine wpAny_bind (wpAny_newObj_type ?_)
  rw [hname]
  refine wpAny_pure ⟨plainId_quiet F.plain_min_loop _, codeAny_min_loop_firstH W (s.heap.push { cls := .type "tuple", data := .seq #[a, b] }) hw _ (cmpIn_lt (A := A.in1) (s := { s with heap := s.heap.push { cls := .type "tuple", data := .seq #[a, b] } }) rs al (by show A.units + 1 + _ < _; exact hu)) s₂.heap.objs.size
    (fun hm => Nat.lt_irrefl _ (hfp _ hm)) (fresh_in hk) _ (show 0 < 2 by decide) (fun c o q => Heap.get?_push_of_some _ (hk c o q)) (W.frame 0 s₂ _ s₂.toks st (Nat.le_refl _) fun c _ o q => Heap.get?_push_of_some _ q) (Heap.get?_push_size _ rfl) fun v s' hP hm => ?_⟩
  obtain ⟨h', tk, rfl, hk'⟩ := moved_old e rfl (Moved.drop_new (tk := s₂.toks) hm (Nat.le_refl _))
  have hq := h h' tk fun c o q => hk' c o (k0 c o q)
  have hv : v = if dataLt db da = true then b else a := by
    have e1 : argBest (fun i j => dataLt ([da, db].getD i .none) ([da, db].getD j .none)) 1 = if dataLt db da = true then 1 else 0 := rfl
    have hP' : #[a, b][argBest (fun i j => dataLt ([da, db].getD i .none) ([da, db].getD j .none)) 1]? = some v := hP
    rw [e1] at hP'
    by_cases q : dataLt db da = true
    · rw [if_pos q] at hP' ⊢
      exact (Option.some.inj hP').symm
    · rw [if_neg q] at hP' ⊢
      exact (Option.some.inj hP').symm
  rw [hv]
  exact hq
theorem max_dat2 (hh : A.handled = none) (ra : Reads s.heap a da as) (rb : Reads s.heap b db bs) (al : AlikeAll [da, db]) (hu : A.units + 1 + PyData.depthAll [da, db] < cLine)
    (h : ∀ h' tk, (∀ c o, s.heap.get? c = some o → h'.get? c = some o) → Q (if dataLt da db = true then b else a) { s with heap := h', toks := tk }) : wpAny (model prog w) A (call (.builtin "max") [a, b]) Q E s := by
  have hname : (toString "max" ++ toString ".loop" : String) = "max.loop" := by decide
  have k0 : ∀ c o, s.heap.get? c = some o → (s.heap.push { cls := .type "tuple", data := .seq #[a, b] }).get? c = some o := fun c o e => Heap.get?_push_of_some _ e
  have rs : ReadsAll (s.heap.push { cls := .type "tuple", data := .seq #[a, b] }) #[a, b].toList [da, db] (as ++ (bs ++ [])) := .cons (reads_keeps k0 ra) (.cons (reads_keeps k0 rb) .nil)
  have hT : (s.heap.push { cls := .type "tuple", data := .seq #[a, b] }).IsTuple s.heap.objs.size #[a, b] := ⟨_, Heap.get?_push_size _ rfl, rfl, 0, rfl⟩
  refine call_function_tree F.kind_max F.plain_max F.entry_max (F.args_max2 _ _) ?_
  refine wpAny_bind (wpAny_of_eq (show Builtin.Builtins.bindParams "max" ["key", "default"] 0 ⟨[], []⟩ = pure [none, none] from rfl) ?_)
  show wpAny _ A.in1 (newTuple [a, b] >>= _) _ _ s
  refine wpAny_bind (wpAny_newObj_type ?_)
  refine wpAny_bind (iter_tupleW (A := A.in1) (s := { s with heap := s.heap.push { cls := .type "tuple", data := .seq #[a, b] } }) hh hT fun s₂ e W st hfp hw hk => ?_)
  refine wpAny_bind (wpAny_newObj_type ?_)
  rw [hname]
  refine wpAny_pure ⟨plainId_quiet F.plain_max_loop _, codeAny_max_loop_firstH W (s.heap.push { cls := .type "tuple", data := .seq #[a, b] }) hw _ (cmpIn_gt (A := A.in1) (s := { s with heap := s.heap.push { cls := .type "tuple", data := .seq #[a, b] } }) rs al (by show A.units + 1 + _ < _; exact hu)) s₂.heap.objs.size
    (fun hm => Nat.lt_irrefl _ (hfp _ hm)) (fresh_in hk) _ (show 0 < 2 by decide) (fun c o q => Heap.get?_push_of_some _ (hk c o q)) (W.frame 0 s₂ _ s₂.toks st (Nat.le_refl _) fun c _ o q => Heap.get?_push_of_some _ q) (Heap.get?_push_size _ rfl) fun v s' hP hm => ?_⟩
  obtain ⟨h', tk, rfl, hk'⟩ := moved_old e rfl (Moved.drop_new (tk := s₂.toks) hm (Nat.le_refl _))
  have hq := h h' tk fun c o q => hk' c o (k0 c o q)
  have hv : v = if dataLt da db = true then b else a := by
    have e1 : argBest (fun i j => dataLt ([da, db].getD j .none) ([da, db].getD i .none)) 1 = if dataLt da db = true then 1 else 0 := rfl
    have hP' : #[a, b][argBest (fun i j => dataLt ([da, db].getD j .none) ([da, db].getD i .none)) 1]? = some v := hP
    rw [e1] at hP'
    by_cases q : dataLt da db = true
    · rw [if_pos q] at hP' ⊢
      exact (Option.some.inj hP').symm
    · rw [if_neg q] at hP' ⊢
      exact (Option.some.inj hP').symm
  rw [hv]
  exact hq
theorem min_list_ix {l : Addr} {vs : Array Value} {x : PyData} {xs : List PyData} {as : List Addr} (hh : A.handled = none) (hl : s.heap.IsList l vs) (hr : ReadsAll s.heap vs.toList (x :: xs) as) (ha : AlikeAll (x :: xs)) (hu : A.units + 1 + PyData.depthAll (x :: xs) < cLine)
    (h : ∀ v h' tk, vs[argBest (fun i j => dataLt ((x :: xs).getD i .none) ((x :: xs).getD j .none)) xs.length]? = some v → (∀ b o, s.heap.get? b = some o → h'.get? b = some o) → Q v { s with heap := h', toks := tk }) :
    wpAny (model prog w) A (call (.builtin "min") [.ref l]) Q E s := by
  have hn : vs.size = xs.length + 1 := readsAll_len hr
  refine call_min_walkH (iter_listW (A := A.in1) hh hl fun s₂ e W st hfp hw hk => ?_)
  refine ⟨_, _, _, _, _, _, _, s.heap, _, rfl, W, st, hfp, by omega, hw, hk, cmpIn_lt (A := A.in1) hr ha (by show A.units + 1 + _ < _; exact hu), fun v s' hP m => ?_⟩
  obtain ⟨h', tk, rfl, hk'⟩ := moved_old e rfl m
  have e1 : vs.size - 1 = xs.length := by omega
  have hP' : vs[argBest (fun i j => dataLt ((x :: xs).getD i .none) ((x :: xs).getD j .none)) (vs.size - 1)]? = some v := hP
  rw [e1] at hP'
  exact h v h' tk hP' hk'
theorem max_list_ix {l : Addr} {vs : Array Value} {x : PyData} {xs : List PyData} {as : List Addr} (hh : A.handled = none) (hl : s.heap.IsList l vs) (hr : ReadsAll s.heap vs.toList (x :: xs) as) (ha : AlikeAll (x :: xs)) (hu : A.units + 1 + PyData.depthAll (x :: xs) < cLine)
    (h : ∀ v h' tk, vs[argBest (fun i j => dataLt ((x :: xs).getD j .none) ((x :: xs).getD i .none)) xs.length]? = some v → (∀ b o, s.heap.get? b = some o → h'.get? b = some o) → Q v { s with heap := h', toks := tk }) :
    wpAny (model prog w) A (call (.builtin "max") [.ref l]) Q E s := by
  have hn : vs.size = xs.length + 1 := readsAll_len hr
  refine call_max_walkH (iter_listW (A := A.in1) hh hl fun s₂ e W st hfp hw hk => ?_)
  refine ⟨_, _, _, _, _, _, _, s.heap, _, rfl, W, st, hfp, by omega, hw, hk, cmpIn_gt (A := A.in1) hr ha (by show A.units + 1 + _ < _; exact hu), fun v s' hP m => ?_⟩
  obtain ⟨h', tk, rfl, hk'⟩ := moved_old e rfl m
  have e1 : vs.size - 1 = xs.length := by omega
  have hP' : vs[argBest (fun i j => dataLt ((x :: xs).getD j .none) ((x :: xs).getD i .none)) (vs.size - 1)]? = some v := hP
  rw [e1] at hP'
  exact h v h' tk hP' hk'
end
end Ev

namespace Ev
open PySem L2
section
variable {X : Cx}
theorem alikeB_all {x y : PyData} (h : alikeB x y = true) (h1 : x ≠ .none) (h2 : y ≠ .none) : PySem.W.AlikeAll [x, y] := by
  unfold alikeB at h
  simp only [Bool.and_eq_true] at h
  obtain ⟨⟨⟨a1, a2⟩, a3⟩, a4⟩ := h
  refine ⟨fun p hp q hq => ?_, fun p hp => ?_⟩
  · simp only [List.mem_cons, List.not_mem_nil, or_false] at hp hq
    rcases hp with rfl | rfl <;> rcases hq with rfl | rfl <;> assumption
  · simp only [List.mem_cons, List.not_mem_nil, or_false] at hp
    rcases hp with rfl | rfl <;> assumption
theorem dep2 {A : Around} {x y : PyData} (h1 : SeqAt.shaped x = true) (h2 : SeqAt.shaped y = true) (hu : A.units + 65 < cLine) : A.units + 1 + PyData.depthAll [x, y] < cLine := by
  have d1 := SeqAt.depth_of_shaped h1
  have d2 := SeqAt.depth_of_shaped h2
  simp only [PyData.depthAll]
  omega
theorem mapO_map {α β : Type} {f : α → Option β} {g : α → β} (h : ∀ a b, f a = some b → g a = b) : ∀ {xs : List α} {ys : List β}, mapO f xs = some ys → ys = xs.map g
  | [], ys, e => by simp only [mapO] at e; cases e; rfl
  | x :: r, ys, e => by
    simp only [mapO] at e
    split at e
    · rename_i y s h1 h2
      cases e
      rw [List.map_cons, h x y h1, mapO_map h h2]
    · cases e
theorem mapO_mem {α β : Type} {f : α → Option β} : ∀ {xs : List α} {ys : List β}, mapO f xs = some ys → ∀ x ∈ xs, ∃ y, f x = some y
  | [], _, _, x, m => nomatch m
  | x :: r, ys, e, z, m => by
    simp only [mapO] at e
    split at e
    · rename_i y s h1 h2
      rcases List.mem_cons.mp m with q | m
      · rw [q]; exact ⟨y, h1⟩
      · exact mapO_mem h2 z m
    · cases e
theorem sortD_some {xs : List D} {z : D} (e : sortD xs = some z) : (∀ x ∈ xs, pyOf x = some (encD x)) ∧ PySem.W.AllAlike (xs.map encD) ∧ PySem.W.Sortable (xs.map encD) ∧ z = .lst (xs.mergeSort leD) := by
  unfold sortD at e
  split at e
  · rename_i ps hps
    split at e
    · rename_i g
      cases e
      have hm := mapO_map (g := encD) (fun a b q => by unfold encD; rw [q]; rfl) hps
      subst hm
      simp only [Bool.and_eq_true, Bool.or_eq_true, List.all_eq_true] at g
      obtain ⟨⟨g1, g2⟩, g3⟩ := g
      unfold allAlike at g1
      simp only [List.all_eq_true] at g1
      refine ⟨fun x m => ?_, g1, ?_, rfl⟩
      · obtain ⟨y, hy⟩ := mapO_mem hps x m
        unfold encD
        rw [hy]; rfl
      · rcases g3 with g3 | g3
        · left
          intro d m
          have := g3 d m
          unfold tupNE at this
          split at this
          · exact ⟨_, _, rfl⟩
          · cases this
        · right
          intro d m
          have := g3 d m
          refine ⟨fun q => ?_, fun ys q => ?_⟩ <;> (rw [q] at this; cases this)
    · cases e
  · cases e
theorem each_rep {K : PySem.W.Frag} {M L : List Addr} {H : Hp} : ∀ {ds : List D} {us : List V} {its : List Value}, RepL K M L H ds us → Vals us its → PySem.W.EachIs (fun (v : Value) (d : D) => ∃ u, RelV u v ∧ Rep K M L H d u) its ds
  | [], us, its, r, rv => by
    have := r.nil_inv
    subst this
    cases rv
    exact .nil
  | d :: ds, us, its, r, rv => by
    obtain ⟨u, ur, rfl, r1, r2⟩ := r.cons_inv
    cases rv with
    | cons a b => exact .cons ⟨u, a, r1⟩ (each_rep r2 b)
theorem rep_each {K : PySem.W.Frag} {M L : List Addr} {H : Hp} : ∀ {ds : List D} {its : List Value}, PySem.W.EachIs (fun (v : Value) (d : D) => ∃ u, RelV u v ∧ Rep K M L H d u) its ds → ∃ us, Vals us its ∧ RepL K M L H ds us
  | _, _, .nil => ⟨[], .nil, RepL.nil⟩
  | _, _, .cons ⟨u, a, r⟩ t => by
    obtain ⟨us, b, r2⟩ := rep_each t
    exact ⟨u :: us, .cons a b, RepL.cons r r2⟩
theorem EachIs.imp {α β : Type} {R S : α → β → Prop} : ∀ {as : List α} {bs : List β}, PySem.W.EachIs R as bs → (∀ a b, b ∈ bs → R a b → S a b) → PySem.W.EachIs S as bs
  | _, _, .nil, _ => .nil
  | _, _, .cons h t, k => .cons (k _ _ List.mem_cons_self h) (EachIs.imp t fun a b m => k a b (List.mem_cons_of_mem _ m))
theorem strD_some {d z : D} (e : strD d = some z) : ∃ p, pyOf d = some p ∧ p.showable = true ∧ p.shown.length ≤ lim ∧ z = .str p.shown := by
  unfold strD at e
  split at e
  · rename_i p hp
    split at e
    · rename_i g
      exact ⟨p, hp, g.1, g.2, (Option.some.inj e).symm⟩
    · cases e
  · cases e
theorem getD_enc (ds : List D) (i : Nat) : (ds.map encD).getD i .none = encD (ds.getD i .non) := by
  rw [List.getD_eq_getElem?_getD, List.getD_eq_getElem?_getD, List.getElem?_map]
  cases ds[i]? with
  | none => rfl
  | some d => rfl
theorem toPyL_enc : ∀ {ds : List D}, (∀ d ∈ ds, pyOf d = some (encD d)) → toPyL ds = some (ds.map encD)
  | [], _ => rfl
  | d :: r, h => by
    have h1 := (pyOf_some (h d List.mem_cons_self)).1
    simp only [toPyL, h1, toPyL_enc fun x m => h x (List.mem_cons_of_mem _ m), List.map_cons]
theorem depthAll_enc : ∀ {ds : List D}, (∀ d ∈ ds, pyOf d = some (encD d)) → PyData.depthAll (ds.map encD) ≤ 64
  | [], _ => by simp [PyData.depthAll]
  | d :: r, h => by
    have h1 := SeqAt.depth_of_shaped (pyOf_some (h d List.mem_cons_self)).2
    have h2 := depthAll_enc fun x m => h x (List.mem_cons_of_mem _ m)
    simp only [List.map_cons, PyData.depthAll]
    omega
theorem best_pick (mx : Bool) {ds : List D} {z : D} (hz : bestD1 mx ds = some z) : ∃ x xs, ds = x :: xs ∧ (∀ d ∈ x :: xs, pyOf d = some (encD d)) ∧ PySem.W.AlikeAll ((x :: xs).map encD) ∧ (∀ ys, z ≠ .lst ys) ∧ (∀ t ks vs, z ≠ .dct t ks vs) ∧
    (x :: xs)[PySem.argBest (fun i j => if mx = true then PySem.W.dataLt (((x :: xs).map encD).getD j .none) (((x :: xs).map encD).getD i .none) else PySem.W.dataLt (((x :: xs).map encD).getD i .none) (((x :: xs).map encD).getD j .none)) xs.length]? = some z := by
  cases ds with
  | nil => cases hz
  | cons x xs =>
    simp only [bestD1] at hz
    split at hz
    · rename_i ps hps
      split at hz
      · rename_i g
        have hm := mapO_map (g := encD) (fun a b q => by unfold encD; rw [q]; rfl) hps
        subst hm
        simp only [Bool.and_eq_true, List.all_eq_true] at g
        obtain ⟨g1, g2⟩ := g
        unfold allAlike at g1
        simp only [List.all_eq_true] at g1
        have hz2 : bestL mx x xs = z ∧ (∀ ys, z ≠ .lst ys) ∧ (∀ t ks vs, z ≠ .dct t ks vs) := by
          split at hz
          · rename_i ys e; cases hz; exact ⟨e, by simp, by simp⟩
          · rename_i i e; cases hz; exact ⟨e, by simp, by simp⟩
          · cases hz
        refine ⟨x, xs, rfl, fun d m => ?_, ⟨g1, fun p m q => ?_⟩, hz2.2.1, hz2.2.2, ?_⟩
        · obtain ⟨y, hy⟩ := mapO_mem hps d m
          unfold encD
          rw [hy]; rfl
        · have := g2 p m
          rw [q] at this
          simp [notNone] at this
        · have f := PySem.W.argBest_fold (fun y a : D => if mx = true then PySem.W.dataLt (encD a) (encD y) else PySem.W.dataLt (encD y) (encD a)) .non x xs xs.length (Nat.le_refl _)
          rw [List.take_length] at f
          simp only [getD_enc]
          have f2 : (x :: xs).getD (PySem.argBest (fun i j => if mx = true then PySem.W.dataLt (encD ((x :: xs).getD j .non)) (encD ((x :: xs).getD i .non)) else PySem.W.dataLt (encD ((x :: xs).getD i .non)) (encD ((x :: xs).getD j .non))) xs.length) .non = z := f.2.trans hz2.1
          have f1 := f.1
          rw [List.getD_eq_getElem?_getD] at f2
          rw [List.getElem?_eq_getElem (by rw [List.length_cons]; exact Nat.lt_succ_of_le f1)] at f2 ⊢
          rw [← f2]; rfl
      · cases hz
    · cases hz
theorem vals1 {v : V} {us : List Value} (r : Vals [v] us) : ∃ u, us = [u] ∧ RelV v u := by
  cases r with
  | cons a b => cases b; exact ⟨_, rfl, a⟩
theorem call_bi (b : Bi) (hc : X.calm = true) (hu : X.A.units + 70 < cLine) (hg : X.A.guards = some []) : CallR X (biVal b) (rBi X.K b) := by
  intro pins s σ H xs us Q I rs hw
  obtain ⟨O, L, h, ds, z, c, pr, hz, q⟩ := hw
  have at1 : ∀ {i : Int}, ResF X.K O L h H (.int i) Q → Q (.int i) H := fun q => resF_at c (by simp) (by simp) (rep_int _) q
  have at2 : ∀ {i : Bool}, ResF X.K O L h H (.bl i) Q → Q (.bl i) H := fun q => resF_at c (by simp) (by simp) (rep_bl _) q
  unfold biD at hz
  split at hz
  · obtain ⟨x, rfl, r⟩ := pair1 pr
    obtain ⟨n, hn, rfl⟩ := Option.map_eq_some_iff.mp hz
    unfold lenD at hn
    split at hn
    · cases hn
      obtain ⟨a, vs, rfl, t, zz, r⟩ := rb_lst r
      refine call_len_seq pins s σ H _ us Q I rs ⟨a, vs, rfl, .inl (SqL.of t), ?_⟩
      rw [r.length]; exact at1 q
    · cases hn
      obtain ⟨a, vs, rfl, t, zz, r⟩ := rb_tup r
      refine call_len_seq pins s σ H _ us Q I rs ⟨a, vs, rfl, .inr t, ?_⟩
      rw [r.length]; exact at1 q
    · cases hn
      obtain ⟨rfl, zz⟩ := rb_str r
      exact call_len_str pins s σ H _ us Q I rs ⟨_, rfl, zz, at1 q⟩
    · cases hn
      obtain ⟨a, rfl, t⟩ := rb_scr r
      refine call_len_seq pins s σ H _ us Q I rs ⟨a, _, rfl, .inl t, ?_⟩
      rw [List.length_map]; exact at1 q
    · cases hn
  · obtain ⟨x, rfl, r⟩ := pair1 pr
    cases hz
    rw [rb_int r] at rs
    exact call_abs pins s σ H _ us Q I rs ⟨_, rfl, at1 q⟩
  · obtain ⟨x, y, rfl, r1, r2⟩ := pair2 pr
    cases hz
    rw [rb_int r1, rb_int r2] at rs
    exact call_min2 hc pins s σ H _ us Q I rs ⟨_, _, rfl, at1 q⟩
  · obtain ⟨x, y, rfl, r1, r2⟩ := pair2 pr
    cases hz
    rw [rb_int r1, rb_int r2] at rs
    exact call_max2 hc pins s σ H _ us Q I rs ⟨_, _, rfl, at1 q⟩
  · split at hz
    · rename_i xs ys p w hp hw
      split at hz
      · rename_i al
        obtain ⟨x, y, rfl, r1, r2⟩ := pair2 pr
        have h1 := pyOf_some hp
        have h2 := pyOf_some hw
        obtain ⟨u1, u2, rfl, v1, v2⟩ := vals2 rs
        obtain ⟨as, q1⟩ := Dp.reads I p x u1 (dpB r1 h1.1) v1
        obtain ⟨bs, q2⟩ := Dp.reads I w y u2 (dpB r2 h2.1) v2
        refine min_dat2 (I.ok.hd hc) q1 q2 (alikeB_all al (pyOf_tup hp) (pyOf_tup hw)) (dep2 h1.2 h2.2 (by omega)) fun h' tk k => ?_
        split at hz
        · rename_i lt
          cases hz
          rw [if_pos lt]
          exact ⟨y, H, I.kept k, v2, resF_at c (by simp) (by simp) r2 q⟩
        · rename_i lt
          cases hz
          rw [if_neg lt]
          exact ⟨x, H, I.kept k, v1, resF_at c (by simp) (by simp) r1 q⟩
      · cases hz
    · cases hz
  · split at hz
    · rename_i xs ys p w hp hw
      split at hz
      · rename_i al
        obtain ⟨x, y, rfl, r1, r2⟩ := pair2 pr
        have h1 := pyOf_some hp
        have h2 := pyOf_some hw
        obtain ⟨u1, u2, rfl, v1, v2⟩ := vals2 rs
        obtain ⟨as, q1⟩ := Dp.reads I p x u1 (dpB r1 h1.1) v1
        obtain ⟨bs, q2⟩ := Dp.reads I w y u2 (dpB r2 h2.1) v2
        refine max_dat2 (I.ok.hd hc) q1 q2 (alikeB_all al (pyOf_tup hp) (pyOf_tup hw)) (dep2 h1.2 h2.2 (by omega)) fun h' tk k => ?_
        split at hz
        · rename_i lt
          cases hz
          rw [if_pos lt]
          exact ⟨y, H, I.kept k, v2, resF_at c (by simp) (by simp) r2 q⟩
        · rename_i lt
          cases hz
          rw [if_neg lt]
          exact ⟨x, H, I.kept k, v1, resF_at c (by simp) (by simp) r1 q⟩
      · cases hz
    · cases hz
  · obtain ⟨x, rfl, r⟩ := pair1 pr
    cases hz
    rw [rb_int r] at rs
    exact call_int1 pins s σ H _ us Q I rs (.inl ⟨_, rfl, at1 q⟩)
  · obtain ⟨x, rfl, r⟩ := pair1 pr
    cases hz
    rw [rb_bl r] at rs
    exact call_int1 pins s σ H _ us Q I rs (.inr ⟨_, rfl, at1 q⟩)
  · split at hz
    · rename_i g
      obtain ⟨x, rfl, r⟩ := pair1 pr
      cases hz
      rw [rb_int r] at rs
      refine call_str_int pins s σ H _ us Q I rs ⟨_, rfl, g.1, resF_at c (by simp) (by simp) (rep_str ?_) q⟩
      exact Nat.le_trans g.2 lim_le
    · cases hz
  · obtain ⟨x, rfl, r⟩ := pair1 pr
    cases hz
    rw [rb_non r] at rs
    obtain ⟨u, rfl, v1⟩ := vals1 rs
    cases (show u = Value.none from v1)
    exact PySem.P.str_of_none ⟨.str "None", H, I.kept (t' := s.toks + 1) (fun _ _ e => e), ⟨_, rfl⟩, resF_at c (by simp) (by simp) (rep_str (by rw [sizeLine_eq]; decide +kernel)) q⟩
  · obtain ⟨x, rfl, r⟩ := pair1 pr
    cases hz
    rw [rb_bl r] at rs
    obtain ⟨u, rfl, v1⟩ := vals1 rs
    rename_i bb
    cases (show u = Value.bool bb from v1)
    exact PySem.P.str_of_bool ⟨.str (if bb then "True" else "False"), H, I.kept (t' := s.toks + 1) (fun _ _ e => e), ⟨_, rfl⟩, resF_at c (by simp) (by simp) (rep_str (by rw [sizeLine_eq]; cases bb <;> decide +kernel)) q⟩
  · obtain ⟨x, rfl, r⟩ := pair1 pr
    cases hz
    have r0 := r
    rw [(rb_str r).1] at rs
    obtain ⟨u, rfl, v1⟩ := vals1 rs
    obtain ⟨t, rfl⟩ := v1
    exact PySem.P.str_of_str ⟨.str _, H, I, ⟨_, rfl⟩, resF_at c (by simp) (by simp) (rep_str (rb_str r0).2) q⟩
  · obtain ⟨x, rfl, r⟩ := pair1 pr
    obtain ⟨p, hp, g1, g2, rfl⟩ := strD_some hz
    have h1 := pyOf_some hp
    obtain ⟨u, rfl, v1⟩ := vals1 rs
    obtain ⟨as, q1⟩ := Dp.reads I p x u (dpB r h1.1) v1
    obtain ⟨b, vs, rfl, _⟩ := rb_tup r
    cases (show u = Value.ref b from v1)
    have hd := SeqAt.depth_of_shaped h1.2
    exact str_of_reads q1 g1 (PyData.noDict_hsm (PyData.hasDict_of_canLay p (SeqAt.canLay_of_shaped h1.2))) hg (by omega) (fun _ _ e => e) (fun h' u tk k => ⟨.str p.shown, H, I.kept k, ⟨_, rfl⟩, resF_at c (by simp) (by simp) (rep_str (Nat.le_trans g2 lim_le)) q⟩) (Nat.le_trans g2 lim_le)
  · obtain ⟨x, rfl, r⟩ := pair1 pr
    obtain ⟨p, hp, g1, g2, rfl⟩ := strD_some hz
    have h1 := pyOf_some hp
    obtain ⟨u, rfl, v1⟩ := vals1 rs
    obtain ⟨as, q1⟩ := Dp.reads I p x u (dpB r h1.1) v1
    obtain ⟨b, vs, rfl, _⟩ := rb_lst r
    cases (show u = Value.ref b from v1)
    have hd := SeqAt.depth_of_shaped h1.2
    exact str_of_reads q1 g1 (PyData.noDict_hsm (PyData.hasDict_of_canLay p (SeqAt.canLay_of_shaped h1.2))) hg (by omega) (fun _ _ e => e) (fun h' u tk k => ⟨.str p.shown, H, I.kept k, ⟨_, rfl⟩, resF_at c (by simp) (by simp) (rep_str (Nat.le_trans g2 lim_le)) q⟩) (Nat.le_trans g2 lim_le)
  · split at hz
    · rename_i g
      obtain ⟨x, rfl, r⟩ := pair1 pr
      cases hz
      rw [(rb_str r).1] at rs
      exact call_ord pins s σ H _ us Q I rs ⟨_, rfl, g, at1 q⟩
    · cases hz
  · obtain ⟨ns, hn, rfl⟩ := Option.map_eq_some_iff.mp hz
    obtain ⟨x, rfl, r⟩ := pair1 pr
    obtain ⟨a, vs, rfl, t, zz, r⟩ := rb_lst r
    have e := r.ints hn
    subst e
    exact cr_sum hc pins s σ H _ us Q I rs ⟨a, ns, rfl, SqL.of t, at1 q⟩
  · obtain ⟨ns, hn, rfl⟩ := Option.map_eq_some_iff.mp hz
    obtain ⟨x, rfl, r⟩ := pair1 pr
    obtain ⟨a, vs, rfl, t, zz, r⟩ := rb_lst r
    have e := r.bls hn
    subst e
    exact cr_all hc pins s σ H _ us Q I rs ⟨a, ns, rfl, SqL.of t, at2 q⟩
  · obtain ⟨ns, hn, rfl⟩ := Option.map_eq_some_iff.mp hz
    obtain ⟨x, rfl, r⟩ := pair1 pr
    obtain ⟨a, vs, rfl, t, zz, r⟩ := rb_lst r
    have e := r.bls hn
    subst e
    exact cr_any hc pins s σ H _ us Q I rs ⟨a, ns, rfl, SqL.of t, at2 q⟩
  · obtain ⟨x, rfl, r⟩ := pair1 pr
    obtain ⟨hp, hal, hk, rfl⟩ := sortD_some hz
    obtain ⟨a, us', rfl, t, zz, r⟩ := rb_lst r
    obtain ⟨its, rv, hl, hz'⟩ := I.list (SqL.of t)
    rw [Vals.ref1 rs]
    have e := each_rep r rv
    have len1 := r.length
    have len2 := rv.length
    refine PySem.W.sorted_data (enc := encD) hl.isList e (EachIs.imp e fun v d m ⟨u, ru, rd⟩ => ?_) hal hk (by omega) (fun d m => ?_) fun out ho eo => ?_
    · have h1 := pyOf_some (hp d m)
      exact Dp.reads I (encD d) u v (dpB rd.b h1.1) ru
    · have h1 := pyOf_some (hp d m)
      have := SeqAt.depth_of_shaped h1.2
      omega
    · obtain ⟨ws, rw', rs'⟩ := rep_each eo
      obtain ⟨ep, he'⟩ := PyProof.Rows.sortedAll_at s.heap its out.toArray
      have l3 := rw'.length
      have hlen : ws.length ≤ sizeLine := by omega
      exact ⟨.ref _, upd H (s.heap.objs.size + 1) (.lst ws), I.laid (t' := s.toks) (fun _ _ => PyProof.Rows.sortedAll_old) (Nat.le_succ _) ⟨hlen, out, ep, rw', he'⟩, rfl, resF_lst c (I.hok.fresh (Nat.le_succ _)) rs' hlen q⟩
  · obtain ⟨x, rfl, r⟩ := pair1 pr
    obtain ⟨d0, dr, rfl, hp, hal, n1, n2, hd⟩ := best_pick false hz
    obtain ⟨a, us', rfl, t, zz, r⟩ := rb_lst r
    obtain ⟨its, rv, hl, hz'⟩ := I.list (SqL.of t)
    rw [Vals.ref1 rs]
    obtain ⟨as, ra⟩ := Dp.readsAll I _ us' its (dpAll_of _ us' _ r (toPyL_enc hp)) rv
    have dp := depthAll_enc hp
    refine min_list_ix (x := encD d0) (xs := dr.map encD) (I.ok.hd hc) hl.isList ra hal (by rw [List.map_cons] at dp; omega) fun v h' tk hv hk => ?_
    rw [List.length_map] at hv
    obtain ⟨u, e1, ru⟩ := r.get hd
    obtain ⟨w, e2, rw'⟩ := rv.get e1
    have e3 : v = w := by
      have hv' : its[_]? = some v := (List.getElem?_toArray ..).symm.trans hv
      exact Option.some.inj (hv'.symm.trans e2)
    subst e3
    exact ⟨u, H, I.kept hk, rw', resF_at c n1 n2 ru q⟩
  · obtain ⟨x, rfl, r⟩ := pair1 pr
    obtain ⟨d0, dr, rfl, hp, hal, n1, n2, hd⟩ := best_pick true hz
    obtain ⟨a, us', rfl, t, zz, r⟩ := rb_lst r
    obtain ⟨its, rv, hl, hz'⟩ := I.list (SqL.of t)
    rw [Vals.ref1 rs]
    obtain ⟨as, ra⟩ := Dp.readsAll I _ us' its (dpAll_of _ us' _ r (toPyL_enc hp)) rv
    have dp := depthAll_enc hp
    refine max_list_ix (x := encD d0) (xs := dr.map encD) (I.ok.hd hc) hl.isList ra hal (by rw [List.map_cons] at dp; omega) fun v h' tk hv hk => ?_
    rw [List.length_map] at hv
    obtain ⟨u, e1, ru⟩ := r.get hd
    obtain ⟨w, e2, rw'⟩ := rv.get e1
    have e3 : v = w := by
      have hv' : its[_]? = some v := (List.getElem?_toArray ..).symm.trans hv
      exact Option.some.inj (hv'.symm.trans e2)
    subst e3
    exact ⟨u, H, I.kept hk, rw', resF_at c n1 n2 ru q⟩
  · cases hz
    obtain ⟨x, rfl, r⟩ := pair1 pr
    obtain ⟨a, vs, rfl, t, zz, r⟩ := rb_lst r
    exact call_list_of pins s σ H _ us Q I rs ⟨a, vs, rfl, .inl (SqL.of t), fun p hp => resF_lst c hp r zz q⟩
  · cases hz
    obtain ⟨x, rfl, r⟩ := pair1 pr
    obtain ⟨a, vs, rfl, t, zz, r⟩ := rb_tup r
    exact call_list_of pins s σ H _ us Q I rs ⟨a, vs, rfl, .inr t, fun p hp => resF_lst c hp r zz q⟩
  · cases hz
    obtain ⟨x, rfl, r⟩ := pair1 pr
    obtain ⟨a, vs, rfl, t, zz, r⟩ := rb_lst r
    exact call_tuple_of pins s σ H _ us Q I rs ⟨a, vs, rfl, .inl ⟨SqL.of t, fun p hp => resF_tup c hp r zz q⟩⟩
  · cases hz
    obtain ⟨x, rfl, r'⟩ := pair1 pr
    obtain ⟨a, vs, rfl, t, zz, r⟩ := rb_tup r'
    exact call_tuple_of pins s σ H _ us Q I rs ⟨a, vs, rfl, .inr ⟨t, resF_at c (by simp) (by simp) r' q⟩⟩
  · cases hz
def smName : Sm → Str
  | .join => "join" | .count => "count" | .split => "split" | .get1 => "get" | .get2 => "get" | .index => "index"
def smId : Sm → String
  | .join => "str.join" | .count => "str.count" | _ => "str.split"
def rSm (K : PySem.W.Frag) (m : Sm) : V → List V → Hp → VK → Prop := fun x xs H Q => ∃ O L h a ds z, CR K O L h H ∧ RepB K O L h H a x ∧ Paired (RepB K O L h H) ds xs ∧ smD m a ds = some z ∧ ResF K O L h H z Q
theorem mt_sm (m : Sm) : MtR X (smId m) (rSm X.K m) := by
  intro pins s σ H x xs v us Q I rx rs hw
  obtain ⟨O, L, h, a, ds, z, c, ra, pr, hz, q⟩ := hw
  unfold smD at hz
  split at hz
  · split at hz
    · rename_i ys hy
      split at hz
      · rename_i g
        cases hz
        obtain ⟨y, rfl, r⟩ := pair1 pr
        obtain ⟨p, vs, rfl, t, zz, r⟩ := rb_lst r
        have e := r.strs hy
        subst e
        obtain ⟨rfl, z1⟩ := rb_str ra
        refine mt_join pins s σ H _ _ v us Q I rx rs ⟨_, p, ys, rfl, rfl, .inl (SqL.of t), ?_, ?_⟩
        · have : lim ≤ 16777216 := by decide
          omega
        · rw [TL.join_eq]
          exact resF_at c (by simp) (by simp) (rep_str (Nat.le_trans g.2 lim_le)) q
      · cases hz
    · cases hz
  · cases hz
    obtain ⟨y, rfl, r⟩ := pair1 pr
    obtain ⟨rfl, z1⟩ := rb_str ra
    obtain ⟨rfl, z2⟩ := rb_str r
    exact mt_count pins s σ H _ _ v us Q I rx rs ⟨_, _, rfl, rfl, resF_at c (by simp) (by simp) (rep_int _) q⟩
  · cases hz
end
end Ev

namespace Ev
open PySem L2

structure Ck where
  N : List Str
  cs : List (Str × GD)
  fns : List String
  frs : List String
def visB (sc : Scope) (id : Str) : Bool := match sc.names.lookup id with
  | some .local => true
  | some .cell => true
  | some .free => true
  | _ => false
def plainId (id : Str) : Bool := !(id == ("__debug__" : Str)) && !(id == ("__classdict__" : Str)) && !(id == ("__name__" : Str))
def nameB (C : Ck) (sc : Scope) (i : Nat) (id : Str) : Bool := decide (C.N[i]? = some id) && visB sc id && plainId id
def glB (sc : Scope) (id : Str) : Bool := decide (sc.names.lookup id = some .globalImplicit) && plainId id
/-- a name that is stored -/
def stB (C : Ck) (fn : Str → Bool) (sc : Scope) (i : Nat) (id : Str) : Bool := decide (C.N[i]? = some id) &&
  (decide (sc.names.lookup id = some .local) || (decide (sc.names.lookup id = some .cell) && fn id))
def stMany (C : Ck) (fn : Str → Bool) (sc : Scope) : List Nat → List Expr → Bool
  | [], [] => true
  | i :: is, .Name id _ :: es => stB C fn sc i id && stMany C fn sc is es
  | _, _ => false
def chkT (C : Ck) (fn : Str → Bool) (sc : Scope) : Tg → Expr → Bool
  | .nm i, .Name id _ => stB C fn sc i id
  | .tp is, .Tuple es _ _ => stMany C fn sc is es
  | _, _ => false
def Tg.ixs : Tg → List Nat
  | .nm i => [i]
  | .tp is => is
def chkTy : List Ty → List Expr → Scope → Bool
  | [], [], _ => true
  | t :: ts, .Name id _ :: es, sc => decide (id = Str.ofString (tyName t)) && glB sc id && chkTy ts es sc
  | _, _, _ => false
def ownOf (C : Ck) (own : List Nat) : List (Str × Nat) := own.map fun i => (C.N.getD i "", i)
def nonB : X → Bool
  | .non => true
  | _ => false
mutual
def chkE (C : Ck) (fn : Str → Bool) (sc : Scope) : X → Expr → Bool
  | .non, .Constant .none _ _ => true
  | .bl b, .Constant (.bool c) _ _ => decide (b = c)
  | .int i, .Constant (.int j) _ _ => decide (i = j)
  | .str x, .Constant (.str y) _ _ => decide (x = y) && decide (x.length ≤ lim)
  | .var i, .Name id _ => nameB C sc i id
  | .bor i, .Name id _ => nameB C sc i id
  | .glob x g, .Name id _ => decide (x = id) && glB sc id && decide (C.cs.lookup id = some g)
  | .bin o a b, .BinOp l op r _ => decide (op = opOf o) && chkE C fn sc a l && chkE C fn sc b r
  | .neg a, .UnaryOp .USub e _ => chkE C fn sc a e
  | .cmp o a b, .Compare l [op] [r] _ => decide (op = copOf o) && chkE C fn sc a l && chkE C fn sc b r
  | .cmp2 o p a b c, .Compare l [op, op'] [m, r] _ => decide (op = copOf o) && decide (op' = copOf p) && chkE C fn sc a l && chkE C fn sc b m && chkE C fn sc c r
  | .both k xs, .BoolOp op es _ => decide (op = (if k = true then .And else .Or)) && chkL C fn sc true xs es && decide (2 ≤ xs.length)
  | .not a, .UnaryOp .Not e _ => chkE C fn sc a e
  | .ife c a b, .IfExp t x y _ => chkE C fn sc c t && chkE C fn sc a x && chkE C fn sc b y && !a.isBor && !b.isBor
  | .idx a i, .Subscript v s _ => chkE C fn sc a v && chkE C fn sc i s
  | .sl a lo hi, .Subscript v (.Slice l u none _) _ => chkE C fn sc a v && !lo.isBor && !hi.isBor && (match l with
      | none => nonB lo
      | some e => chkE C fn sc lo e && !nonB lo) && (match u with
      | none => nonB hi
      | some e => chkE C fn sc hi e && !nonB hi)
  | .tup xs, .Tuple es _ _ => chkL C fn sc true xs es
  | .lst xs, .List es _ => chkL C fn sc true xs es
  | .call f xs, .Call (.Name id _) es [] _ => decide (id = Str.ofString f) && glB sc id && C.fns.contains f && !xs.isEmpty && chkL C fn sc true xs es
  | .pcall fr f xs, .Call (.Name id _) es [] _ => decide (id = Str.ofString f) && glB sc id && C.fns.contains f && (!fr || C.frs.contains f) && !xs.isEmpty && chkL C fn sc (!xs.any X.isBor) xs es
  | .rev a, .Subscript v (.Slice none none (some (.UnaryOp .USub (.Constant (.int j) _ _) _)) _) _ => decide (j = 1) && chkE C fn sc a v
  | .dnew, .Dict [] [] _ => true
  | .dnew1 k v, .Dict [some ke] [ve] _ => chkE C fn sc k ke && chkE C fn sc v ve && !k.isBor && !v.isBor
  | .dget a k, .Subscript v s _ => chkE C fn sc a v && chkE C fn sc k s && !a.isBor && !k.isBor
  | .din neg k a, .Compare l [op] [r] _ => decide (op = if neg = true then .NotIn else .In) && chkE C fn sc k l && chkE C fn sc a r && !a.isBor && !k.isBor
  | .dget2 a k d, .Call (.Attribute o nm apos) [e, f] [] cpos => decide (nm = "get") && chkE C fn sc a o && chkE C fn sc k e && chkE C fn sc d f && !a.isBor && !k.isBor && !d.isBor && decide (apos.endLine = cpos.line)
  | .trng a, .Call (.Name id _) [.Call (.Name id2 _) [e] [] _] [] _ => decide (id = "tuple") && glB sc id && decide (id2 = "range") && glB sc id2 && chkE C fn sc a e
  | .lrng a, .Call (.Name id _) [.Call (.Name id2 _) [e] [] _] [] _ => decide (id = "list") && glB sc id && decide (id2 = "range") && glB sc id2 && chkE C fn sc a e
  | .bi b xs, .Call (.Name id _) es [] _ => decide (id = Str.ofString (biName b)) && glB sc id && !xs.isEmpty && chkL C fn sc false xs es
  | .isin a ts, .Call (.Name id _) [e, .Name t _] [] _ => decide (id = Str.ofString "isinstance") && glB sc id && chkE C fn sc a e && (match ts with
      | [ty] => decide (t = Str.ofString (tyName ty)) && glB sc t
      | _ => false)
  | .isin a ts, .Call (.Name id _) [e, .Tuple es _ _] [] _ => decide (id = Str.ofString "isinstance") && glB sc id && chkE C fn sc a e && chkTy ts es sc && !ts.isEmpty && decide (ts.length ≤ 8)
  | .sset a, .Call (.Name id _) [.Call (.Name id2 _) [e] [] _] [] _ => decide (id = Str.ofString "sorted") && glB sc id && decide (id2 = Str.ofString "set") && glB sc id2 && chkE C fn sc a e
  | .sm m a xs, .Call (.Attribute o nm apos) es [] cpos => decide (nm = smName m) && decide (m = .join ∨ m = .count) && chkE C fn sc a o && decide (apos.endLine = cpos.line) && !xs.isEmpty && decide (xs.length ≤ 8) && chkL C fn sc false xs es
  | .comp own tg it c e, .ListComp elt [⟨t, i, ifs, asy⟩] scope _ =>
    decide (asy = 0) && blkC C.N sc scope (ownOf C own) && chkT C (fun x => scope.names.lookup x == some .cell) (relS scope sc) tg t && (tg.ixs.all fun k => own.contains k) && own.all (fun k => decide (k < C.N.length)) &&
      chkI C fn sc it i && (!it.two || tg.isTp) && (match ifs with
        | [] => (match c with | .bl b => b | _ => false)
        | [g] => chkE C (fun x => scope.names.lookup x == some .cell) (relS scope sc) c g
        | _ => false) && chkE C (fun x => scope.names.lookup x == some .cell) (relS scope sc) e elt && !e.isBor && !c.isBor
  | .alloc a, e => chkE C fn sc a e && a.fresh
  | _, _ => false
def chkL (C : Ck) (fn : Str → Bool) (sc : Scope) (st : Bool) : List X → List Expr → Bool
  | [], [] => true
  | x :: xs, e :: es => chkE C fn sc x e && (!st || !x.isBor) && chkL C fn sc st xs es
  | _, _ => false
def chkI (C : Ck) (fn : Str → Bool) (sc : Scope) : It → Expr → Bool
  | .over a, e => chkE C fn sc a e
  | .rng a, .Call (.Name id _) [e] [] _ => decide (id = "range") && glB sc id && chkE C fn sc a e
  | .rng2 a b, .Call (.Name id _) [e, f] [] _ => decide (id = "range") && glB sc id && chkE C fn sc a e && chkE C fn sc b f
  | .enum a, .Call (.Name id _) [e] [] _ => decide (id = "enumerate") && glB sc id && chkE C fn sc a e
  | .zip a b, .Call (.Name id _) [e, f] [] _ => decide (id = "zip") && glB sc id && chkE C fn sc a e && chkE C fn sc b f
  | _, _ => false
end

def E0 : XK := fun _ _ _ => False
/-- what a def promises: what its run comes to -/
def spF (K : PySem.W.Frag) (Γ : FT) (np : Nat) (f : String) (fr : Bool) : Sp := fun vs H Q _ => vs.length = np ∧ ∃ O L h ds r h', CR K O L h H ∧ RepL K (O ++ liveA h L) L H ds vs ∧ Γ f ds h = some (r, h') ∧
  ∀ v H' L' T, Stp L h H L' h' H' → CR K (T ++ O) L' h' H' → (∀ a ∈ T, H a = none) → (if fr = true then VF K O T L' h' H' r v else T = [] ∧ Rep K (O ++ liveA h' L') L' H' r v) → Q v H'
structure FnG (P : Program) (w : World) (K : PySem.W.Frag) (mg : Str → Option Value) (base : Heap) (k : Nat) (f : Addr) (fd : FuncData) (ps : List Str) (sp : Sp) : Prop where
  len : ∀ vs H Q E, sp vs H Q E → vs.length = ps.length
  run : ∀ (A : Around) (outer : List Env) (s : Shared) (H : Hp) (args : Args) (us : List Value) (vs : List V) (Q : VK), Room k A → A.guards = some [] → Env0 P w K mg base A outer s H →
    BindsTo s fd args (ps.zip us) → Vals vs us → sp vs H Q (fun _ _ _ => False) → codeAny (model P w) A (.call (.ref f) args) (L2.CR CX0 outer P w H s Q (fun _ _ _ => False)) s
/-- a def stands, and keeps its promise at level k -/
def FnAv (P : Program) (w : World) (K : PySem.W.Frag) (mg : Str → Option Value) (base : Heap) (fns : List (String × Fn)) (k : Nat) (f : String) (fn : Fn) : Prop :=
  ∃ fa fd ps, mg (Str.ofString f) = some (.ref fa) ∧ PySem.W.keepIn K (.ref fa) = true ∧ Binds K fd ps [] ∧ ps.length = fn.np ∧ FnG P w K mg base k fa fd ps (spF K (callF fns k) fn.np f fn.fr)
def bltNames : List Str := ["len", "abs", "min", "max", "int", "str", "ord", "sum", "all", "any", "sorted", "list", "tuple", "bool", "isinstance", "range", "enumerate", "zip", "set", "dict"]
def frsOf (fns : List (String × Fn)) : List String := (fns.filter fun p => p.2.fr).map (·.1)
/-- what is told to be new each time is so -/
def FrOk (fns : List (String × Fn)) : Prop := ∀ f, (frsOf fns).contains f = true → ∀ fn, fns.lookup f = some fn → fn.fr = true
structure Gd (fns : List (String × Fn)) (cs : List (Str × GD)) (n : Nat) (X : Cx) : Prop where
  calm : X.calm = true
  room : Room n X.A
  gu : X.A.guards = some []
  nd : X.N.Nodup
  blt : ∀ x ∈ bltNames, X.mg x = none
  cst : ∀ x g, cs.lookup x = some g → ∃ u v, X.mg x = some u ∧ RelV v u ∧ ∀ M L H, Rep X.K M L H g.d v
  frs : FrOk fns
  fns : ∀ f fn, fns.lookup f = some fn → FnAv X.prog X.w X.K X.mg X.base fns n f fn
def ckOf (fns : List (String × Fn)) (cs : List (Str × GD)) (X : Cx) : Ck := ⟨X.N, cs, fns.map (·.1), frsOf fns⟩
section
variable {fns : List (String × Fn)} {cs : List (Str × GD)} {n : Nat} {X : Cx}
theorem Gd.blk (g : Gd fns cs n X) (s : Shared) (H : Hp) (scope : Scope) (ce : Env) (fp : List Addr) : Gd fns cs n (X.blk s H scope ce fp) :=
  ⟨g.calm, g.room, g.gu, g.nd, g.blt, g.cst, g.frs, g.fns⟩
theorem vis_of {sc : Scope} {id : Str} (h : visB sc id = true) : Vis sc id := by
  unfold visB at h
  split at h
  · exact .inl (by assumption)
  · exact .inr (.inl (by assumption))
  · exact .inr (.inr (by assumption))
  · cases h
theorem plainId_of {id : Str} (h : plainId id = true) : (id == ("__debug__" : Str)) = false ∧ (id == ("__classdict__" : Str)) = false ∧ id ≠ "__name__" := by
  unfold plainId at h
  simp only [Bool.and_eq_true, Bool.not_eq_true'] at h
  exact ⟨h.1.1, h.1.2, fun e => by rw [e] at h; simp at h⟩
theorem pe_weak {e : Expr} {t t' : TE} (p : PE X e t) (h : ∀ σ H Q, t' σ H Q → t σ H Q) : PE X e t' := ⟨fun pins s σ H Q I q => p.run pins s σ H Q I (h σ H Q q)⟩
theorem pt_weak {e : Expr} {t t' : TT} (p : PT X e t) (h : ∀ σ H Q, t' σ H Q → t σ H Q) : PT X e t' := ⟨fun pins s σ H Q I q => p.run pins s σ H Q I (h σ H Q q)⟩
theorem pa_weak {e : List Expr} {t t' : TA} (p : PA X e t) (h : ∀ σ H Q, t' σ H Q → t σ H Q) : PA X e t' := ⟨fun pos pins s σ H Q I q => p.run pos pins s σ H Q I (h σ H Q q)⟩
end

/-- a result, by the kind of the expression -/
def VR (K : PySem.W.Frag) (O T L : List Addr) (h : Hs) (H : Hp) (x : X) (d : D) (v : V) : Prop :=
  if x.fresh = true then VF K O T L h H d v else T = [] ∧ (if x.isBor = true then RepB K O L h H d v else Rep K (O ++ liveA h L) L H d v)
def tX (K : PySem.W.Frag) (Γ : FT) (x : X) : TE := fun σ H Q => ∃ O L h ρ d h', CR K O L h H ∧ SLs K O L h H ρ σ ∧ evE Γ x ρ h = some (d, h') ∧
  ∀ v H' L' T, Stp L h H L' h' H' → CR K (T ++ O) L' h' H' → (∀ a ∈ T, H a = none) → VR K O T L' h' H' x d v → Q v H'
/-- .. kept by no one else, or by everyone -/
def tS (K : PySem.W.Frag) (Γ : FT) (x : X) : TE := fun σ H Q => ∃ O L h ρ d h', CR K O L h H ∧ SLs K O L h H ρ σ ∧ evE Γ x ρ h = some (d, h') ∧
  ∀ v H' L', Stp L h H L' h' H' → CR K O L' h' H' → Rep K (O ++ liveA h' L') L' H' d v → Q v H'
/-- .. looked at -/
def tB (K : PySem.W.Frag) (Γ : FT) (x : X) : TE := fun σ H Q => ∃ O L h ρ d h', CR K O L h H ∧ SLs K O L h H ρ σ ∧ evE Γ x ρ h = some (d, h') ∧
  ∀ v H' L', Stp L h H L' h' H' → CR K O L' h' H' → RepB K O L' h' H' d v → Q v H'
/-- .. a new list -/
def tF (K : PySem.W.Frag) (Γ : FT) (x : X) : TE := fun σ H Q => ∃ O L h ρ d h', CR K O L h H ∧ SLs K O L h H ρ σ ∧ evE Γ x ρ h = some (d, h') ∧
  ∀ v H' L' T, Stp L h H L' h' H' → CR K (T ++ O) L' h' H' → (∀ a ∈ T, H a = none) → VF K O T L' h' H' d v → Q v H'
section
variable {K : PySem.W.Frag} {Γ : FT} {x : X} {X' : Cx} {e : Expr}
theorem VR.s {O T L : List Addr} {h : Hs} {H : Hp} {d : D} {v : V} (c : CR K (T ++ O) L h H) (nb : x.isBor = false) (r : VR K O T L h H x d v) : Rep K (O ++ liveA h L) L H d v := by
  unfold VR at r
  split at r
  · exact r.rep c
  · rw [if_neg (by rw [nb]; exact Bool.false_ne_true)] at r
    exact r.2
theorem VR.b {O T L : List Addr} {h : Hs} {H : Hp} {d : D} {v : V} (c : CR K (T ++ O) L h H) (r : VR K O T L h H x d v) : RepB K O L h H d v := by
  unfold VR at r
  split at r
  · exact (r.rep c).b
  · obtain ⟨_, r⟩ := r
    split at r
    · exact r
    · exact r.b
theorem toS (nb : x.isBor = false) (p : PE X' e (tX K Γ x)) : PE X' e (tS K Γ x) := pe_weak p fun σ H Q ⟨O, L, h, ρ, d, h', c, sl, ev, q⟩ =>
  ⟨O, L, h, ρ, d, h', c, sl, ev, fun v H' L' T st c' _ r => q v H' L' st c'.dropT (r.s c' nb)⟩
theorem toB (p : PE X' e (tX K Γ x)) : PE X' e (tB K Γ x) := pe_weak p fun σ H Q ⟨O, L, h, ρ, d, h', c, sl, ev, q⟩ =>
  ⟨O, L, h, ρ, d, h', c, sl, ev, fun v H' L' T st c' _ r => q v H' L' st c'.dropT (r.b c')⟩
theorem toF (f : x.fresh = true) (p : PE X' e (tX K Γ x)) : PE X' e (tF K Γ x) := pe_weak p fun σ H Q ⟨O, L, h, ρ, d, h', c, sl, ev, q⟩ =>
  ⟨O, L, h, ρ, d, h', c, sl, ev, fun v H' L' T st c' hT r => q v H' L' T st c' hT (by unfold VR at r; rw [if_pos f] at r; exact r)⟩
/-- a plain result -/
theorem ofS (f : x.fresh = false) (nb : x.isBor = false) (p : PE X' e (tS K Γ x)) : PE X' e (tX K Γ x) := pe_weak p fun σ H Q ⟨O, L, h, ρ, d, h', c, sl, ev, q⟩ =>
  ⟨O, L, h, ρ, d, h', c, sl, ev, fun v H' L' st c' r => q v H' L' [] st c' nT (by unfold VR; rw [if_neg (by rw [f]; exact Bool.false_ne_true)]; exact ⟨rfl, by rw [if_neg (by rw [nb]; exact Bool.false_ne_true)]; exact r⟩)⟩
theorem ofF (f : x.fresh = true) (p : PE X' e (tF K Γ x)) : PE X' e (tX K Γ x) := pe_weak p fun σ H Q ⟨O, L, h, ρ, d, h', c, sl, ev, q⟩ =>
  ⟨O, L, h, ρ, d, h', c, sl, ev, fun v H' L' T st c' hT r => q v H' L' T st c' hT (by unfold VR; rw [if_pos f]; exact r)⟩
end
/-- arguments -/
def RV (K : PySem.W.Frag) (st : Bool) (O L : List Addr) (h : Hs) (H : Hp) (d : D) (v : V) : Prop := if st = true then Rep K (O ++ liveA h L) L H d v else RepB K O L h H d v
def tL (K : PySem.W.Frag) (Γ : FT) (st : Bool) (xs : List X) : TA := fun σ H Q => ∃ O L h ρ ds h', CR K O L h H ∧ SLs K O L h H ρ σ ∧ evL Γ xs ρ h = some (ds, h') ∧
  ∀ vs H' L', Stp L h H L' h' H' → CR K O L' h' H' → Paired (RV K st O L' h' H') ds vs → Q vs H'
theorem RV.stp {K : PySem.W.Frag} {st : Bool} {O L L' : List Addr} {h h' : Hs} {H H' : Hp} (s : Stp L h H L' h' H') {d : D} {v : V} (r : RV K st O L h H d v) : RV K st O L' h' H' d v := by
  unfold RV at r ⊢
  cases st with
  | true => exact Rep.mv s.mv d v r
  | false => exact RepB.stp s r
theorem repL_of {K : PySem.W.Frag} {O L : List Addr} {h : Hs} {H : Hp} : ∀ {ds : List D} {vs : List V}, Paired (RV K true O L h H) ds vs → RepL K (O ++ liveA h L) L H ds vs
  | _, _, .nil => RepL.nil
  | _, _, .cons r t => RepL.cons (by simpa [RV] using r) (repL_of t)
theorem repB_of {K : PySem.W.Frag} {O L : List Addr} {h : Hs} {H : Hp} : ∀ {ds : List D} {vs : List V}, Paired (RV K false O L h H) ds vs → Paired (RepB K O L h H) ds vs
  | _, _, .nil => .nil
  | _, _, .cons r t => .cons (by simpa [RV] using r) (repB_of t)
/-- what is walked -/
def WkOk (K : PySem.W.Frag) (O L : List Addr) (h : Hs) (H : Hp) (st : Bool) (J : L2.It) (xs : List D) : Prop :=
  ∃ (W : List Addr) (G : Hp → Prop) (Yd : Nat → Hp → V → Hp → Prop), Walk J xs.length G Yd ∧ (∀ a ∈ W, (∃ o, H a = some o) ∧ a ∉ liveA h L ∧ (st = true → a ∉ O)) ∧
    ∀ O1 L1 h1 H1, Mv (O ++ liveA h L) (O1 ++ liveA h1 L1) L L1 H H1 → CR K O1 L1 h1 H1 → (∀ a ∈ W, ∀ o, H a = some o → H1 a = some o) →
      G H1 ∧ ∀ i x H2, i < xs.length → Yd i H1 x H2 → ∃ d, xs[i]? = some d ∧ Stp L1 h1 H1 L1 h1 H2 ∧ CR K O1 L1 h1 H2 ∧ Rep K (O1 ++ liveA h1 L1) L1 H2 d x
def It.isBor : It → Bool
  | .over a => a.isBor
  | .enum a => a.isBor
  | .zip a b => a.isBor || b.isBor
  | _ => false
def tI (K : PySem.W.Frag) (Γ : FT) (it : It) : TI := fun σ H R => ∃ O L h ρ xs h', CR K O L h H ∧ SLs K O L h H ρ σ ∧ evI Γ it ρ h = some (xs, h') ∧
  ∀ J H' L', Stp L h H L' h' H' → CR K O L' h' H' → WkOk K O L' h' H' (!it.isBor) J xs → xs.length ≤ sizeLine → R J H'
end Ev

namespace Ev
open PySem L2

theorem bs {α β : Type} {o : Option α} {f : α → Option β} {b : β} (h : (o >>= f) = some b) : ∃ a, o = some a ∧ f a = some b := by
  cases o with
  | none => cases h
  | some a => exact ⟨a, rfl, h⟩
theorem ms {α β : Type} {o : Option α} {f : α → β} {b : β} (h : o.map f = some b) : ∃ a, o = some a ∧ f a = b := Option.map_eq_some_iff.mp h
section
variable {n : Nat} {X' : Cx} {K : PySem.W.Frag} {Γ : FT} {pos : Pos}
theorem VR.plain {O L : List Addr} {h : Hs} {H : Hp} {x : X} {d : D} {v : V} (f : x.fresh = false) (nb : x.isBor = false) (r : Rep K (O ++ liveA h L) L H d v) : VR K O [] L h H x d v := by
  unfold VR
  rw [if_neg (by rw [f]; exact Bool.false_ne_true)]
  exact ⟨rfl, by rw [if_neg (by rw [nb]; exact Bool.false_ne_true)]; exact r⟩
theorem VR.new {O T L : List Addr} {h : Hs} {H : Hp} {x : X} {d : D} {v : V} (f : x.fresh = true) (r : VF K O T L h H d v) : VR K O T L h H x d v := by
  unfold VR; rw [if_pos f]; exact r
/-- constants -/
theorem c_const {x : X} {e : Expr} {d : D} {v : V} (f : x.fresh = false) (nb : x.isBor = false) (p : PE X' e (tC v)) (ev : ∀ ρ h d' h', evE Γ x ρ h = some (d', h') → d' = d ∧ h' = h)
    (r : ∀ M L H, Rep X'.K M L H d v) : PE X' e (tX X'.K Γ x) := pe_weak p fun σ H Q ⟨O, L, h, ρ, d', h', c, sl, e1, q⟩ => by
  obtain ⟨rfl, rfl⟩ := ev ρ h d' h' e1
  exact q v H L [] Stp.refl c nT (VR.plain f nb (r _ _ _))
theorem c_var {i : Nat} {id : Str} (hN : X'.N[i]? = some id) (hv : visB X'.env.scope id = true) (hp : plainId id = true) : PE X' (.Name id pos) (tX X'.K Γ (.var i)) := by
  obtain ⟨p1, p2, p3⟩ := plainId_of hp
  refine pe_weak (pe_var hN (vis_of hv) p1 p2) fun σ H Q ⟨O, L, h, ρ, d, h', c, sl, ev, q⟩ => ?_
  simp only [evE] at ev
  obtain ⟨d', e1, e2⟩ := ms ev
  cases e2
  unfold getV at e1
  split at e1
  · rename_i d0 e0
    cases e1
    obtain ⟨ov, s1, s2⟩ := sl.at_ i _ e0
    obtain ⟨v, rfl, r⟩ := s2
    exact ⟨v, s1, q v H L [] Stp.refl c nT (VR.plain rfl rfl r)⟩
  · cases e1
theorem c_bor {i : Nat} {id : Str} (hN : X'.N[i]? = some id) (hv : visB X'.env.scope id = true) (hp : plainId id = true) : PE X' (.Name id pos) (tX X'.K Γ (.bor i)) := by
  obtain ⟨p1, p2, p3⟩ := plainId_of hp
  refine pe_weak (pe_var hN (vis_of hv) p1 p2) fun σ H Q ⟨O, L, h, ρ, d, h', c, sl, ev, q⟩ => ?_
  simp only [evE] at ev
  obtain ⟨d', e1, e2⟩ := ms ev
  cases e2
  unfold getB at e1
  split at e1
  · rename_i d0 e0
    cases e1
    obtain ⟨ov, s1, s2⟩ := sl.at_ i _ e0
    obtain ⟨a, vs, rfl, ha, hH, z, r⟩ := s2
    refine ⟨.ref a, s1, q _ H L [] Stp.refl c nT ?_⟩
    exact ⟨rfl, a, vs, rfl, hH, c.not_live ha, z, r⟩
  · rename_i e0
    obtain ⟨ov, s1, s2⟩ := sl.at_ i _ e0
    exact s2.elim
  · cases e1
theorem c_bin {o : BOp} {a b : X} {l r : Expr} (pa : PE X' l (tX X'.K Γ a)) (pb : PE X' r (tX X'.K Γ b)) : PE X' (.BinOp l (opOf o) r pos) (tX X'.K Γ (.bin o a b)) := by
  refine pe_weak (pe_op (op_bin o) (toB pa) (toB pb)) fun σ H Q ⟨O, L, h, ρ, d, h', c, sl, ev, q⟩ => ?_
  simp only [evE] at ev
  obtain ⟨⟨x, h1⟩, e1, ev⟩ := bs ev
  obtain ⟨⟨y, h2⟩, e2, ev⟩ := bs ev
  obtain ⟨z, hz, e3⟩ := ms ev
  cases e3
  refine ⟨O, L, h, ρ, x, h1, c, sl, e1, fun v1 H1 L1 st1 c1 r1 => ⟨O, L1, h1, ρ, y, _, c1, sl.stp c st1, e2, fun v2 H2 L2 st2 c2 r2 => ?_⟩⟩
  exact ⟨O, L2, _, x, y, d, c2, r1.stp st2, r2, hz, fun v H' T st3 c3 hT vf => q v H' L2 T ((st1.trans st2).trans st3) c3 (fun a m => (st1.trans st2).none (hT a m)) (VR.new rfl vf)⟩
theorem c_neg {a : X} {l : Expr} (pa : PE X' l (tX X'.K Γ a)) : PE X' (.UnaryOp .USub l pos) (tX X'.K Γ (.neg a)) := by
  refine pe_weak (pe_un un_negS (toB pa)) fun σ H Q ⟨O, L, h, ρ, d, h', c, sl, ev, q⟩ => ?_
  simp only [evE] at ev
  obtain ⟨⟨x, h1⟩, e1, ev⟩ := bs ev
  obtain ⟨z, hz, e3⟩ := ms ev
  cases e3
  cases x with
  | int i =>
    cases hz
    exact ⟨O, L, h, ρ, _, _, c, sl, e1, fun v1 H1 L1 st1 c1 r1 => .inl ⟨i, rb_int r1, q _ H1 L1 [] st1 c1 nT (VR.plain rfl rfl (rep_int _))⟩⟩
  | bl b =>
    cases hz
    exact ⟨O, L, h, ρ, _, _, c, sl, e1, fun v1 H1 L1 st1 c1 r1 => .inr ⟨b, rb_bl r1, q _ H1 L1 [] st1 c1 nT (VR.plain rfl rfl (rep_int _))⟩⟩
  | _ => cases hz
theorem formE (C : Ck) (fn : Str → Bool) (sc : Scope) : ∀ (a : X) (e : Expr), chkE C fn sc a e = true → (∀ es k p, e ≠ .Set es k p) ∧ (∀ l u s p, e ≠ .Slice l u s p) ∧ ∀ x p, e ≠ .Starred x p
  | .alloc a, e, h => by
    simp only [chkE, Bool.and_eq_true] at h
    exact formE C fn sc a e h.1
  | .non, e, h | .bl _, e, h | .int _, e, h | .str _, e, h | .var _, e, h | .bor _, e, h | .glob _ _, e, h | .bin _ _ _, e, h | .neg _, e, h | .cmp _ _ _, e, h | .cmp2 _ _ _ _ _, e, h
  | .both _ _, e, h | .not _, e, h | .ife _ _ _, e, h | .idx _ _, e, h | .sl _ _ _, e, h | .tup _, e, h | .lst _, e, h | .call _ _, e, h | .bi _ _, e, h | .isin _ _, e, h | .sset _, e, h
  | .sm _ _ _, e, h | .pcall _ _ _, e, h | .dnew, e, h | .dnew1 _ _, e, h | .dget _ _, e, h | .din _ _ _, e, h | .dget2 _ _ _, e, h | .rev _, e, h | .trng _, e, h | .lrng _, e, h | .comp _ _ _ _ _, e, h => by
    refine ⟨fun es k p q => ?_, fun l u s p q => ?_, fun x p q => ?_⟩ <;> (subst q; simp [chkE] at h)
theorem nomarkE (a : X) (C : Ck) (fn : Str → Bool) (sc : Scope) {e : Expr} (h : chkE C fn sc a e = true) (op : CmpOp) : behindInMarks op e = false := by
  have f := (formE C fn sc a e h).1
  cases e with
  | Set es k p => exact absurd rfl (f es k p)
  | _ => rfl
theorem room70 {X : Cx} (hr : Room n X.A) : X.A.units + 70 < cLine := by have := hr.un; omega
theorem room65 {X : Cx} (hr : Room n X.A) : X.A.units + 65 < cLine := by have := hr.un; omega
theorem c_cmp {o : COp} {a b : X} {l r : Expr} (hr : Room n X'.A) (hm : behindInMarks (copOf o) r = false) (pa : PE X' l (tX X'.K Γ a)) (pb : PE X' r (tX X'.K Γ b)) : PE X' (.Compare l [copOf o] [r] pos) (tX X'.K Γ (.cmp o a b)) := by
  refine pe_weak (pe_cmpR (op_cmp o (room65 hr)) (toB pa) (toB pb) hm) fun σ H Q ⟨O, L, h, ρ, d, h', c, sl, ev, q⟩ => ?_
  simp only [evE] at ev
  obtain ⟨⟨x, h1⟩, e1, ev⟩ := bs ev
  obtain ⟨⟨y, h2⟩, e2, ev⟩ := bs ev
  obtain ⟨z, hz, e3⟩ := ms ev
  cases e3
  refine ⟨O, L, h, ρ, x, h1, c, sl, e1, fun v1 H1 L1 st1 c1 r1 => ⟨O, L1, h1, ρ, y, _, c1, sl.stp c st1, e2, fun v2 H2 L2 st2 c2 r2 => ?_⟩⟩
  exact ⟨O, L2, _, x, y, z, c2, r1.stp st2, r2, hz, q _ H2 L2 [] (st1.trans st2) c2 nT (VR.plain rfl rfl (rep_bl _))⟩
theorem c_cmp2 {o p : COp} {a b d : X} {l r t : Expr} (hr : Room n X'.A) (hm : behindInMarks (copOf p) t = false) (pa : PE X' l (tX X'.K Γ a)) (pb : PE X' r (tX X'.K Γ b)) (pd : PE X' t (tX X'.K Γ d)) :
    PE X' (.Compare l [copOf o, copOf p] [r, t] pos) (tX X'.K Γ (.cmp2 o p a b d)) := by
  refine pe_weak (pe_chain (op_cmp o (room65 hr)) (op_cmp p (room65 hr)) (toB pa) (toB pb) (toB pd) hm) fun σ H Q ⟨O, L, h, ρ, d, h', c, sl, ev, q⟩ => ?_
  simp only [evE] at ev
  obtain ⟨⟨x, h1⟩, e1, ev⟩ := bs ev
  obtain ⟨⟨y, h2⟩, e2, ev⟩ := bs ev
  obtain ⟨k, hk, ev⟩ := bs ev
  refine ⟨O, L, h, ρ, x, h1, c, sl, e1, fun v1 H1 L1 st1 c1 r1 => ⟨O, L1, h1, ρ, y, _, c1, sl.stp c st1, e2, fun v2 H2 L2 st2 c2 r2 => ?_⟩⟩
  refine ⟨O, L2, _, x, y, k, c2, r1.stp st2, r2, hk, k, rfl, ?_⟩
  cases k with
  | true =>
    rw [if_pos rfl] at ev ⊢
    obtain ⟨⟨z, h3⟩, e3, ev⟩ := bs ev
    obtain ⟨w, hw, e4⟩ := ms ev
    cases e4
    refine ⟨O, L2, h2, ρ, z, _, c2, (sl.stp c st1).stp c1 st2, e3, fun v3 H3 L3 st3 c3 r3 => ?_⟩
    exact ⟨O, L3, _, y, z, w, c3, r2.stp st3, r3, hw, q _ H3 L3 [] ((st1.trans st2).trans st3) c3 nT (VR.plain rfl rfl (rep_bl _))⟩
  | false =>
    rw [if_neg Bool.false_ne_true] at ev ⊢
    cases ev
    exact q _ H2 L2 [] (st1.trans st2) c2 nT (VR.plain rfl rfl (rep_bl _))
/-- a test's reading -/
def tT (K : PySem.W.Frag) (Γ : FT) (x : X) : TT := fun σ H Q => ∃ O L h ρ b h', CR K O L h H ∧ SLs K O L h H ρ σ ∧ evE Γ x ρ h = some (.bl b, h') ∧
  ∀ H' L', Stp L h H L' h' H' → CR K O L' h' H' → Q b H'
theorem t_of {x : X} {e : Expr} (p : PE X' e (tX X'.K Γ x)) (he : ∀ whole, isTrue e X'.env whole = (do let v ← whole; standAt e.pos; holding [v] (truthy v))) : PT X' e (tT X'.K Γ x) :=
  pt_weak (pt_val (toB p) he) fun σ H Q ⟨O, L, h, ρ, b, h', c, sl, ev, q⟩ => ⟨O, L, h, ρ, _, h', c, sl, ev, fun v H' L' st c' r => ⟨b, rb_bl r, q H' L' st c'⟩⟩
theorem c_not {a : X} {l : Expr} (pa : PE X' l (tX X'.K Γ a)) : PE X' (.UnaryOp .Not l pos) (tX X'.K Γ (.not a)) := by
  refine pe_weak (pe_not (toB pa)) fun σ H Q ⟨O, L, h, ρ, d, h', c, sl, ev, q⟩ => ?_
  simp only [evE] at ev
  obtain ⟨⟨x, h1⟩, e1, ev⟩ := bs ev
  obtain ⟨i, hz, e3⟩ := ms ev
  cases e3
  have hx : x = .bl i := by cases x <;> simp [asBl] at hz; rw [hz]
  subst hx
  exact ⟨O, L, h, ρ, _, _, c, sl, e1, fun v1 H1 L1 st1 c1 r1 => ⟨i, rb_bl r1, q _ H1 L1 [] st1 c1 nT (VR.plain rfl rfl (rep_bl _))⟩⟩
theorem t_not {a : X} {l : Expr} (pa : PT X' l (tT X'.K Γ a)) : PT X' (.UnaryOp .Not l pos) (tT X'.K Γ (.not a)) := by
  refine pt_weak (pt_not pa) fun σ H Q ⟨O, L, h, ρ, b, h', c, sl, ev, q⟩ => ?_
  simp only [evE] at ev
  obtain ⟨⟨x, h1⟩, e1, ev⟩ := bs ev
  obtain ⟨i, hz, e3⟩ := ms ev
  cases e3
  have hx : x = .bl i := by cases x <;> simp [asBl] at hz; rw [hz]
  subst hx
  exact ⟨O, L, h, ρ, i, _, c, sl, e1, fun H' L' st c' => q H' L' st c'⟩
theorem t_cmp {o : COp} {a b : X} {l r : Expr} (hr : Room n X'.A) (hm : behindInMarks (copOf o) r = false) (pa : PE X' l (tX X'.K Γ a)) (pb : PE X' r (tX X'.K Γ b)) : PT X' (.Compare l [copOf o] [r] pos) (tT X'.K Γ (.cmp o a b)) := by
  refine pt_weak (pt_cmpR (op_cmp o (room65 hr)) (toB pa) (toB pb) hm) fun σ H Q ⟨O, L, h, ρ, k, h', c, sl, ev, q⟩ => ?_
  simp only [evE] at ev
  obtain ⟨⟨x, h1⟩, e1, ev⟩ := bs ev
  obtain ⟨⟨y, h2⟩, e2, ev⟩ := bs ev
  obtain ⟨z, hz, e3⟩ := ms ev
  cases e3
  refine ⟨O, L, h, ρ, x, h1, c, sl, e1, fun v1 H1 L1 st1 c1 r1 => ⟨O, L1, h1, ρ, y, _, c1, sl.stp c st1, e2, fun v2 H2 L2 st2 c2 r2 => ?_⟩⟩
  exact ⟨O, L2, _, x, y, _, c2, r1.stp st2, r2, hz, _, rfl, q H2 L2 (st1.trans st2) c2⟩
theorem t_cmp2 {o p : COp} {a b d : X} {l r t : Expr} (hr : Room n X'.A) (hm : behindInMarks (copOf p) t = false) (pa : PE X' l (tX X'.K Γ a)) (pb : PE X' r (tX X'.K Γ b)) (pd : PE X' t (tX X'.K Γ d)) :
    PT X' (.Compare l [copOf o, copOf p] [r, t] pos) (tT X'.K Γ (.cmp2 o p a b d)) := by
  refine pt_weak (pt_chain (op_cmp o (room65 hr)) (op_cmp p (room65 hr)) (toB pa) (toB pb) (toB pd) hm) fun σ H Q ⟨O, L, h, ρ, w, h', c, sl, ev, q⟩ => ?_
  simp only [evE] at ev
  obtain ⟨⟨x, h1⟩, e1, ev⟩ := bs ev
  obtain ⟨⟨y, h2⟩, e2, ev⟩ := bs ev
  obtain ⟨k, hk, ev⟩ := bs ev
  refine ⟨O, L, h, ρ, x, h1, c, sl, e1, fun v1 H1 L1 st1 c1 r1 => ⟨O, L1, h1, ρ, y, _, c1, sl.stp c st1, e2, fun v2 H2 L2 st2 c2 r2 => ?_⟩⟩
  refine ⟨O, L2, _, x, y, k, c2, r1.stp st2, r2, hk, k, rfl, ?_⟩
  cases k with
  | true =>
    rw [if_pos rfl] at ev ⊢
    obtain ⟨⟨z, h3⟩, e3, ev⟩ := bs ev
    obtain ⟨w, hw, e4⟩ := ms ev
    cases e4
    refine ⟨O, L2, h2, ρ, z, _, c2, (sl.stp c st1).stp c1 st2, e3, fun v3 H3 L3 st3 c3 r3 => ?_⟩
    exact ⟨O, L3, _, y, z, _, c3, r2.stp st3, r3, hw, _, rfl, q H3 L3 ((st1.trans st2).trans st3) c3⟩
  | false =>
    rw [if_neg Bool.false_ne_true] at ev ⊢
    cases ev
    exact ⟨_, rfl, q H2 L2 (st1.trans st2) c2⟩
theorem c_ife {a b t : X} {c l r : Expr} (nba : a.isBor = false) (nbb : b.isBor = false) (pt : PT X' c (tT X'.K Γ t)) (pa : PE X' l (tX X'.K Γ a)) (pb : PE X' r (tX X'.K Γ b)) :
    PE X' (.IfExp c l r pos) (tX X'.K Γ (.ife t a b)) := by
  refine pe_weak (pe_ifExp pt (toS nba pa) (toS nbb pb)) fun σ H Q ⟨O, L, h, ρ, d, h', c, sl, ev, q⟩ => ?_
  simp only [evE] at ev
  obtain ⟨⟨x, h1⟩, e1, ev⟩ := bs ev
  obtain ⟨k, hk, ev⟩ := bs ev
  have hx : x = .bl k := by cases x <;> simp [asBl] at hk; rw [hk]
  subst hx
  refine ⟨O, L, h, ρ, k, h1, c, sl, e1, fun H1 L1 st1 c1 => ?_⟩
  cases k with
  | true =>
    rw [if_pos rfl] at ev ⊢
    exact ⟨O, L1, h1, ρ, d, h', c1, sl.stp c st1, ev, fun v2 H2 L2 st2 c2 r2 => q _ H2 L2 [] (st1.trans st2) c2 nT (VR.plain rfl rfl r2)⟩
  | false =>
    rw [if_neg Bool.false_ne_true] at ev ⊢
    exact ⟨O, L1, h1, ρ, d, h', c1, sl.stp c st1, ev, fun v2 H2 L2 st2 c2 r2 => q _ H2 L2 [] (st1.trans st2) c2 nT (VR.plain rfl rfl r2)⟩
theorem pt_ife {c l r : Expr} {tc ta tb : TT} (hc : PT X' c tc) (ha : PT X' l ta) (hb : PT X' r tb) : PT X' (.IfExp c l r pos) (fun σ H Q => tc σ H fun k H1 => if k = true then ta σ H1 Q else tb σ H1 Q) := by
  refine ⟨fun pins s σ H Q I h => ?_⟩
  show wpAny _ _ (do if ← isTrue c X'.env (eval c X'.env) then isTrue l X'.env (eval l X'.env) else isTrue r X'.env (eval r X'.env)) _ _ s
  refine wpAny_bind (thn (hc.run pins s σ H _ I h) fun k s1 ⟨H1, I1, q1⟩ => ?_)
  cases k with
  | true => exact ha.run pins s1 σ H1 Q I1 q1
  | false => exact hb.run pins s1 σ H1 Q I1 q1
theorem t_ife {a b t : X} {c l r : Expr} (pt : PT X' c (tT X'.K Γ t)) (pa : PT X' l (tT X'.K Γ a)) (pb : PT X' r (tT X'.K Γ b)) : PT X' (.IfExp c l r pos) (tT X'.K Γ (.ife t a b)) := by
  refine pt_weak (pt_ife pt pa pb) fun σ H Q ⟨O, L, h, ρ, d, h', c, sl, ev, q⟩ => ?_
  simp only [evE] at ev
  obtain ⟨⟨x, h1⟩, e1, ev⟩ := bs ev
  obtain ⟨k, hk, ev⟩ := bs ev
  have hx : x = .bl k := by cases x <;> simp [asBl] at hk; rw [hk]
  subst hx
  refine ⟨O, L, h, ρ, k, h1, c, sl, e1, fun H1 L1 st1 c1 => ?_⟩
  cases k with
  | true =>
    rw [if_pos rfl] at ev ⊢
    exact ⟨O, L1, h1, ρ, d, h', c1, sl.stp c st1, ev, fun H2 L2 st2 c2 => q H2 L2 (st1.trans st2) c2⟩
  | false =>
    rw [if_neg Bool.false_ne_true] at ev ⊢
    exact ⟨O, L1, h1, ρ, d, h', c1, sl.stp c st1, ev, fun H2 L2 st2 c2 => q H2 L2 (st1.trans st2) c2⟩
def tAn (K : PySem.W.Frag) (Γ : FT) (k : Bool) (xs : List X) : TE := fun σ H Q => ∃ O L h ρ b h', CR K O L h H ∧ SLs K O L h H ρ σ ∧ evAnd Γ k xs ρ h = some (.bl b, h') ∧
  ∀ H' L', Stp L h H L' h' H' → CR K O L' h' H' → Q (.bl b) H'
def tAnT (K : PySem.W.Frag) (Γ : FT) (k : Bool) (xs : List X) : TT := fun σ H Q => ∃ O L h ρ b h', CR K O L h H ∧ SLs K O L h H ρ σ ∧ evAnd Γ k xs ρ h = some (.bl b, h') ∧
  ∀ H' L', Stp L h H L' h' H' → CR K O L' h' H' → Q b H'
theorem asBl_some {d : D} {b : Bool} (h : asBl d = some b) : d = .bl b := by cases d <;> simp [asBl] at h; rw [h]
theorem asInt_some {d : D} {b : Int} (h : asInt d = some b) : d = .int b := by cases d <;> simp [asInt] at h; rw [h]
theorem evAnd_cons {k : Bool} {x y : X} {r : List X} {ρ : Rho} {h h' : Hs} {d : D} (ev : evAnd Γ k (x :: y :: r) ρ h = some (d, h')) : ∃ b h1, evE Γ x ρ h = some (.bl b, h1) ∧ (if b = k then evAnd Γ k (y :: r) ρ h1 else some (.bl b, h1)) = some (d, h') := by
  rw [evAnd] at ev
  obtain ⟨⟨z, h1⟩, e1, ev⟩ := bs ev
  obtain ⟨b, hb, ev⟩ := bs ev
  have := asBl_some hb
  subst this
  exact ⟨b, h1, e1, ev⟩
theorem evAnd_one {k : Bool} {x : X} {ρ : Rho} {h h' : Hs} {d : D} (ev : evAnd Γ k [x] ρ h = some (d, h')) : ∃ b, d = .bl b ∧ evE Γ x ρ h = some (.bl b, h') := by
  rw [evAnd] at ev
  obtain ⟨⟨z, h1⟩, e1, ev⟩ := bs ev
  obtain ⟨b, hb, ev⟩ := bs ev
  have := asBl_some hb
  subst this
  cases ev
  exact ⟨b, rfl, e1⟩
theorem evAnd_bl {k : Bool} : ∀ {xs : List X} {ρ : Rho} {h h' : Hs} {d : D}, evAnd Γ k xs ρ h = some (d, h') → ∃ b, d = .bl b
  | [], _, _, _, _, ev => by rw [evAnd] at ev; cases ev
  | [x], _, _, _, _, ev => by obtain ⟨b, e, _⟩ := evAnd_one ev; exact ⟨b, e⟩
  | x :: y :: r, _, _, _, _, ev => by
    obtain ⟨b, h1, e1, ev⟩ := evAnd_cons ev
    split at ev
    · exact evAnd_bl ev
    · cases ev; exact ⟨b, rfl⟩
def bop (k : Bool) : BoolOp := if k = true then .And else .Or
theorem an_one {k : Bool} {x : X} {e : Expr} (p : PE X' e (tX X'.K Γ x)) : PE X' (.BoolOp (bop k) [e] pos) (tAn X'.K Γ k [x]) :=
  pe_weak (pe_one (toB p)) fun σ H Q ⟨O, L, h, ρ, b, h', c, sl, ev, q⟩ => by
    obtain ⟨b', e1, e2⟩ := evAnd_one ev
    cases e1
    exact ⟨O, L, h, ρ, _, h', c, sl, e2, fun v H' L' st c' r => by rw [rb_bl r]; exact q H' L' st c'⟩
theorem an_cons {k : Bool} {x y : X} {r : List X} {e f : Expr} {es : List Expr} (p : PE X' e (tX X'.K Γ x)) (pr : PE X' (.BoolOp (bop k) (f :: es) pos) (tAn X'.K Γ k (y :: r))) :
    PE X' (.BoolOp (bop k) (e :: f :: es) pos) (tAn X'.K Γ k (x :: y :: r)) := by
  cases k with
  | true =>
    refine pe_weak (pe_and (toB p) pr) fun σ H Q ⟨O, L, h, ρ, b, h', c, sl, ev, q⟩ => ?_
    obtain ⟨b1, h1, e1, ev⟩ := evAnd_cons ev
    refine ⟨O, L, h, ρ, _, h1, c, sl, e1, fun v H1 L1 st c1 r1 => ⟨b1, rb_bl r1, ?_⟩⟩
    cases b1 with
    | true =>
      rw [if_pos rfl] at ev ⊢
      exact ⟨O, L1, h1, ρ, b, h', c1, sl.stp c st, ev, fun H2 L2 st2 c2 => q H2 L2 (st.trans st2) c2⟩
    | false =>
      rw [if_neg Bool.false_ne_true] at ev ⊢
      cases ev
      exact q H1 L1 st c1
  | false =>
    refine pe_weak (pe_or (toB p) pr) fun σ H Q ⟨O, L, h, ρ, b, h', c, sl, ev, q⟩ => ?_
    obtain ⟨b1, h1, e1, ev⟩ := evAnd_cons ev
    refine ⟨O, L, h, ρ, _, h1, c, sl, e1, fun v H1 L1 st c1 r1 => ⟨b1, rb_bl r1, ?_⟩⟩
    cases b1 with
    | false =>
      rw [if_pos rfl] at ev
      rw [if_neg Bool.false_ne_true]
      exact ⟨O, L1, h1, ρ, b, h', c1, sl.stp c st, ev, fun H2 L2 st2 c2 => q H2 L2 (st.trans st2) c2⟩
    | true =>
      rw [if_neg (by decide)] at ev
      rw [if_pos rfl]
      cases ev
      exact q H1 L1 st c1
theorem ant_one {k : Bool} {x : X} {e : Expr} (p : PT X' e (tT X'.K Γ x)) : PW X' (.BoolOp (bop k) [e] pos) (tAnT X'.K Γ k [x]) := by
  have w : PW X' (.BoolOp (bop k) [e] pos) (tT X'.K Γ x) := by
    cases k with
    | true => exact pw_and1 p
    | false => exact pw_or1 p
  refine ⟨fun wh pins s σ H Q I ⟨O, L, h, ρ, b, h', c, sl, ev, q⟩ => w.run wh pins s σ H Q I ?_⟩
  obtain ⟨b', e1, e2⟩ := evAnd_one ev
  cases e1
  exact ⟨O, L, h, ρ, b, h', c, sl, e2, q⟩
theorem ant_cons {k : Bool} {x y : X} {r : List X} {e f : Expr} {es : List Expr} (p : PT X' e (tT X'.K Γ x)) (pr : PW X' (.BoolOp (bop k) (f :: es) pos) (tAnT X'.K Γ k (y :: r))) :
    PW X' (.BoolOp (bop k) (e :: f :: es) pos) (tAnT X'.K Γ k (x :: y :: r)) := by
  cases k with
  | true =>
    refine ⟨fun wh pins s σ H Q I ⟨O, L, h, ρ, b, h', c, sl, ev, q⟩ => (pw_and p pr).run wh pins s σ H Q I ?_⟩
    obtain ⟨b1, h1, e1, ev⟩ := evAnd_cons ev
    refine ⟨O, L, h, ρ, b1, h1, c, sl, e1, fun H1 L1 st c1 => ?_⟩
    cases b1 with
    | true =>
      rw [if_pos rfl] at ev ⊢
      exact ⟨O, L1, h1, ρ, b, h', c1, sl.stp c st, ev, fun H2 L2 st2 c2 => q H2 L2 (st.trans st2) c2⟩
    | false =>
      rw [if_neg Bool.false_ne_true] at ev ⊢
      cases ev
      exact q H1 L1 st c1
  | false =>
    refine ⟨fun wh pins s σ H Q I ⟨O, L, h, ρ, b, h', c, sl, ev, q⟩ => (pw_or p pr).run wh pins s σ H Q I ?_⟩
    obtain ⟨b1, h1, e1, ev⟩ := evAnd_cons ev
    refine ⟨O, L, h, ρ, b1, h1, c, sl, e1, fun H1 L1 st c1 => ?_⟩
    cases b1 with
    | false =>
      rw [if_pos rfl] at ev
      rw [if_neg Bool.false_ne_true]
      exact ⟨O, L1, h1, ρ, b, h', c1, sl.stp c st, ev, fun H2 L2 st2 c2 => q H2 L2 (st.trans st2) c2⟩
    | true =>
      rw [if_neg (by decide)] at ev
      rw [if_pos rfl]
      cases ev
      exact q H1 L1 st c1
theorem plainIxE (a : X) (C : Ck) (fn : Str → Bool) (sc : Scope) {e : Expr} (h : chkE C fn sc a e = true) : PlainIx e := by
  have f := (formE C fn sc a e h).2.1
  cases e with
  | Slice l u st p => exact absurd rfl (f l u st p)
  | _ => exact fun _ _ => rfl
theorem c_idx {a i : X} {l r : Expr} (hp : PlainIx r) (pa : PE X' l (tX X'.K Γ a)) (pb : PE X' r (tX X'.K Γ i)) : PE X' (.Subscript l r pos) (tX X'.K Γ (.idx a i)) := by
  refine pe_weak (pe_ix ix_run (toB pa) (toB pb) hp) fun σ H Q ⟨O, L, h, ρ, d, h', c, sl, ev, q⟩ => ?_
  simp only [evE] at ev
  obtain ⟨⟨x, h1⟩, e1, ev⟩ := bs ev
  obtain ⟨⟨y, h2⟩, e2, ev⟩ := bs ev
  have key : ∃ z, ((idxD x y = some z) ∨ ∃ n xs, x = .ref n ∧ h2[n]? = some (.lst xs) ∧ idxD (.lst xs) y = some z) ∧ d = z ∧ h' = h2 := by
    cases x with
    | ref n =>
      dsimp only at ev
      split at ev
      · rename_i xs hx
        obtain ⟨z, hz, e3⟩ := ms ev
        cases e3
        exact ⟨d, .inr ⟨_, xs, rfl, hx, hz⟩, rfl, rfl⟩
      · cases ev
    | _ =>
      obtain ⟨z, hz, e3⟩ := ms ev
      cases e3
      exact ⟨d, .inl hz, rfl, rfl⟩
  obtain ⟨z, hz, rfl, rfl⟩ := key
  refine ⟨O, L, h, ρ, x, h1, c, sl, e1, fun v1 H1 L1 st1 c1 r1 => ⟨O, L1, h1, ρ, y, _, c1, sl.stp c st1, e2, fun v2 H2 L2 st2 c2 r2 => ?_⟩⟩
  refine ⟨O, L2, h', x, y, d, c2, r2, ?_, fun v H' st3 c3 r3 => q v H' L2 [] ((st1.trans st2).trans st3) c3 nT (VR.plain rfl rfl r3)⟩
  rcases hz with hz | ⟨n, xs, e, hn, hz⟩
  · exact .inl ⟨r1.stp st2, hz⟩
  · exact .inr ⟨n, xs, e, r1.stp st2, hn, hz⟩
/-- a slice's end -/
def tOp1 (K : PySem.W.Frag) (Γ : FT) (x : X) : TO := fun σ H Q => ∃ O L h ρ d h' o, CR K O L h H ∧ SLs K O L h H ρ σ ∧ evE Γ x ρ h = some (d, h') ∧ optX x d = some o ∧
  ∀ H' L', Stp L h H L' h' H' → CR K O L' h' H' → Q o H'
theorem po_weak {e : Option Expr} {t t' : TO} (p : PO X' e t) (h : ∀ σ H Q, t' σ H Q → t σ H Q) : PO X' e t' := ⟨fun pins s σ H Q I q => p.run pins s σ H Q I (h σ H Q q)⟩
theorem nonB_eq {x : X} (h : nonB x = true) : x = .non := by cases x <;> simp [nonB] at h; rfl
theorem o_none : PO X' none (tOp1 X'.K Γ .non) := po_weak po_none fun σ H Q ⟨O, L, h, ρ, d, h', o, c, sl, ev, ho, q⟩ => by
  simp only [evE] at ev
  cases ev
  simp only [optX] at ho
  cases ho
  exact q H L Stp.refl c
/-- an expression that may not be None -/
theorem c_sl {a lo hi : X} {l : Expr} {u w : Option Expr} {p2 : Pos} (pa : PE X' l (tX X'.K Γ a)) (pl : PO X' u (tOp1 X'.K Γ lo)) (pu : PO X' w (tOp1 X'.K Γ hi)) : PE X' (.Subscript l (.Slice u w none p2) pos) (tX X'.K Γ (.sl a lo hi)) := by
  refine pe_weak (pe_slice sl_run (toB pa) pl pu) fun σ H Q ⟨O, L, h, ρ, d, h', c, sl, ev, q⟩ => ?_
  simp only [evE] at ev
  obtain ⟨⟨x, h1⟩, e1, ev⟩ := bs ev
  obtain ⟨⟨y, h2⟩, e2, ev⟩ := bs ev
  obtain ⟨⟨z, h3⟩, e3, ev⟩ := bs ev
  dsimp only at ev
  split at ev
  · rename_i lo' hi' h4 h5
    obtain ⟨z', hz, e4⟩ := ms ev
    cases e4
    refine ⟨O, L, h, ρ, x, h1, c, sl, e1, fun v1 H1 L1 st1 c1 r1 => ⟨O, L1, h1, ρ, y, h2, lo', c1, sl.stp c st1, e2, h4, fun H2 L2 st2 c2 => ⟨O, L2, h2, ρ, z, _, hi', c2, (sl.stp c st1).stp c1 st2, e3, h5, fun H3 L3 st3 c3 => ?_⟩⟩⟩
    exact ⟨O, L3, _, x, d, c3, (r1.stp st2).stp st3, hz, fun v H' T st4 c4 hT vf => q v H' L3 T (((st1.trans st2).trans st3).trans st4) c4 (fun a m => ((st1.trans st2).trans st3).none (hT a m)) (VR.new rfl vf)⟩
  · cases ev
theorem o_some {x : X} {e : Expr} (nn : nonB x = false) (p : PE X' e (tX X'.K Γ x)) : PO X' (some e) (tOp1 X'.K Γ x) := po_weak (po_some (toB p)) fun σ H Q ⟨O, L, h, ρ, d, h', o, c, sl, ev, ho, q⟩ => by
  have hd : ∃ i, d = .int i ∧ o = some i := by
    cases x <;> first
      | (simp [nonB] at nn; done)
      | (cases d <;> simp only [optX] at ho <;> first | (cases ho; done) | (cases ho; exact ⟨_, rfl, rfl⟩))
  obtain ⟨i, rfl, rfl⟩ := hd
  exact ⟨O, L, h, ρ, _, h', c, sl, ev, fun v H' L' st c' r => ⟨i, rb_int r, q H' L' st c'⟩⟩
theorem c_tup {xs : List X} {es : List Expr} {k : Nat} (p : PA X' es (tL X'.K Γ true xs)) : PE X' (.Tuple es k pos) (tX X'.K Γ (.tup xs)) := by
  refine pe_weak (pe_tup p) fun σ H Q ⟨O, L, h, ρ, d, h', c, sl, ev, q⟩ => ?_
  simp only [evE] at ev
  obtain ⟨⟨ds, h1⟩, e1, ev⟩ := bs ev
  dsimp only at ev
  split at ev
  · rename_i g
    cases ev
    refine ⟨O, L, h, ρ, ds, _, c, sl, e1, fun vs H1 L1 st1 c1 r1 => ?_⟩
    have r := repL_of r1
    have z : vs.length ≤ sizeLine := by rw [r.length]; exact Nat.le_trans g lim_le
    exact ⟨z, fun p hp => resP_tup c1 hp r z fun v H' st c' r' => q v H' L1 [] (st1.trans st) c' nT (VR.plain rfl rfl r')⟩
  · cases ev
theorem c_lst {xs : List X} {es : List Expr} (p : PA X' es (tL X'.K Γ true xs)) : PE X' (.List es pos) (tX X'.K Γ (.lst xs)) := by
  refine pe_weak (pe_lst p) fun σ H Q ⟨O, L, h, ρ, d, h', c, sl, ev, q⟩ => ?_
  simp only [evE] at ev
  obtain ⟨⟨ds, h1⟩, e1, ev⟩ := bs ev
  dsimp only at ev
  split at ev
  · rename_i g
    cases ev
    refine ⟨O, L, h, ρ, ds, _, c, sl, e1, fun vs H1 L1 st1 c1 r1 => ?_⟩
    have r := repL_of r1
    have z : vs.length ≤ sizeLine := by rw [r.length]; exact Nat.le_trans g lim_le
    exact ⟨z, fun p hp => resF_lst c1 hp r z fun v H' T st c' hT r' => q v H' L1 T (st1.trans st) c' (fun a m => st1.none (hT a m)) (VR.new rfl r')⟩
  · cases ev
theorem notStar (a : X) (C : Ck) (fn : Str → Bool) (sc : Scope) {e : Expr} (h : chkE C fn sc a e = true) (es : List Expr) (env : Env) : starEach (e :: es) env = (false, eval e env) :: starEach es env := by
  have f := (formE C fn sc a e h).2.2
  cases e with
  | Starred e' p => exact absurd rfl (f e' p)
  | _ => rfl
theorem l_nil {st : Bool} : PA X' [] (tL X'.K Γ st []) := pa_weak pa_nil fun σ H Q ⟨O, L, h, ρ, ds, h', c, sl, ev, q⟩ => by
  simp only [evL] at ev
  cases ev
  exact q [] H L Stp.refl c .nil
theorem l_cons {st : Bool} {x : X} {xs : List X} {e : Expr} {es : List Expr} (hs : starEach (e :: es) X'.env = (false, eval e X'.env) :: starEach es X'.env) (nb : (!st || !x.isBor) = true)
    (p : PE X' e (tX X'.K Γ x)) (pr : PA X' es (tL X'.K Γ st xs)) : PA X' (e :: es) (tL X'.K Γ st (x :: xs)) := by
  have p' : PE X' e (fun σ H Q => ∃ O L h ρ d h', CR X'.K O L h H ∧ SLs X'.K O L h H ρ σ ∧ evE Γ x ρ h = some (d, h') ∧
      ∀ v H' L', Stp L h H L' h' H' → CR X'.K O L' h' H' → RV X'.K st O L' h' H' d v → Q v H') := by
    cases st with
    | true => exact pe_weak (toS (by simpa using nb) p) fun σ H Q ⟨O, L, h, ρ, d, h', c, sl, ev, q⟩ => ⟨O, L, h, ρ, d, h', c, sl, ev, fun v H' L' st c' r => q v H' L' st c' (by simpa [RV] using r)⟩
    | false => exact pe_weak (toB p) fun σ H Q ⟨O, L, h, ρ, d, h', c, sl, ev, q⟩ => ⟨O, L, h, ρ, d, h', c, sl, ev, fun v H' L' st c' r => q v H' L' st c' (by simpa [RV] using r)⟩
  refine pa_weak (pa_cons p' pr hs) fun σ H Q ⟨O, L, h, ρ, ds, h', c, sl, ev, q⟩ => ?_
  simp only [evL] at ev
  obtain ⟨⟨y, h1⟩, e1, ev⟩ := bs ev
  obtain ⟨⟨ys, h2⟩, e2, ev⟩ := bs ev
  cases ev
  exact ⟨O, L, h, ρ, y, h1, c, sl, e1, fun v1 H1 L1 st1 c1 r1 => ⟨O, L1, h1, ρ, ys, _, c1, sl.stp c st1, e2, fun vs H2 L2 st2 c2 r2 => q _ H2 L2 (st1.trans st2) c2 (.cons (r1.stp st2) r2)⟩⟩
theorem starL {C : Ck} {fn : Str → Bool} {sc : Scope} {st : Bool} : ∀ {xs : List X} {es : List Expr}, chkL C fn sc st xs es = true → ∀ (env : Env) (p : Pos), (backTo p (starEach es env)).any (·.1) = false
  | [], [], _, _, _ => rfl
  | x :: xs, e :: es, h, env, p => by
    simp only [chkL, Bool.and_eq_true] at h
    rw [notStar x C fn sc h.1.1 es env]
    show (false || (backTo p (starEach es env)).any (·.1)) = false
    rw [starL h.2 env p]; rfl
  | [], _ :: _, h, _, _ => by simp [chkL] at h
  | _ :: _, [], h, _, _ => by simp [chkL] at h
end
end Ev

namespace Ev
open PySem L2
section
variable {fns : List (String × Fn)} {cs : List (Str × GD)} {n : Nat} {X' : Cx} {K : PySem.W.Frag} {Γ : FT} {pos : Pos}
theorem callF_np : ∀ {n : Nat} {f : String} {fn : Fn} {ds : List D} {h : Hs} {r : D × Hs}, fns.lookup f = some fn → callF fns n f ds h = some r → ds.length = fn.np
  | 0, _, _, _, _, _, _, e => by simp [callF] at e
  | n + 1, f, fn, ds, h, r, hf, e => by
    simp only [callF, hf] at e
    split at e
    · assumption
    · cases e
theorem gl_of {id : Str} (h : glB X'.env.scope id = true) : Gl X' id ∧ (id == ("__debug__" : Str)) = false ∧ id ≠ "__name__" := by
  unfold glB at h
  simp only [Bool.and_eq_true, decide_eq_true_eq] at h
  obtain ⟨p1, _, p3⟩ := plainId_of h.2
  exact ⟨h.1, p1, p3⟩
theorem c_call {f : String} {fn : Fn} {xs : List X} {id : Str} {p0 : Pos} {e : Expr} {es : List Expr} (g : Gd fns cs n X') (hf : fns.lookup f = some fn) (hid : id = Str.ofString f) (hg : glB X'.env.scope id = true)
    (p : PA X' (e :: es) (tL X'.K (callF fns n) true xs)) (he : starEach (e :: es) X'.env = (false, eval e X'.env) :: starEach es X'.env) (hpl : (backTo pos (starEach es X'.env)).any (·.1) = false) :
    PE X' (.Call (.Name id p0) (e :: es) [] pos) (tX X'.K (callF fns n) (.call f xs)) := by
  obtain ⟨hg, hdb, _⟩ := gl_of hg
  obtain ⟨fa, fd, ps, hm, hk, hb, hl, F⟩ := g.fns f fn hf
  subst hid
  refine ⟨fun pins s σ H Q I ⟨O, L, h, ρ, d, h', c, sl, ev, q⟩ => ?_⟩
  simp only [evE] at ev
  obtain ⟨⟨ds, h1⟩, e1, ev⟩ := bs ev
  refine wpAny_Call_Name_kw (ld_glob I hg hm ?_ hdb)
  have arg : tL X'.K (callF fns n) true xs σ H (fun vs H1 => spF X'.K (callF fns n) fn.np f fn.fr vs H1 Q (fun _ _ _ => False)) := by
    refine ⟨O, L, h, ρ, ds, h1, c, sl, e1, fun vs H1 L1 st1 c1 r1 => ?_⟩
    have r := repL_of r1
    refine ⟨by rw [r.length]; exact callF_np hf ev, O, L1, h1, ds, d, h', c1, r, ev, fun v H' L' T st c' hT r' => ?_⟩
    refine q v H' L' [] (st1.trans st) c'.dropT nT (VR.plain rfl rfl ?_)
    split at r'
    · exact r'.rep c'
    · exact r'.2
  refine PySem.W.callWith_K (h₀ := X'.base) I.ok.mod.kin hk (thn (p.run pos pins s σ H _ I arg) fun us s1 ⟨vs, H1, I1, r, sp⟩ => ⟨I1.kIn, ?_⟩) he hpl
  have hlen : (us ++ []).length = ps.length := by rw [List.append_nil, ← r.length, sp.1, hl]
  have bd := hb s1 us I1.kIn hlen
  rw [List.append_nil] at bd
  refine wpAny_call (codeAny_mono (F.run X'.A X'.stack s1 H1 ⟨us, []⟩ us vs Q g.room g.gu I1.env0 bd r sp) fun res s' hq => ?_)
  cases res with
  | error x => exact False.elim hq
  | ok fl =>
    cases fl with
    | ret u => exact I1.after hq
    | next => exact False.elim hq
    | brk => exact False.elim hq
    | cont => exact False.elim hq
mutual
theorem Rep.noref {K : PySem.W.Frag} {M M' L L' : List Addr} {H : Hp} (sub : ∀ b ∈ M', b ∈ M) : ∀ (d : D) (v : V), noRef d = true → Rep K M L H d v → Rep K M' L' H d v
  | .non, _, _, h => by simpa only [Rep] using h
  | .bl _, _, _, h => by simpa only [Rep] using h
  | .int _, _, _, h => by simpa only [Rep] using h
  | .str _, _, _, h => by simpa only [Rep] using h
  | .tup ds, _, n, h => by
    simp only [noRef] at n
    simp only [Rep] at h ⊢
    obtain ⟨a, vs, e, t, z, r⟩ := h
    refine ⟨a, vs, e, ?_, z, RepL.noref sub ds vs n r⟩
    rcases t with ⟨t, m⟩ | t
    · exact .inl ⟨t, fun q => m (sub a q)⟩
    · exact .inr t
  | .lst ds, _, n, h => by
    simp only [noRef] at n
    simp only [Rep] at h ⊢
    obtain ⟨a, vs, e, t, m, z, r⟩ := h
    exact ⟨a, vs, e, t, fun q => m (sub a q), z, RepL.noref sub ds vs n r⟩
  | .dct t ks ds, _, n, h => by simp [noRef] at n
  | .ref n, _, h, _ => by simp [noRef] at h
  | .scr ns, _, _, h => by
    simp only [Rep] at h ⊢
    obtain ⟨a, e, q⟩ := h
    refine ⟨a, e, ?_⟩
    rcases q with ⟨q, m⟩ | q
    · exact .inl ⟨q, fun z => m (sub a z)⟩
    · exact .inr q
theorem RepL.noref {K : PySem.W.Frag} {M M' L L' : List Addr} {H : Hp} (sub : ∀ b ∈ M', b ∈ M) : ∀ (ds : List D) (vs : List V), noRefL ds = true → RepL K M L H ds vs → RepL K M' L' H ds vs
  | [], _, _, h => by simpa only [RepL] using h
  | d :: ds, _, n, h => by
    simp only [noRefL, Bool.and_eq_true] at n
    simp only [RepL] at h ⊢
    obtain ⟨v, r, e, h1, h2⟩ := h
    exact ⟨v, r, e, Rep.noref sub d v n.1 h1, RepL.noref sub ds r n.2 h2⟩
end
theorem CR.laid {K : PySem.W.Frag} {O L : List Addr} {h : Hs} {H H' : Hp} (c : CR K O L h H) (k : ∀ a o, H a = some o → H' a = some o) : CR K O L h H' where
  ll := c.ll
  nd := c.nd
  ot := fun a m => by
    obtain ⟨o, e⟩ := c.ot a m
    exact ⟨o, k a o e⟩
  ce := fun n x e => by
    obtain ⟨a, e2, ok⟩ := c.ce n x e
    exact ⟨a, e2, CellOk.mv ⟨fun b y q m => ⟨k b y q, m⟩, fun _ _ q => q⟩ (fun y q => k a y q) ok⟩
theorem CR.laid1 {K : PySem.W.Frag} {O L : List Addr} {h : Hs} {H H' : Hp} {p : Addr} {o : HO} (c : CR K O L h H) (k : ∀ a o, H a = some o → H' a = some o) (hp : H p = none) (hp' : H' p = some o) : CR K (p :: O) L h H' where
  ll := c.ll
  nd := List.nodup_cons.mpr ⟨c.fresh_notin hp, c.nd⟩
  ot := fun a m => by
    rcases List.mem_cons.mp m with e | m
    · subst e; exact ⟨o, hp'⟩
    · obtain ⟨x, e⟩ := c.ot a m
      exact ⟨x, k a x e⟩
  ce := fun n x e => by
    obtain ⟨a, e2, ok⟩ := c.ce n x e
    refine ⟨a, e2, CellOk.mv (M := O ++ liveA h L) ⟨fun b y q m => ⟨k b y q, fun z => ?_⟩, fun _ _ q => q⟩ (fun y q => k a y q) ok⟩
    rcases List.mem_cons.mp z with z | z
    · subst z; rw [hp] at q; cases q
    · exact m z
/-- the world without cells, Oc its protected objects -/
theorem CR.empty {K : PySem.W.Frag} {O L : List Addr} {h : Hs} {H : Hp} (c : CR K O L h H) {Oc : List Addr} (sub : List.Sublist Oc (O ++ liveA h L)) : CR K Oc [] [] H where
  ll := rfl
  nd := by simpa [liveA] using List.Nodup.sublist sub c.nd
  ot := fun a m => by
    rcases List.mem_append.mp (sub.subset m) with m | m
    · exact c.ot a m
    · exact c.live_some m
  ce := fun n x e => by simp at e
/-- the lists among the values -/
def lstAs : List D → List V → List Addr
  | .lst _ :: ds, .ref a :: vs => a :: lstAs ds vs
  | _ :: ds, _ :: vs => lstAs ds vs
  | _, _ => []
theorem lend {K : PySem.W.Frag} {O L Oc : List Addr} {h : Hs} {H : Hp} (sub : ∀ b ∈ Oc, b ∈ O ++ liveA h L) : ∀ {ds : List D} {vs : List V}, (∀ a ∈ lstAs ds vs, a ∉ Oc) → noRefL ds = true → Paired (RepB K O L h H) ds vs → RepL K (Oc ++ liveA [] []) [] H ds vs
  | _, _, _, _, .nil => RepL.nil
  | d :: ds, v :: vs, hn, n, .cons r t => by
    simp only [noRefL, Bool.and_eq_true] at n
    have sub' : ∀ b ∈ Oc ++ liveA [] [], b ∈ O ++ liveA h L := fun b m => sub b (by simpa [liveA] using m)
    have ht : RepL K (Oc ++ liveA [] []) [] H ds vs := by
      refine lend sub (fun a m => hn a ?_) n.2 t
      cases d <;> cases v <;> simp [lstAs, m]
    refine RepL.cons ?_ ht
    cases d with
    | lst es =>
      obtain ⟨a, us, rfl, hH, _, z, rr⟩ := r
      simp only [Rep]
      simp only [noRef] at n
      refine ⟨a, us, rfl, hH, fun m => hn a (by simp [lstAs]) (by simpa [liveA] using m), z, RepL.noref sub' _ _ n.1 rr⟩
    | dct t ks es => simp [noRef] at n
    | _ => exact Rep.noref (L := L) sub' _ _ n.1 r
theorem flat_rep {K : PySem.W.Frag} {M M' L L' : List Addr} {H H' : Hp} {r : D} {v : V} (hr : flatD r = true) (h : Rep K M L H r v) : Rep K M' L' H' r v := by
  cases r <;> first | (simp [flatD] at hr; done) | simpa only [Rep] using h
theorem flat_vf {K : PySem.W.Frag} {O T L : List Addr} {h : Hs} {H : Hp} {r : D} {v : V} (hr : flatD r = true) : VF K O T L h H r v ↔ T = [] ∧ Rep K (O ++ liveA h L) L H r v := by
  cases r <;> first | (simp [flatD] at hr; done) | exact Iff.rfl
theorem c_pcall {fr : Bool} {f : String} {fn : Fn} {xs : List X} {id : Str} {p0 : Pos} {e : Expr} {es : List Expr} (g : Gd fns cs n X') (hf : fns.lookup f = some fn) (hfr : fr = true → fn.fr = true) (hid : id = Str.ofString f) (hg : glB X'.env.scope id = true)
    (p : PA X' (e :: es) (tL X'.K (callF fns n) (!xs.any X.isBor) xs)) (he : starEach (e :: es) X'.env = (false, eval e X'.env) :: starEach es X'.env) (hpl : (backTo pos (starEach es X'.env)).any (·.1) = false) :
    PE X' (.Call (.Name id p0) (e :: es) [] pos) (tX X'.K (callF fns n) (.pcall fr f xs)) := by
  obtain ⟨hg, hdb, _⟩ := gl_of hg
  obtain ⟨fa, fd, ps, hm, hk, hb, hl, F⟩ := g.fns f fn hf
  subst hid
  refine ⟨fun pins s σ H Q I ⟨O, L, h, ρ, d, h', c, sl, ev, q⟩ => ?_⟩
  simp only [evE] at ev
  obtain ⟨⟨ds, h1⟩, e1, ev⟩ := bs ev
  dsimp only at ev
  split at ev
  · rename_i nr
    obtain ⟨⟨r, hx⟩, e2, ev⟩ := bs ev
    dsimp only at ev
    split at ev
    · rename_i g2
      obtain ⟨rfl, rfl⟩ : r = d ∧ h1 = h' := by
        cases ev
        exact ⟨rfl, rfl⟩
      refine wpAny_Call_Name_kw (ld_glob I hg hm ?_ hdb)
      have arg : tL X'.K (callF fns n) (!xs.any X.isBor) xs σ H (fun vs H1 => spF X'.K (callF fns n) fn.np f fn.fr vs H1 Q (fun _ _ _ => False)) := by
        refine ⟨O, L, h, ρ, ds, h1, c, sl, e1, fun vs H1 L1 st1 c1 r1 => ?_⟩
        by_cases hbr : xs.any X.isBor = true
        · rw [hbr] at r1
          have hfl : flatD r = true := by
            rcases g2.2 with z | z
            · rw [hbr] at z; cases z
            · exact z
          have rl := lend (Oc := (O ++ liveA h1 L1).filter fun b => decide (b ∉ lstAs ds vs)) (fun b m => (List.mem_filter.mp m).1) (fun a m m' => by have := (List.mem_filter.mp m').2; simp at this; exact this m) nr (repB_of r1)
          refine ⟨by rw [rl.length]; exact callF_np hf e2, _, [], [], ds, r, hx, c1.empty List.filter_sublist, rl, e2, fun v H' L' T st c' hT r' => ?_⟩
          have keep : ∀ a o, H1 a = some o → H' a = some o := fun a o e => st.keep a o e (by simp [liveA])
          have rr : Rep X'.K (O ++ liveA h1 L1) L1 H' r v := by
            split at r'
            · exact flat_rep hfl ((flat_vf hfl).mp r').2
            · exact flat_rep hfl r'.2
          refine q v H' L1 [] (st1.trans (Stp.laid keep)) (c1.laid keep) nT ?_
          unfold VR
          split
          · exact (flat_vf hfl).mpr ⟨rfl, rr⟩
          · exact ⟨rfl, by rw [if_neg (by exact Bool.false_ne_true)]; exact rr⟩
        · have hbr' : xs.any X.isBor = false := by simpa using hbr
          rw [hbr'] at r1
          have rl0 := repL_of r1
          have rl : RepL X'.K ((O ++ liveA h1 L1) ++ liveA [] []) [] H1 ds vs := RepL.noref (fun b m => by simpa [liveA] using m) _ _ nr rl0
          refine ⟨by rw [rl.length]; exact callF_np hf e2, O ++ liveA h1 L1, [], [], ds, r, hx, c1.empty (List.Sublist.refl _), rl, e2, fun v H' L' T st c' hT r' => ?_⟩
          have keep : ∀ a o, H1 a = some o → H' a = some o := fun a o e => st.keep a o e (by simp [liveA])
          have sub : ∀ b ∈ O ++ liveA h1 L1, b ∈ (O ++ liveA h1 L1) ++ liveA hx L' := fun b m => List.mem_append_left _ m
          have plain : ∀ rr : Rep X'.K ((O ++ liveA h1 L1) ++ liveA hx L') L' H' r v, Rep X'.K (O ++ liveA h1 L1) L1 H' r v := fun rr => Rep.noref sub _ _ g2.1 rr
          cases fr with
          | false =>
            refine q v H' L1 [] (st1.trans (Stp.laid keep)) (c1.laid keep) nT (VR.plain rfl rfl (plain ?_))
            split at r'
            · exact r'.rep c'
            · exact r'.2
          | true =>
            rw [if_pos (hfr rfl)] at r'
            cases r with
            | lst es =>
              obtain ⟨a, us, rfl, rfl, hH, z, rr⟩ := r'
              have ha := hT a (by simp)
              have nr2 : noRefL es = true := by have := g2.1; simpa only [noRef] using this
              refine q _ H' L1 [a] (st1.trans (Stp.laid keep)) (c1.laid1 keep ha hH) (fun b m => ?_) (VR.new rfl ⟨a, us, rfl, rfl, hH, z, RepL.noref (fun b m => ?_) _ _ nr2 rr⟩)
              · rw [List.mem_singleton.mp m]; exact st1.none ha
              · rcases List.mem_cons.mp m with m | m
                · rw [m]; exact List.mem_cons_self
                · exact List.mem_cons_of_mem _ (sub b m)
            | dct t ks es => exact r'.elim
            | _ => exact q v H' L1 [] (st1.trans (Stp.laid keep)) (c1.laid keep) nT (VR.new rfl ⟨rfl, plain r'.2⟩)
      refine PySem.W.callWith_K (h₀ := X'.base) I.ok.mod.kin hk (thn (p.run pos pins s σ H _ I arg) fun us s1 ⟨vs, H1, I1, r, sp⟩ => ⟨I1.kIn, ?_⟩) he hpl
      have hlen : (us ++ []).length = ps.length := by rw [List.append_nil, ← r.length, sp.1, hl]
      have bd := hb s1 us I1.kIn hlen
      rw [List.append_nil] at bd
      refine wpAny_call (codeAny_mono (F.run X'.A X'.stack s1 H1 ⟨us, []⟩ us vs Q g.room g.gu I1.env0 bd r sp) fun res s' hq => ?_)
      cases res with
      | error x => exact False.elim hq
      | ok fl =>
        cases fl with
        | ret u => exact I1.after hq
        | next => exact False.elim hq
        | brk => exact False.elim hq
        | cont => exact False.elim hq
    · cases ev
  · cases ev
theorem boot_bi : ∀ b : Bi, bootBuiltins (Str.ofString (biName b)) = some (biVal b) := by
  intro b
  cases b <;> decide +kernel
theorem blt_bi (g : Gd fns cs n X') (b : Bi) : X'.mg (Str.ofString (biName b)) = none := by
  refine g.blt _ ?_
  cases b <;> decide +kernel
theorem c_bi {b : Bi} {xs : List X} {id : Str} {p0 : Pos} {e : Expr} {es : List Expr} (g : Gd fns cs n X') (hid : id = Str.ofString (biName b)) (hg : glB X'.env.scope id = true)
    (p : PA X' (e :: es) (tL X'.K Γ false xs)) (he : starEach (e :: es) X'.env = (false, eval e X'.env) :: starEach es X'.env) (hpl : (backTo pos (starEach es X'.env)).any (·.1) = false) :
    PE X' (.Call (.Name id p0) (e :: es) [] pos) (tX X'.K Γ (.bi b xs)) := by
  obtain ⟨hg, hdb, hn⟩ := gl_of hg
  subst hid
  have hv := boot_bi b
  have rule := call_bi (X := X') b g.calm (room70 g.room) g.gu
  have core : PE X' (.Call (.Name (Str.ofString (biName b)) p0) (e :: es) [] pos) (tCB (rBi X'.K b) (tL X'.K Γ false xs)) := by
    unfold biVal at hv rule
    split at hv
    · rename_i hb
      rw [if_pos hb] at rule
      exact pe_callTy rule hg (blt_bi g b) hv p hn hdb he hpl
    · rename_i hb
      rw [if_neg hb] at rule
      exact pe_callB rule hg (blt_bi g b) hv p hn hdb he hpl
  refine pe_weak core fun σ H Q ⟨O, L, h, ρ, d, h', c, sl, ev, q⟩ => ?_
  simp only [evE] at ev
  obtain ⟨⟨ds, h1⟩, e1, ev⟩ := bs ev
  obtain ⟨z, hz, e3⟩ := ms ev
  cases e3
  refine ⟨O, L, h, ρ, ds, _, c, sl, e1, fun vs H1 L1 st1 c1 r1 => ?_⟩
  refine ⟨O, L1, _, ds, d, c1, repB_of r1, hz, fun v H' T st c' hT vf => q v H' L1 T (st1.trans st) c' (fun a m => st1.none (hT a m)) ?_⟩
  exact VR.new rfl vf
theorem boot_ty : ∀ t : Ty, bootBuiltins (Str.ofString (tyName t)) = some (.type (tyName t)) := by
  intro t
  cases t <;> decide +kernel
theorem blt_ty (g : Gd fns cs n X') (t : Ty) : X'.mg (Str.ofString (tyName t)) = none := by
  refine g.blt _ ?_
  cases t <;> decide +kernel
theorem boot_isi : bootBuiltins (Str.ofString "isinstance") = some (.builtin "isinstance") := by decide +kernel
theorem pe_ty (g : Gd fns cs n X') {t : Ty} {id : Str} {p0 : Pos} (hid : id = Str.ofString (tyName t)) (hg : glB X'.env.scope id = true) : PE X' (.Name id p0) (tC (.ty (tyName t))) := by
  obtain ⟨hg, hdb, hn⟩ := gl_of hg
  subst hid
  exact pe_bltn hg (blt_ty g t) (boot_ty t) rfl hn hdb
theorem c_is1 {a : X} {t : Ty} {id ti : Str} {p0 p1 : Pos} {e : Expr} (g : Gd fns cs n X') (hid : id = Str.ofString "isinstance") (hg : glB X'.env.scope id = true) (ht : ti = Str.ofString (tyName t)) (hg2 : glB X'.env.scope ti = true)
    (p : PE X' e (tX X'.K Γ a)) (he : ∀ es, starEach (e :: es) X'.env = (false, eval e X'.env) :: starEach es X'.env) : PE X' (.Call (.Name id p0) [e, .Name ti p1] [] pos) (tX X'.K Γ (.isin a [t])) := by
  obtain ⟨hg, hdb, hn⟩ := gl_of hg
  subst hid
  refine pe_weak (pe_callB (call_is1 t) hg (g.blt _ (by decide +kernel)) boot_isi (pa_cons (toB p) (pa_cons (pe_ty g ht hg2) pa_nil rfl) (he _)) hn hdb (he _) rfl) fun σ H Q ⟨O, L, h, ρ, d, h', c, sl, ev, q⟩ => ?_
  simp only [evE] at ev
  obtain ⟨⟨x, h1⟩, e1, ev⟩ := bs ev
  obtain ⟨z, hz, e3⟩ := ms ev
  cases e3
  exact ⟨O, L, h, ρ, x, _, c, sl, e1, fun v H1 L1 st1 c1 r1 => ⟨O, L1, _, x, v, z, rfl, c1, r1, hz, q _ H1 L1 [] st1 c1 nT (VR.plain rfl rfl (rep_bl _))⟩⟩
theorem pa_tys (g : Gd fns cs n X') : ∀ {ts : List Ty} {es : List Expr}, chkTy ts es X'.env.scope = true → PA X' es (fun _ H Q => Q (ts.map fun t => V.ty (tyName t)) H)
  | [], [], _ => pa_weak pa_nil fun σ H Q q => q
  | t :: ts, .Name id p :: es, h => by
    simp only [chkTy, Bool.and_eq_true, decide_eq_true_eq] at h
    exact pa_weak (pa_cons (pe_ty g h.1.1 h.1.2) (pa_tys g h.2) rfl) fun σ H Q q => q
  | [], _ :: _, h => by simp [chkTy] at h
  | _ :: _, [], h => by simp [chkTy] at h
  | t :: ts, .BoolOp .. :: es, h | t :: ts, .NamedExpr .. :: es, h | t :: ts, .BinOp .. :: es, h | t :: ts, .UnaryOp .. :: es, h | t :: ts, .Lambda .. :: es, h | t :: ts, .IfExp .. :: es, h
  | t :: ts, .Dict .. :: es, h | t :: ts, .Set .. :: es, h | t :: ts, .ListComp .. :: es, h | t :: ts, .SetComp .. :: es, h | t :: ts, .DictComp .. :: es, h | t :: ts, .GeneratorExp .. :: es, h
  | t :: ts, .Await .. :: es, h | t :: ts, .Yield .. :: es, h | t :: ts, .YieldFrom .. :: es, h | t :: ts, .Compare .. :: es, h | t :: ts, .Call .. :: es, h | t :: ts, .FormattedValue .. :: es, h
  | t :: ts, .JoinedStr .. :: es, h | t :: ts, .Constant .. :: es, h | t :: ts, .Attribute .. :: es, h | t :: ts, .Subscript .. :: es, h | t :: ts, .Starred .. :: es, h | t :: ts, .List .. :: es, h
  | t :: ts, .Tuple .. :: es, h | t :: ts, .Slice .. :: es, h => by simp [chkTy] at h
theorem c_isN {a : X} {ts : List Ty} {id : Str} {p0 p1 : Pos} {k : Nat} {e : Expr} {es : List Expr} (g : Gd fns cs n X') (hid : id = Str.ofString "isinstance") (hg : glB X'.env.scope id = true) (ht : chkTy ts es X'.env.scope = true) (hne : ts ≠ []) (hl8 : ts.length ≤ 8)
    (p : PE X' e (tX X'.K Γ a)) (he : ∀ es, starEach (e :: es) X'.env = (false, eval e X'.env) :: starEach es X'.env) : PE X' (.Call (.Name id p0) [e, .Tuple es k p1] [] pos) (tX X'.K Γ (.isin a ts)) := by
  obtain ⟨hg, hdb, hn⟩ := gl_of hg
  subst hid
  refine pe_weak (pe_callB (call_isN ts) hg (g.blt _ (by decide +kernel)) boot_isi (pa_cons (toB p) (pa_cons (pe_tup (pa_tys g ht)) pa_nil rfl) (he _)) hn hdb (he _) rfl) fun σ H Q ⟨O, L, h, ρ, d, h', c, sl, ev, q⟩ => ?_
  simp only [evE] at ev
  obtain ⟨⟨x, h1⟩, e1, ev⟩ := bs ev
  obtain ⟨z, hz, e3⟩ := ms ev
  cases e3
  refine ⟨O, L, h, ρ, x, _, c, sl, e1, fun v H1 L1 st1 c1 r1 => ?_⟩
  have hz2 : (ts.map fun t => V.ty (tyName t)).length ≤ sizeLine := by rw [List.length_map]; exact Nat.le_trans hl8 (by rw [sizeLine_eq]; decide)
  refine ⟨hz2, fun tp hp => ?_⟩
  exact ⟨O, L1, _, x, v, tp, z, rfl, upd_same, hne, (c1.fresh hp).drop, r1.stp (stp_fresh hp), hz, q _ _ L1 [] (st1.trans (stp_fresh hp)) (c1.fresh hp).drop nT (VR.plain rfl rfl (rep_bl _))⟩
end
end Ev

namespace Ev
open PySem L2

/-- what is walked, by values -/
inductive Src where
  | lst (a : Addr) (xs : List V) | tup (a : Addr) (xs : List V) | str (z : Str)
def Src.n : Src → Nat
  | .lst _ xs => xs.length
  | .tup _ xs => xs.length
  | .str z => z.cps.size
def Src.at_ : Src → Nat → Option V
  | .lst _ xs, i => xs[i]?
  | .tup _ xs, i => xs[i]?
  | .str z, i => z.cps[i]?.map fun c => .str ⟨#[c]⟩
def Src.v : Src → V
  | .lst a _ => .ref a
  | .tup a _ => .ref a
  | .str z => .str z
def Src.G (K : PySem.W.Frag) (x : Src) (H : Hp) : Prop := match x with
  | .lst a xs => SqL K H a xs
  | .tup a xs => SqT K H a xs
  | .str _ => True
def Src.fp : Src → List Addr
  | .lst a _ => [a]
  | .tup a _ => [a]
  | .str _ => []
def Src.It (x : Src) (it : Addr) (i : Nat) (h : Heap) : Prop := match x with
  | .lst a _ => h.IsListIter it a i
  | .tup a _ => h.IsTupleIter it a i
  | .str z => ∃ t, h.IsStrIter it (strIterType z) z t i
theorem vals_at {xs : List V} {its : List Value} (r : Vals xs its) {i : Nat} {u : Value} (e : its.toArray[i]? = some u) : ∃ v, xs[i]? = some v ∧ RelV v u := by
  have e' : its[i]? = some u := by simpa using e
  have hi : i < its.length := by
    rcases Nat.lt_or_ge i its.length with h | h
    · exact h
    · rw [List.getElem?_eq_none h] at e'; cases e'
  have hl := r.length
  have hx : xs[i]? = some (xs[i]'(by omega)) := List.getElem?_eq_getElem (by omega)
  obtain ⟨u', e2, r2⟩ := r.get hx
  rw [e'] at e2
  cases e2
  exact ⟨_, hx, r2⟩
section
variable {X : Cx} {pins : List (Addr × Obj)} {σ : St} {H : Hp} {s : Shared}
theorem Src.It.live {x : Src} {it : Addr} {i : Nat} {h : Heap} (st : x.It it i h) : ∃ o, h.get? it = some o ∧ ∀ v, o.data ≠ .cell v := by
  cases x with
  | lst a xs => obtain ⟨o, e, c, d⟩ := st; exact ⟨o, e, fun v z => by rw [d] at z; cases z⟩
  | tup a xs => obtain ⟨o, e, c, d⟩ := st; exact ⟨o, e, fun v z => by rw [d] at z; cases z⟩
  | str z => obtain ⟨t, o, e, c, d⟩ := st; exact ⟨o, e, fun v z => by rw [d] at z; cases z⟩
theorem Src.It.keep {x : Src} {it : Addr} {i : Nat} {h h' : Heap} (st : x.It it i h) (k : ∀ o, h.get? it = some o → h'.get? it = some o) : x.It it i h' := by
  cases x with
  | lst a xs => exact st.at fun o e => k o e
  | tup a xs => exact st.at fun o e => k o e
  | str z => obtain ⟨t, o, e, r⟩ := st; exact ⟨t, o, k o e, r⟩
theorem Src.draws {x : Src} {it : Addr} {i : Nat} (hc : X.calm = true) (I : Inv X pins σ H s) (g : x.G X.K H) (st : x.It it i s.heap) (hne : it ∉ x.fp) :
    ∃ P St, Draws X.prog X.w X.A.in1 it (it :: x.fp) x.n P St ∧ St i s.heap ∧ (∀ i h, St i h → x.It it i h) ∧ ∀ i u, P i u → ∃ v, x.at_ i = some v ∧ RelV v u := by
  have hd : X.A.in1.handled = none := I.ok.hd hc
  cases x with
  | lst a xs =>
    obtain ⟨its, rv, p, z⟩ := I.list g
    have hl := rv.length
    have D := Draws.list (prog := X.prog) (w := X.w) (A := X.A.in1) hd it a (fun e => hne (by simp [Src.fp, e])) its.toArray
    have en : its.toArray.size = (Src.lst a xs).n := by simp [Src.n, hl]
    rw [en] at D
    exact ⟨_, _, D, ⟨st, p.isList⟩, fun i h q => q.1, fun i u e => vals_at rv e⟩
  | tup a xs =>
    obtain ⟨its, rv, p, z⟩ := I.tuple g
    have hl := rv.length
    have D := Draws.tuple (prog := X.prog) (w := X.w) (A := X.A.in1) hd it a (fun e => hne (by simp [Src.fp, e])) its.toArray
    have en : its.toArray.size = (Src.tup a xs).n := by simp [Src.n, hl]
    rw [en] at D
    exact ⟨_, _, D, ⟨st, p⟩, fun i h q => q.1, fun i u e => vals_at rv e⟩
  | str z =>
    obtain ⟨t, st⟩ := st
    exact ⟨_, _, Draws.text (prog := X.prog) (w := X.w) (A := X.A.in1) hd it z t, st, fun i h q => ⟨t, q⟩, fun i u ⟨c, k, e, e2⟩ => ⟨.str ⟨#[c]⟩, by simp [Src.at_, e], by subst e2; exact ⟨k, rfl⟩⟩⟩
theorem Src.begins {x : Src} {u : Value} (I : Inv X pins σ H s) (g : x.G X.K H) (r : RelV x.v u) : ∃ o Hh, Begins u o Hh ∧ Hh s.heap ∧ (∀ (h' : Heap) N, h'.get? N = some o → x.It N 0 h') ∧ ∀ b ∈ x.fp, b < s.heap.objs.size := by
  cases x with
  | lst a xs =>
    obtain ⟨its, rv, p, z⟩ := I.list g
    cases r
    refine ⟨_, _, begins_list a its.toArray, p.isList, fun h' N e => ⟨_, e, rfl, rfl⟩, fun b hb => ?_⟩
    have e : b = a := by simpa [Src.fp] using hb
    subst e
    exact p.lt
  | tup a xs =>
    obtain ⟨its, rv, p, z⟩ := I.tuple g
    cases r
    refine ⟨_, _, begins_tuple a its.toArray, p, fun h' N e => ⟨_, e, rfl, rfl⟩, fun b hb => ?_⟩
    have e : b = a := by simpa [Src.fp] using hb
    subst e
    obtain ⟨o, ho, _⟩ := p
    exact Heap.lt_size ho
  | str z =>
    obtain ⟨t, rfl⟩ := r
    exact ⟨_, _, begins_text z t, trivial, fun h' N e => ⟨t, _, e, rfl, rfl⟩, fun b hb => nomatch hb⟩
end

/-- n turns, each a new pair -/
def ItP (n : Nat) (G : Hp → Prop) (f : Nat → V → V → Prop) : L2.It :=
  ⟨fun i H => i < n ∧ G H, fun i H v H' => ∃ T x y, v = .ref T ∧ H T = none ∧ H' = upd H T (.tup [x, y]) ∧ f i x y, fun i H => i = n ∧ G H⟩
theorem walk_P {n : Nat} {G : Hp → Prop} {f : Nat → V → V → Prop} : Walk (ItP n G f) n G (fun i H v H' => ∃ T x y, v = .ref T ∧ H T = none ∧ H' = upd H T (.tup [x, y]) ∧ f i x y) :=
  ⟨fun _ _ hi g => ⟨hi, g⟩, fun _ g => ⟨rfl, g⟩, fun _ _ _ _ _ _ y => y⟩
theorem turn_ofT {P : Program} {w : World} {K : PySem.W.Frag} {elts : List Expr} {kk : Nat} {tpos : Pos} {I0 : Addr} {fp : List Addr} {tn : Nat → Heap → Prop} {n : Nat} {G : Hp → Prop} {f : Nat → V → V → Prop} (mem : I0 ∈ fp)
    (obj : ∀ i h, tn i h → ∀ b ∈ fp, ∃ o, h.get? b = some o ∧ ∀ v, o.data ≠ .cell v) (keep : ∀ i h h', tn i h → (∀ b ∈ fp, ∀ o, h.get? b = some o → h'.get? b = some o) → tn i h')
    (W : ∀ (X : Cx) (pins : List (Addr × Obj)) (σ : St) (H : Hp) (s : Shared), X.K = K → X.calm = true → Inv X pins σ H s → G H → ∀ i, tn i s.heap → ∃ fpW wr m Pt St Mid, WalksT X.prog X.w X.A I0 fpW wr m Pt St Mid ∧ m = n ∧ St i s.heap ∧
      (∀ b ∈ wr, b ∈ fp) ∧ (∀ i h, St i h → tn i h) ∧ ∀ i vals, Pt i vals → ∃ x y u v, vals = #[u, v] ∧ RelV x u ∧ RelV y v ∧ f i x y)
    (self : ∀ (A : Around) (i : Nat) (s : Shared) (Q : Value → Shared → Prop) (E : Value → Shared → Prop), tn i s.heap → Q (.ref I0) s → wpAny (model P w) A (pyIter (.ref I0)) Q E s) :
    Turn P w K (.Tuple elts kk tpos) (ItP n G f) fp I0 tn where
  mem := mem
  obj := obj
  keep := keep
  item := by
    intro X hP hw hK hc i pins s σ H E I hf st hg
    obtain ⟨fpW, wr, m, Pt, St, Mid, WT, rfl, hst, hwr, hSt, hPt⟩ := W X pins σ H s hK hc I hg.2 i st
    subst hP hw hK
    refine WT.item i s _ _ hg.1 hst fun T vals h' tk pt hT isT mid hk => ?_
    refine ⟨_, rfl, WT.go elts kk tpos i T _ _ _ mid fun h'' st' hk2 => ?_⟩
    obtain ⟨x, y, u, v, rfl, ru, rv, hf2⟩ := hPt i vals pt
    have hTw := WT.apart i T h' mid
    obtain ⟨o, ho, hc1, n1, hd1⟩ := isT
    have ho2 : h''.get? T = some o := hk2 T o hTw ho
    have new : ObjOk X.prog X.w (upd H T (.tup [x, y])) h'' T (.tup [x, y]) :=
      ⟨by show 2 ≤ sizeLine; decide, [u, v], .cons ru (.cons rv .nil), ⟨o, ho2, hc1, n1, hd1⟩⟩
    have I1 : Inv X pins σ (upd H T (.tup [x, y])) { s with heap := h'', toks := tk } :=
      I.turnedNew (ch := fp) (fun b ob hb q => hk2 b ob (fun z => hb (hwr b z)) (hk b ob (fun z => hb (hwr b z)) q)) hf hT new
    refine ⟨.ref T, _, I1, rfl, ⟨T, x, y, rfl, I.hok.fresh hT, rfl, hf2⟩, hSt _ _ st', fun b hb => ?_⟩
    obtain ⟨ob, hob, _⟩ := obj i _ st b hb
    rw [upd_ne (Nat.ne_of_lt (Nat.lt_of_lt_of_le (Heap.lt_size hob) hT))]
    exact (hf b hb).1
  done := by
    intro X hP hw hK hc i pins s σ H E I hf st hg
    obtain ⟨fpW, wr, m, Pt, St, Mid, WT, rfl, hst, hwr, hSt, hPt⟩ := W X pins σ H s hK hc I hg.2 i st
    subst hP hw hK
    obtain ⟨rfl, _⟩ := hg
    exact WT.done s _ _ hst fun h' tk hk => ⟨rfl, I.turnedL (ch := fp) (fun b o hb q => hk b o (fun z => hb (hwr b z)) q) hf⟩
  self := self

set_option maxHeartbeats 1000000 in
theorem meets_enum1B {v : Value} {o : Obj} {H : Heap → Prop} (B : Begins v o H) :
    Meets (Builtin.«enumerate.__new__» ⟨[.type "enumerate", v], []⟩) (fun _ R s => H s.heap ∧
      R (.ok (.ret (.ref (s.heap.push o).objs.size))) { s with heap := (s.heap.push o).push { cls := .type "enumerate", data := .fields #[.none, .bool false, .ref s.heap.objs.size, rawInt 0, .none, .none] } }) :=
  .of_wp fun prog w A R s h => by
    obtain ⟨hp, g, d, tk, os⟩ := s; obtain ⟨h1, h⟩ := h
    have hsub := sub_enumerate
    have q1 : ∀ {A' : Around} {E : Value → Shared → Prop} {Q : Value → Shared → Prop}, Q (.ref hp.objs.size) ⟨hp.push o, g, d, tk, os⟩ → wpAny (model prog w) A' (pyIter v) Q E ⟨hp, g, d, tk, os⟩ :=
      fun q => B.iter prog w _ _ ⟨hp, g, d, tk, os⟩ _ h1 q
    wp_walk using q1
    refine wpAny_stack_any fun st => wpAny_pure ?_
    split
    · rename_i c _ _ _ _ _
      cases (c == Value.type "enumerate")
      · wp_walk using q1
        exact ⟨_, rfl, h⟩
      · wp_walk using q1
        exact ⟨_, rfl, h⟩
    · wp_walk using q1
      exact ⟨_, rfl, h⟩
section
variable {prog : Program} {w : World} {A : Around} {E : Value → Shared → Prop} {s : Shared}
theorem enum1_begins {v : Value} {o : Obj} {H : Heap → Prop} {Q : Value → Shared → Prop} (B : Begins v o H) (h1 : H s.heap)
    (h : ∀ h', IsEnum h' (s.heap.objs.size + 1) s.heap.objs.size 0 .none → h'.get? s.heap.objs.size = some o → (∀ b o, s.heap.get? b = some o → h'.get? b = some o) → Q (.ref (s.heap.objs.size + 1)) { s with heap := h' }) :
    wpAny (model prog w) A (call (.type "enumerate") [v]) Q E s := by
  refine callType_new F.called_enumerate (by decide) (F.typeCall_enumerate_1 _) (F.newCall_enumerate_1 _) (fun obj => F.args_object_init_2 obj _) F.entry_enumerate_new
    (meets_enum1B B) ⟨h1, ?_⟩
  have hz : (s.heap.push o).objs.size = s.heap.objs.size + 1 := Heap.size_push ..
  show _ ∧ _
  rw [hz]
  have he : IsEnum ((s.heap.push o).push { cls := .type "enumerate", data := .fields #[.none, .bool false, .ref s.heap.objs.size, rawInt 0, .none, .none] }) (s.heap.objs.size + 1) s.heap.objs.size 0 .none := by
    have := Heap.get?_push_size (s.heap.push o) (o := { cls := .type "enumerate", data := .fields #[.none, .bool false, .ref s.heap.objs.size, rawInt 0, .none, .none] }) rfl
    rw [hz] at this; exact this
  exact ⟨⟨_, he, rfl⟩, h _ he (Heap.get?_push_of_some _ (Heap.get?_push_size _ B.free)) fun b o x => Heap.get?_push_of_some _ (Heap.get?_push_of_some _ x)⟩
end
theorem turn_enumG {P : Program} {w : World} {K : PySem.W.Frag} {elts : List Expr} {kk : Nat} {tpos : Pos} (x : Src) {e it : Addr} (hne : e ≠ it) (h1 : e ∉ x.fp) (h2 : it ∉ x.fp) :
    Turn P w K (.Tuple elts kk tpos) (ItP x.n (x.G K) fun i a b => a = .int (i : Nat) ∧ x.at_ i = some b) [e, it] e (fun i h => (∃ old, IsEnum h e it ((i : Nat) : Int) old) ∧ x.It it i h) := by
  refine turn_ofT (by simp) (fun i h st b hb => ?_) (fun i h h' st k => ?_) (fun X pins σ H s hK hc I g i st => ?_) (fun A i s Q E st h => ?_)
  · obtain ⟨⟨old, he⟩, hi⟩ := st
    have e' : b = e ∨ b = it := by simpa using hb
    rcases e' with z | z
    · rw [z]; exact ⟨_, he, fun v q => nomatch q⟩
    · rw [z]; exact hi.live
  · obtain ⟨⟨old, he⟩, hi⟩ := st
    exact ⟨⟨old, k e (by simp) _ he⟩, hi.keep fun o q => k it (by simp) o q⟩
  · subst hK
    obtain ⟨⟨old, he⟩, hi⟩ := st
    obtain ⟨Pd, St, D, st, hSt, hP⟩ := Src.draws hc I g hi h2
    refine ⟨_, _, _, _, _, _, WalksT.enumFrom 0 D e hne (fun m => ?_) (by simp), rfl, ⟨⟨old, ?_⟩, st⟩, fun b hb => hb, fun i h q => ⟨?_, hSt i h q.2⟩, fun i vals q => ?_⟩
    · rcases List.mem_cons.mp m with q | q
      · exact hne q
      · exact h1 q
    · rw [Int.zero_add]; exact he
    · obtain ⟨⟨o, q⟩, _⟩ := q
      rw [Int.zero_add] at q
      exact ⟨o, q⟩
    · obtain ⟨t, u, pu, rfl⟩ := q
      obtain ⟨v, hv, rv⟩ := hP i u pu
      exact ⟨.int i, v, _, _, rfl, ⟨t, by rw [Int.zero_add]⟩, rv, rfl, hv⟩
  · obtain ⟨⟨_, he⟩, _⟩ := st
    exact wpAny_pyIter_enum he h
def iEnumG (K : PySem.W.Frag) (ta : TA) : TI := fun σ H R => ta σ H fun vs H1 => ∃ x : Src, vs = [x.v] ∧ x.G K H1 ∧ R (ItP x.n (x.G K) fun i a b => a = .int (i : Nat) ∧ x.at_ i = some b) H1
theorem pi_enumG {X : Cx} {e : Expr} {ta : TA} {p pos tpos : Pos} {elts : List Expr} {kk : Nat} (hg : Gl X "enumerate") (hm : X.mg "enumerate" = none) (ha : PA X [e] ta) (hs : starEach [e] X.env = [(false, eval e X.env)]) :
    PI X (.Tuple elts kk tpos) (.Call (.Name "enumerate" p) [e] [] pos) (iEnumG X.K ta) := by
  refine ⟨fun pins s σ H R I h => ?_⟩
  refine PyProof.Rows.Call_ (ld_blt I hg hm PyProof.Rows.boot_enumerate (PyProof.Rows.callWith_type1 (thn (ha.run pos pins s σ H _ I h) fun us s1 ⟨vs, H1, I1, r1, q1⟩ => ?_) hs rfl))
  obtain ⟨x, ex, hq, q⟩ := q1
  subst ex
  cases r1 with
  | cons r rr =>
    cases rr
    obtain ⟨o, Hh, B, hh, h0, hlt⟩ := Src.begins I1 hq r
    refine enum1_begins B hh fun h' he hit hk => wpAny_pyIter_enum he ?_
    have I2 : Inv X pins σ H1 { s1 with heap := h' } := I1.kept (t' := s1.toks) hk
    have out : ∀ c, s1.heap.objs.size ≤ c → c ∉ x.fp := fun c hle m => Nat.lt_irrefl _ (Nat.lt_of_lt_of_le (hlt c m) hle)
    refine ⟨s1.heap.objs.size + 1, [s1.heap.objs.size + 1, s1.heap.objs.size], _, _, H1, rfl, I2, turn_enumG x (e := s1.heap.objs.size + 1) (it := s1.heap.objs.size) (Nat.succ_ne_self _) (out _ (Nat.le_add_right _ _)) (out _ (Nat.le_refl _)), ⟨⟨.none, he⟩, h0 _ _ hit⟩, fun b hb => ?_, q⟩
    have e' : b = s1.heap.objs.size + 1 ∨ b = s1.heap.objs.size := by simpa using hb
    have hle : s1.heap.objs.size ≤ b := by
      rcases e' with z | z
      · rw [z]; exact Nat.le_add_right _ _
      · rw [z]; exact Nat.le_refl _
    exact I1.fpOk hle (I1.hok.fresh hle)

theorem turn_zipG {P : Program} {w : World} {K : PySem.W.Frag} {elts : List Expr} {kk : Nat} {tpos : Pos} (x y : Src) {z TI TO i1 i2 : Addr} (S : ZipSep2 z TI TO i1 i2 (i1 :: x.fp) (i2 :: y.fp)) (h1 : i1 ∉ x.fp) (h2 : i2 ∉ y.fp) :
    Turn P w K (.Tuple elts kk tpos) (ItP (min x.n y.n) (fun H => x.G K H ∧ y.G K H) fun i a b => x.at_ i = some a ∧ y.at_ i = some b) [z, TI, TO, i1, i2] z
      (fun i h => IsZip h z TI TO .none ∧ IsTupOf2 h TI (.ref i1) (.ref i2) ∧ (∃ a1 a2, IsTupOf2 h TO a1 a2) ∧ x.It i1 i h ∧ y.It i2 i h) := by
  refine turn_ofT (by simp) (fun i h st c hc => ?_) (fun i h h' st k => ?_) (fun X pins σ H s hK hc I g i st => ?_) (fun A i s Q E st h => ?_)
  · obtain ⟨hz, hTI, ⟨a1, a2, hTO⟩, st1, st2⟩ := st
    have e' : c = z ∨ c = TI ∨ c = TO ∨ c = i1 ∨ c = i2 := by simpa using hc
    rcases e' with q | q | q | q | q
    · rw [q]; exact ⟨_, hz, fun v q => nomatch q⟩
    · rw [q]; exact ⟨_, hTI, fun v q => nomatch q⟩
    · rw [q]; exact ⟨_, hTO, fun v q => nomatch q⟩
    · rw [q]; exact st1.live
    · rw [q]; exact st2.live
  · obtain ⟨hz, hTI, ⟨a1, a2, hTO⟩, st1, st2⟩ := st
    exact ⟨k z (by simp) _ hz, k TI (by simp) _ hTI, ⟨a1, a2, k TO (by simp) _ hTO⟩, st1.keep fun o q => k i1 (by simp) o q, st2.keep fun o q => k i2 (by simp) o q⟩
  · subst hK
    obtain ⟨hz, hTI, ⟨a1, a2, hTO⟩, st1, st2⟩ := st
    obtain ⟨P1, St1, D1, q1, hSt1, hP1⟩ := Src.draws hc I g.1 st1 h1
    obtain ⟨P2, St2, D2, q2, hSt2, hP2⟩ := Src.draws hc I g.2 st2 h2
    refine ⟨_, _, _, _, _, _, WalksT.zipD2 S D1 D2, rfl, ⟨hz, hTI, ⟨a1, a2, hTO⟩, q1, q2⟩, fun b hb => ?_, fun i h ⟨a, b, c, d, e⟩ => ⟨a, b, c, hSt1 i h d, hSt2 i h e⟩, fun i vals q => ?_⟩
    · simp only [List.mem_cons, List.not_mem_nil, or_false] at hb ⊢
      rcases hb with e | e | e | e <;> simp [e]
    · obtain ⟨u, v, pu, pv, rfl⟩ := q
      obtain ⟨a, ha, ra⟩ := hP1 i u pu
      obtain ⟨b, hb, rb⟩ := hP2 i v pv
      exact ⟨a, b, _, _, rfl, ra, rb, ha, hb⟩
  · exact wpAny_pyIter_zip st.1 h
def iZipG (K : PySem.W.Frag) (ta : TA) : TI := fun σ H R => ta σ H fun vs H1 => ∃ x y : Src, vs = [x.v, y.v] ∧ x.G K H1 ∧ y.G K H1 ∧ R (ItP (min x.n y.n) (fun H => x.G K H ∧ y.G K H) fun i a b => x.at_ i = some a ∧ y.at_ i = some b) H1
theorem pi_zipG {X : Cx} {e e2 : Expr} {ta : TA} {p pos tpos : Pos} {elts : List Expr} {kk : Nat} (hg : Gl X "zip") (hm : X.mg "zip" = none) (ha : PA X [e, e2] ta)
    (hs : starEach [e, e2] X.env = (false, eval e X.env) :: starEach [e2] X.env) (hpl : (backTo pos (starEach [e2] X.env)).any (·.1) = false) :
    PI X (.Tuple elts kk tpos) (.Call (.Name "zip" p) [e, e2] [] pos) (iZipG X.K ta) := by
  refine ⟨fun pins s σ H R I h => ?_⟩
  refine PyProof.Rows.Call_ (ld_blt I hg hm PyProof.Rows.boot_zip (PyProof.Rows.callWith_type1 (thn (ha.run pos pins s σ H _ I h) fun us s1 ⟨vs, H1, I1, r1, q1⟩ => ?_) hs hpl))
  obtain ⟨x, y, ex, hqx, hqy, q⟩ := q1
  subst ex
  cases r1 with
  | cons r rr =>
    cases rr with
    | cons r' rr =>
      cases rr
      obtain ⟨o1, Hh1, B1, hh1, z1, hlt1⟩ := Src.begins I1 hqx r
      obtain ⟨o2, Hh2, B2, hh2, z2, hlt2⟩ := Src.begins I1 hqy r'
      refine zip_begins2 B1 B2 hh1 hh2 fun h' hz hTI hTO h1 h2 hsz hk => wpAny_pyIter_zip hz ?_
      have I2 : Inv X pins σ H1 { s1 with heap := h' } := I1.kept (t' := s1.toks) hk
      have S : ZipSep2 (s1.heap.objs.size + 4) (s1.heap.objs.size + 2) (s1.heap.objs.size + 3) s1.heap.objs.size (s1.heap.objs.size + 1) (s1.heap.objs.size :: x.fp) ((s1.heap.objs.size + 1) :: y.fp) := zip_sep2 hlt1 hlt2
      refine ⟨s1.heap.objs.size + 4, [s1.heap.objs.size + 4, s1.heap.objs.size + 2, s1.heap.objs.size + 3, s1.heap.objs.size, s1.heap.objs.size + 1], _, _, H1, rfl, I2,
        turn_zipG x y S (fun m => Nat.lt_irrefl _ (hlt1 _ m)) (fun m => Nat.lt_irrefl _ (Nat.lt_of_le_of_lt (Nat.le_add_right _ 1) (hlt2 _ m))), ⟨hz, hTI, ⟨_, _, hTO⟩, z1 _ _ h1, z2 _ _ h2⟩, fun c hcm => ?_, q⟩
      have e' : c = s1.heap.objs.size + 4 ∨ c = s1.heap.objs.size + 2 ∨ c = s1.heap.objs.size + 3 ∨ c = s1.heap.objs.size ∨ c = s1.heap.objs.size + 1 := by simpa using hcm
      have hle : s1.heap.objs.size ≤ c := by
        rcases e' with z | z | z | z | z
        · rw [z]; exact Nat.le_add_right _ _
        · rw [z]; exact Nat.le_add_right _ _
        · rw [z]; exact Nat.le_add_right _ _
        · rw [z]; exact Nat.le_refl _
        · rw [z]; exact Nat.le_add_right _ _
      exact I1.fpOk hle (I1.hok.fresh hle)
end Ev

namespace Ev
open PySem L2

section
variable {K : PySem.W.Frag}
/-- x is the data xs at (O, L, h, H) -/
def SrcOk (K : PySem.W.Frag) (O L : List Addr) (h : Hs) (H : Hp) (st : Bool) (x : Src) (xs : List D) : Prop :=
  x.n = xs.length ∧ ∃ W : List Addr, (∀ a ∈ W, (∃ o, H a = some o) ∧ a ∉ liveA h L ∧ (st = true → a ∉ O)) ∧
    (∀ H1 : Hp, (∀ a ∈ W, ∀ o, H a = some o → H1 a = some o) → x.G K H1) ∧ ∀ i v, x.at_ i = some v → ∃ d, xs[i]? = some d ∧ Rep K (O ++ liveA h L) L H d v
theorem SrcOk.g {O L : List Addr} {h : Hs} {H : Hp} {st : Bool} {x : Src} {xs : List D} (s : SrcOk K O L h H st x xs) : x.G K H := by
  obtain ⟨_, W, _, g, _⟩ := s
  exact g H fun _ _ _ e => e
theorem src_of {O L : List Addr} {h : Hs} {H : Hp} {st : Bool} : ∀ {d : D} {v : V} {xs : List D}, overD d = some xs → RepB K O L h H d v → (st = true → Rep K (O ++ liveA h L) L H d v) →
    ∃ x : Src, v = x.v ∧ SrcOk K O L h H st x xs ∧ xs.length ≤ sizeLine
  | .lst ds, _, _, e, r, rs => by
    simp only [overD] at e
    cases e
    obtain ⟨a, vs, rfl, t, n, z, r⟩ := r
    refine ⟨.lst a vs, rfl, ⟨r.length, [a], fun b hb => ?_, fun H1 k => ?_, fun i v e => ?_⟩, by rw [← r.length]; exact z⟩
    · have e : b = a := List.mem_singleton.mp hb
      subst e
      refine ⟨⟨_, t⟩, n, fun hs m => ?_⟩
      have := rs hs
      simp only [Rep] at this
      obtain ⟨a', vs', e1, _, n', _⟩ := this
      cases e1
      exact n' (List.mem_append_left _ m)
    · exact SqL.of (k a (by simp) _ t)
    · exact r.get' e
  | .tup ds, _, _, e, r, rs => by
    simp only [overD] at e
    cases e
    have r := r
    simp only [RepB, Rep] at r
    obtain ⟨a, vs, rfl, t, z, r⟩ := r
    rcases t with ⟨t, n⟩ | t
    · rw [List.mem_append, not_or] at n
      refine ⟨.tup a vs, rfl, ⟨r.length, [a], fun b hb => ?_, fun H1 k => ?_, fun i v e => ?_⟩, by rw [← r.length]; exact z⟩
      · have e : b = a := List.mem_singleton.mp hb
        subst e
        exact ⟨⟨_, t⟩, n.2, fun _ => n.1⟩
      · exact .inl (.inl (k a (by simp) _ t))
      · exact r.get' e
    · exact ⟨.tup a vs, rfl, ⟨r.length, [], fun b hb => (nomatch hb), fun H1 k => .inr t, fun i v e => r.get' e⟩, by rw [← r.length]; exact z⟩
  | .str z, _, _, e, r, rs => by
    simp only [overD] at e
    cases e
    obtain ⟨rfl, zz⟩ := rb_str r
    refine ⟨.str z, rfl, ⟨by simp [Src.n], [], fun b hb => (nomatch hb), fun H1 k => trivial, fun i v e => ?_⟩, by simpa [Str.length] using zz⟩
    simp only [Src.at_] at e
    obtain ⟨c, hc, rfl⟩ := Option.map_eq_some_iff.mp e
    refine ⟨.str ⟨#[c]⟩, by simp [hc], rep_str (by show 1 ≤ sizeLine; rw [sizeLine_eq]; decide)⟩
  | .non, _, _, e, _, _ | .bl _, _, _, e, _, _ | .int _, _, _, e, _, _ | .dct _ _ _, _, _, e, _, _ | .ref _, _, _, e, _, _ | .scr _, _, _, e, _, _ => by simp [overD] at e
def Src.J (K : PySem.W.Frag) : Src → L2.It
  | .lst a _ => Itl K a
  | .tup a _ => Itt K a
  | .str z => Its z
theorem Src.walk (x : Src) : Walk (x.J K) x.n (x.G K) (fun i H v H' => H' = H ∧ x.at_ i = some v) := by
  cases x with
  | lst a xs => exact walk_list
  | tup a xs => exact walk_tup
  | str z =>
    refine walk_str.mono (fun _ _ => trivial) fun i H v H' _ _ ⟨e, c, hc, e2⟩ => ⟨e, ?_⟩
    simp only [Src.at_, hc, e2, Option.map_some]
theorem Walk.cast {J : L2.It} {n m : Nat} {G : Hp → Prop} {Y : Nat → Hp → V → Hp → Prop} (w : Walk J n G Y) (e : n = m) : Walk J m G Y := e ▸ w
theorem wk_one {O L : List Addr} {h : Hs} {H : Hp} {st : Bool} {x : Src} {xs : List D} (s : SrcOk K O L h H st x xs) : WkOk K O L h H st (x.J K) xs := by
  obtain ⟨n, W, hW, g, hat⟩ := s
  refine ⟨W, x.G K, _, Walk.cast x.walk n, hW, fun O1 L1 h1 H1 m c k => ⟨g H1 k, fun i v H2 hi ⟨e, e2⟩ => ?_⟩⟩
  subst e
  obtain ⟨d, hd, r⟩ := hat i v e2
  exact ⟨d, hd, Stp.refl, c, Rep.mv m d v r⟩
theorem wk_rng {O L : List Addr} {h : Hs} {H : Hp} {st : Bool} {lo : Int} {n : Nat} : WkOk K O L h H st (Itr lo n) (rngL lo n) := by
  have hn : n = (rngL lo n).length := by simp [rngL]
  refine ⟨[], _, _, Walk.cast walk_range hn, fun a m => (nomatch m), fun O1 L1 h1 H1 m c k => ⟨trivial, fun i v H2 hi ⟨e, e2⟩ => ?_⟩⟩
  subst e e2
  rw [← hn] at hi
  exact ⟨.int (lo + i), by simp [rngL, hi], Stp.refl, c, rep_int _⟩
theorem pairs_get {xs ys : List D} {i : Nat} {x y : D} (hx : xs[i]? = some x) (hy : ys[i]? = some y) : (pairs xs ys)[i]? = some (.tup [x, y]) := by
  unfold pairs
  rw [List.getElem?_zipWith, hx, hy]
theorem pair_new {O L : List Addr} {h : Hs} {H : Hp} {T : Addr} {x y : V} {d e : D} (c : CR K O L h H) (hT : H T = none) (rx : Rep K (O ++ liveA h L) L H d x) (ry : Rep K (O ++ liveA h L) L H e y) :
    Stp L h H L h (upd H T (.tup [x, y])) ∧ CR K O L h (upd H T (.tup [x, y])) ∧ Rep K (O ++ liveA h L) L (upd H T (.tup [x, y])) (.tup [d, e]) (.ref T) :=
  ⟨stp_fresh hT, (c.fresh hT (o := .tup [x, y])).drop, rep_tup hT c (RepL.cons rx (RepL.one ry)) (by show 2 ≤ sizeLine; rw [sizeLine_eq]; decide)⟩
theorem wk_enum {O L : List Addr} {h : Hs} {H : Hp} {st : Bool} {x : Src} {xs : List D} (s : SrcOk K O L h H st x xs) :
    WkOk K O L h H st (ItP x.n (x.G K) fun i a b => a = .int (i : Nat) ∧ x.at_ i = some b) (pairs (rngL 0 xs.length) xs) := by
  obtain ⟨n, W, hW, g, hat⟩ := s
  have hn : x.n = (pairs (rngL 0 xs.length) xs).length := by simp [pairs, rngL, n]
  refine ⟨W, x.G K, _, Walk.cast walk_P hn, hW, fun O1 L1 h1 H1 m c k => ⟨g H1 k, fun i v H2 hi ⟨T, a, b, ev, hT, eH, ea, eb⟩ => ?_⟩⟩
  subst ev eH ea
  obtain ⟨d, hd, r⟩ := hat i b eb
  have hi' : i < xs.length := by
    rcases Nat.lt_or_ge i xs.length with q | q
    · exact q
    · rw [List.getElem?_eq_none q] at hd; cases hd
  obtain ⟨q1, q2, q3⟩ := pair_new c hT (rep_int (i : Int)) (Rep.mv m d b r)
  exact ⟨_, pairs_get (x := .int i) (by simp [rngL, hi']) hd, q1, q2, q3⟩
theorem wk_zip {O L : List Addr} {h : Hs} {H : Hp} {st : Bool} {x y : Src} {xs ys : List D} (s : SrcOk K O L h H st x xs) (t : SrcOk K O L h H st y ys) :
    WkOk K O L h H st (ItP (min x.n y.n) (fun H => x.G K H ∧ y.G K H) fun i a b => x.at_ i = some a ∧ y.at_ i = some b) (pairs xs ys) := by
  obtain ⟨n, W, hW, g, hat⟩ := s
  obtain ⟨n', W', hW', g', hat'⟩ := t
  have hn : min x.n y.n = (pairs xs ys).length := by simp [pairs, n, n']
  refine ⟨W ++ W', fun H => x.G K H ∧ y.G K H, _, Walk.cast walk_P hn, fun a m => ?_, fun O1 L1 h1 H1 m c k => ⟨⟨g H1 fun a ma => k a (List.mem_append_left _ ma), g' H1 fun a ma => k a (List.mem_append_right _ ma)⟩, fun i v H2 hi ⟨T, a, b, ev, hT, eH, ea, eb⟩ => ?_⟩⟩
  · rcases List.mem_append.mp m with m | m
    · exact hW a m
    · exact hW' a m
  · subst ev eH
    obtain ⟨d, hd, r⟩ := hat i a ea
    obtain ⟨e, he, r'⟩ := hat' i b eb
    obtain ⟨q1, q2, q3⟩ := pair_new c hT (Rep.mv m d a r) (Rep.mv m e b r')
    exact ⟨_, pairs_get hd he, q1, q2, q3⟩
end

section
variable {n : Nat} {X' : Cx} {K : PySem.W.Frag} {Γ : FT} {pos : Pos} {tg : Expr}
def tBS (K : PySem.W.Frag) (Γ : FT) (x : X) : TE := fun σ H Q => ∃ O L h ρ d h', CR K O L h H ∧ SLs K O L h H ρ σ ∧ evE Γ x ρ h = some (d, h') ∧
  ∀ v H' L', Stp L h H L' h' H' → CR K O L' h' H' → RepB K O L' h' H' d v → (x.isBor = false → Rep K (O ++ liveA h' L') L' H' d v) → Q v H'
theorem toBS {x : X} {e : Expr} (p : PE X' e (tX K Γ x)) : PE X' e (tBS K Γ x) := pe_weak p fun σ H Q ⟨O, L, h, ρ, d, h', c, sl, ev, q⟩ =>
  ⟨O, L, h, ρ, d, h', c, sl, ev, fun v H' L' T st c' _ r => q v H' L' st c'.dropT (r.b c') fun nb => r.s c' nb⟩
theorem pi_weak {e : Expr} {t t' : TI} (p : PI X' tg e t) (h : ∀ σ H R, t' σ H R → t σ H R) : PI X' tg e t' := ⟨fun pins s σ H R I q => p.run pins s σ H R I (h σ H R q)⟩
def iOne (K : PySem.W.Frag) (te : TE) : TI := fun σ H R => te σ H fun v H1 => ∃ x : Src, v = x.v ∧ x.G K H1 ∧ R (x.J K) H1
theorem pi_one' {l : Expr} {tl : TE} (hl : PE X' l tl) : PI X' tg l (iOne X'.K tl) := by
  refine ⟨fun pins s σ H R I h => ?_⟩
  refine thn (hl.run pins s σ H _ I h) fun v s1 ⟨x, H1, I1, r1, q1⟩ => ?_
  obtain ⟨y, e, g, q⟩ := q1
  subst e
  cases y with
  | lst a xs =>
    cases r1
    obtain ⟨its, rv, p, hz⟩ := I1.list g
    refine wpAny_pyIter_list p.isList ?_
    refine ⟨s1.heap.objs.size, [s1.heap.objs.size], _, _, H1, rfl, I1.kept (t' := s1.toks) fun b o e => Heap.get?_push_of_some _ e, turn_list a _, ⟨_, Heap.get?_push_size _ rfl, rfl, rfl⟩, fun b hb => ?_, q⟩
    have e : b = s1.heap.objs.size := by simpa using hb
    subst e
    exact I1.fpOk (Nat.le_refl _) (I1.hok.fresh (Nat.le_refl _))
  | tup a xs =>
    cases r1
    obtain ⟨its, rv, p, hz⟩ := I1.tuple g
    refine wpAny_pyIter_tuple (show s1.heap.IsTuple a its.toArray from p) ?_
    refine ⟨s1.heap.objs.size, [s1.heap.objs.size], _, _, H1, rfl, I1.kept (t' := s1.toks) fun b o e => Heap.get?_push_of_some _ e, turn_tuple a _, ⟨_, Heap.get?_push_size _ rfl, rfl, rfl⟩, fun b hb => ?_, q⟩
    have e : b = s1.heap.objs.size := by simpa using hb
    subst e
    exact I1.fpOk (Nat.le_refl _) (I1.hok.fresh (Nat.le_refl _))
  | str x =>
    obtain ⟨t, rfl⟩ := r1
    cases ha : x.cps.all (· < 128)
    · exact wpAny_pyIter_wide ha (pi_one (tk := s1.toks) I1 _ (turn_str _ x t "str_iterator" (.inr rfl)) ⟨_, Heap.get?_push_size _ rfl, rfl, rfl⟩ q)
    · exact wpAny_pyIter_ascii ha (pi_one (tk := s1.toks) I1 _ (turn_str _ x t "str_ascii_iterator" (.inl rfl)) ⟨_, Heap.get?_push_size _ rfl, rfl, rfl⟩ q)
theorem i_over {a : X} {e : Expr} (p : PE X' e (tX X'.K Γ a)) : PI X' tg e (tI X'.K Γ (.over a)) := by
  refine pi_weak (pi_one' (toBS p)) fun σ H R ⟨O, L, h, ρ, xs, h', c, sl, ev, q⟩ => ?_
  simp only [evI] at ev
  obtain ⟨⟨d, h1⟩, e1, ev⟩ := bs ev
  obtain ⟨xs', hx, e2⟩ := ms ev
  cases e2
  refine ⟨O, L, h, ρ, d, _, c, sl, e1, fun v H' L' st c' rb rs => ?_⟩
  obtain ⟨x, ex, so, z⟩ := src_of (st := !a.isBor) hx rb (fun e => rs (by simpa using e))
  exact ⟨x, ex, so.g, q _ H' L' st c' (wk_one so) z⟩
theorem smallI_of {i : Int} (h : smallI i = true) : -(2 ^ 62) ≤ i ∧ i < 2 ^ 62 := by
  unfold smallI at h
  simp only [Bool.and_eq_true, decide_eq_true_eq] at h
  exact h
theorem rngL_len (lo : Int) (n : Nat) : (rngL lo n).length = n := by simp [rngL]
theorem i_rng {a : X} {e : Expr} {p0 : Pos} {id : Str} (g : ∀ x ∈ bltNames, X'.mg x = none) (hid : id = "range") (hg : glB X'.env.scope id = true) (p : PE X' e (tX X'.K Γ a)) (he : ∀ es, starEach (e :: es) X'.env = (false, eval e X'.env) :: starEach es X'.env) :
    PI X' tg (.Call (.Name id p0) [e] [] pos) (tI X'.K Γ (.rng a)) := by
  subst hid
  refine pi_weak (pi_range1 (gl_of hg).1 (g _ (by decide +kernel)) (pa_cons (toB p) pa_nil (he [])) (he [])) fun σ H R ⟨O, L, h, ρ, xs, h', c, sl, ev, q⟩ => ?_
  simp only [evI] at ev
  obtain ⟨⟨d, h1⟩, e1, ev⟩ := bs ev
  obtain ⟨i, hi, ev⟩ := bs ev
  have := asInt_some hi
  subst this
  dsimp only at ev
  split at ev
  · rename_i gg
    cases ev
    refine ⟨O, L, h, ρ, _, _, c, sl, e1, fun v H' L' st c' rb => ⟨i, by rw [rb_int rb], (smallI_of gg.1).1, (smallI_of gg.1).2, ?_⟩⟩
    exact q _ H' L' st c' wk_rng (by rw [rngL_len]; exact Nat.le_trans gg.2 lim_le)
  · cases ev
theorem i_rng2 {a b : X} {e f : Expr} {p0 : Pos} {id : Str} (g : ∀ x ∈ bltNames, X'.mg x = none) (hid : id = "range") (hg : glB X'.env.scope id = true) (p : PE X' e (tX X'.K Γ a)) (p' : PE X' f (tX X'.K Γ b))
    (he : ∀ es, starEach (e :: es) X'.env = (false, eval e X'.env) :: starEach es X'.env) (hf : ∀ es, starEach (f :: es) X'.env = (false, eval f X'.env) :: starEach es X'.env) :
    PI X' tg (.Call (.Name id p0) [e, f] [] pos) (tI X'.K Γ (.rng2 a b)) := by
  subst hid
  refine pi_weak (pi_range2 (gl_of hg).1 (g _ (by decide +kernel)) (pa_cons (toB p) (pa_cons (toB p') pa_nil (hf [])) (he [f])) (by rw [he [f], hf []]; rfl) (hf [])) fun σ H R ⟨O, L, h, ρ, xs, h', c, sl, ev, q⟩ => ?_
  simp only [evI] at ev
  obtain ⟨⟨d, h1⟩, e1, ev1⟩ := bs ev
  obtain ⟨⟨d2, h2⟩, e2, ev2⟩ := bs ev1
  obtain ⟨i, hi, ev3⟩ := bs ev2
  obtain ⟨j, hj, ev4⟩ := bs ev3
  clear ev ev1 ev2 ev3
  have t1 := asInt_some hi
  have t2 := asInt_some hj
  dsimp only at t1 t2 ev4
  subst t1 t2
  split at ev4
  · rename_i gg
    cases ev4
    refine ⟨O, L, h, ρ, _, _, c, sl, e1, fun v H' L' st c' rb => ⟨O, L', h1, ρ, _, _, c', sl.stp c st, e2, fun v2 H2 L2 st2 c2 rb2 => ⟨i, j, by rw [rb_int rb, rb_int rb2], ⟨(smallI_of gg.1).1, (smallI_of gg.1).2, (smallI_of gg.2.1).1, (smallI_of gg.2.1).2⟩, ?_⟩⟩⟩
    exact q _ H2 L2 (st.trans st2) c2 wk_rng (by rw [rngL_len]; exact Nat.le_trans gg.2.2 lim_le)
  · cases ev4
theorem i_enum {a : X} {e : Expr} {p0 tpos : Pos} {id : Str} {elts : List Expr} {kk : Nat} (g : ∀ x ∈ bltNames, X'.mg x = none) (hid : id = "enumerate") (hg : glB X'.env.scope id = true) (p : PE X' e (tX X'.K Γ a)) (he : ∀ es, starEach (e :: es) X'.env = (false, eval e X'.env) :: starEach es X'.env) :
    PI X' (.Tuple elts kk tpos) (.Call (.Name id p0) [e] [] pos) (tI X'.K Γ (.enum a)) := by
  subst hid
  refine pi_weak (pi_enumG (gl_of hg).1 (g _ (by decide +kernel)) (pa_cons (toBS p) pa_nil (he [])) (he [])) fun σ H R ⟨O, L, h, ρ, xs, h', c, sl, ev, q⟩ => ?_
  simp only [evI] at ev
  obtain ⟨⟨d, h1⟩, e1, ev⟩ := bs ev
  obtain ⟨xs', hx, e2⟩ := ms ev
  cases e2
  unfold enumD at hx
  split at hx
  · rename_i ys hy
    cases hx
    refine ⟨O, L, h, ρ, d, _, c, sl, e1, fun v H' L' st c' rb rs => ?_⟩
    obtain ⟨x, ex, so, z⟩ := src_of (st := !a.isBor) hy rb (fun e => rs (by simpa using e))
    refine ⟨x, by rw [ex], so.g, q _ H' L' st c' (wk_enum so) ?_⟩
    simp [pairs, rngL, z]
  · cases hx
theorem items_over {d : D} {xs : List D} (e : items d = some xs) : overD d = some xs := by cases d <;> simp [items] at e <;> simp [overD, e]
theorem i_zip {a b : X} {e f : Expr} {p0 tpos : Pos} {id : Str} {elts : List Expr} {kk : Nat} (g : ∀ x ∈ bltNames, X'.mg x = none) (hid : id = "zip") (hg : glB X'.env.scope id = true) (p : PE X' e (tX X'.K Γ a)) (p' : PE X' f (tX X'.K Γ b))
    (he : ∀ es, starEach (e :: es) X'.env = (false, eval e X'.env) :: starEach es X'.env) (hf : ∀ es, starEach (f :: es) X'.env = (false, eval f X'.env) :: starEach es X'.env) :
    PI X' (.Tuple elts kk tpos) (.Call (.Name id p0) [e, f] [] pos) (tI X'.K Γ (.zip a b)) := by
  subst hid
  refine pi_weak (pi_zipG (gl_of hg).1 (g _ (by decide +kernel)) (pa_cons (toBS p) (pa_cons (toBS p') pa_nil (hf [])) (he [f])) (he [f]) (by rw [hf []]; rfl)) fun σ H R ⟨O, L, h, ρ, xs, h', c, sl, ev, q⟩ => ?_
  simp only [evI] at ev
  obtain ⟨⟨d, h1⟩, e1, ev⟩ := bs ev
  obtain ⟨⟨d2, h2⟩, e2, ev⟩ := bs ev
  obtain ⟨xs1, hx, ev⟩ := bs ev
  obtain ⟨ys1, hy, ev⟩ := bs ev
  cases ev
  refine ⟨O, L, h, ρ, d, h1, c, sl, e1, fun v H' L' st c' rb rs => ⟨O, L', h1, ρ, d2, _, c', sl.stp c st, e2, fun v2 H2 L2 st2 c2 rb2 rs2 => ?_⟩⟩
  have k1 : (It.zip a b).isBor = false → a.isBor = false ∧ b.isBor = false := fun q => by simpa [It.isBor] using q
  obtain ⟨x, ex, so, z⟩ := src_of (st := !(It.zip a b).isBor) (items_over hx) (rb.stp st2) (fun e => Rep.mv st2.mv d v (rs (k1 (by simpa using e)).1))
  obtain ⟨y, ey, so2, z2⟩ := src_of (st := !(It.zip a b).isBor) (items_over hy) rb2 (fun e => rs2 (k1 (by simpa using e)).2)
  refine ⟨x, y, by rw [ex, ey], so.g, so2.g, q _ H2 L2 (st.trans st2) c2 (wk_zip so so2) ?_⟩
  have : (pairs xs1 ys1).length ≤ xs1.length := by simp [pairs]; omega
  omega
end

section
variable {fns : List (String × Fn)} {cs : List (Str × GD)} {n : Nat} {X' : Cx} {K : PySem.W.Frag} {Γ : FT} {pos : Pos}
theorem c_glob {x id : Str} {gd : GD} (g : Gd fns cs n X') (e : x = id) (hg : glB X'.env.scope id = true) (hc : cs.lookup id = some gd) : PE X' (.Name id pos) (tX X'.K Γ (.glob x gd)) := by
  obtain ⟨u, v, h1, h2, h3⟩ := g.cst id gd hc
  obtain ⟨k1, k2, _⟩ := gl_of hg
  refine c_const (d := gd.d) (v := v) rfl rfl (pe_glob k1 h1 h2 k2) (fun ρ h d' h' ev => ?_) h3
  simp only [evE] at ev
  cases ev
  exact ⟨rfl, rfl⟩
theorem liveA_snoc {c : Cell} (hc : c ≠ .dead) {p : Addr} : ∀ {h : Hs} {L : List Addr}, L.length = h.length → liveA (h ++ [c]) (L ++ [p]) = liveA h L ++ [p]
  | [], [], _ => by cases c <;> simp [liveA] at hc ⊢
  | [], _ :: _, e => by simp at e
  | _ :: _, [], e => by simp at e
  | x :: h, a :: L, e => by
    have ih := liveA_snoc hc (p := p) (h := h) (L := L) (by simpa using e)
    cases x <;> simp [liveA, ih]
theorem cr_alloc {O L : List Addr} {h : Hs} {H : Hp} {p : Addr} {ds : List D} {vs : List V} (c : CR K ([p] ++ O) L h H) (hp : H p = some (.lst vs)) (z : vs.length ≤ sizeLine) (r : RepL K (p :: (O ++ liveA h L)) L H ds vs) :
    CR K O (L ++ [p]) (h ++ [.lst ds]) H ∧ Mv (p :: (O ++ liveA h L)) (O ++ liveA (h ++ [.lst ds]) (L ++ [p])) L (L ++ [p]) H H := by
  have el : liveA (h ++ [.lst ds]) (L ++ [p]) = liveA h L ++ [p] := liveA_snoc (by simp) c.ll
  have m : Mv (p :: (O ++ liveA h L)) (O ++ liveA (h ++ [.lst ds]) (L ++ [p])) L (L ++ [p]) H H := by
    refine ⟨fun a o e n => ⟨e, fun q => n ?_⟩, fun n a e => ?_⟩
    · rw [el] at q
      simp only [List.mem_append, List.mem_cons, List.not_mem_nil, or_false] at q ⊢
      rcases q with q | q | q
      · exact .inr (.inl q)
      · exact .inr (.inr q)
      · exact .inl q
    · have hn : n < L.length := by
        rcases Nat.lt_or_ge n L.length with q | q
        · exact q
        · rw [List.getElem?_eq_none q] at e; cases e
      rw [List.getElem?_append_left hn]; exact e
  refine ⟨⟨by simp [c.ll], ?_, fun a ma => c.ot a (List.mem_append_right _ ma), fun n x e => ?_⟩, m⟩
  · rw [el, ← List.append_assoc]
    have := c.nd
    have pm : (([p] ++ O) ++ liveA h L).Perm ((O ++ liveA h L) ++ [p]) := by
      rw [List.append_assoc]; exact List.perm_append_comm
    exact pm.nodup_iff.mp this
  · rcases Nat.lt_or_ge n h.length with q | q
    · rw [List.getElem?_append_left q] at e
      obtain ⟨a, e2, ok⟩ := c.ce n x e
      exact ⟨a, m.ls n a e2, CellOk.mv m (fun _ y => y) ok⟩
    · have hn : n = h.length := by
        rcases Nat.lt_or_ge h.length n with q' | q'
        · rw [List.getElem?_eq_none (by simp; omega)] at e; cases e
        · omega
      subst hn
      rw [List.getElem?_append_right (Nat.le_refl _)] at e
      simp at e
      subst e
      refine ⟨p, by rw [← c.ll, List.getElem?_append_right (Nat.le_refl _)]; simp, vs, hp, z, RepL.mv m ds vs r⟩
theorem c_alloc {a : X} {e : Expr} (f : a.fresh = true) (p : PE X' e (tX X'.K Γ a)) : PE X' e (tX X'.K Γ (.alloc a)) := by
  refine pe_weak (toF f p) fun σ H Q ⟨O, L, h, ρ, d, h', c, sl, ev, q⟩ => ?_
  simp only [evE] at ev
  obtain ⟨⟨x, h1⟩, e1, ev⟩ := bs ev
  refine ⟨O, L, h, ρ, x, h1, c, sl, e1, fun v H' L' T st c' hT vf => ?_⟩
  cases x with
  | lst xs =>
    simp only [allocD] at ev
    cases ev
    obtain ⟨p, vs, rfl, rfl, hH, z, r⟩ := vf
    obtain ⟨c2, m⟩ := cr_alloc c' hH z r
    have hp : H p = none := hT p (by simp)
    refine q (.ref p) H' (L' ++ [p]) [] ⟨fun n a e => m.ls n a (st.pre n a e), st.keep, fun a ma => ?_, st.there⟩ c2 nT (VR.plain rfl rfl ?_)
    · rw [liveA_snoc (by simp) c'.ll] at ma
      rcases List.mem_append.mp ma with ma | ma
      · exact st.live a ma
      · rw [List.mem_singleton.mp ma]; exact .inr hp
    · simp only [Rep]
      exact ⟨p, rfl, by rw [← c'.ll, List.getElem?_append_right (Nat.le_refl _)]; simp⟩
  | dct t ks vs => exact vf.elim
  | _ => simp [allocD] at ev

theorem base_of {o : Expr} {nm : Str} {env : Env} {w : Sem Value} (h : ∀ id p pos, o ≠ .Call (.Name id p) [] [] pos) : attributeBase o nm env w = w := by
  unfold attributeBase
  split
  · exact absurd rfl (h _ _ _)
  · rfl
theorem noCall0 {C : Ck} {fn : Str → Bool} {sc : Scope} : ∀ {a : X} {o : Expr}, chkE C fn sc a o = true → ∀ id p pos, o ≠ .Call (.Name id p) [] [] pos
  | .alloc a, o, h => by
    simp only [chkE, Bool.and_eq_true] at h
    exact noCall0 h.1
  | .call f xs, o, h => fun id p pos e => by
    subst e
    cases xs <;> simp [chkE, chkL] at h
  | .dget2 _ _ _, o, h => fun id p pos e => by
    subst e
    simp [chkE] at h
  | .pcall _ f xs, o, h => fun id p pos e => by
    subst e
    cases xs <;> simp [chkE, chkL] at h
  | .bi b xs, o, h => fun id p pos e => by
    subst e
    cases xs <;> simp [chkE, chkL] at h
  | .dnew, o, h | .dnew1 _ _, o, h | .dget _ _, o, h | .din _ _ _, o, h | .rev _, o, h | .trng _, o, h | .lrng _, o, h | .non, o, h | .bl _, o, h | .int _, o, h | .str _, o, h | .var _, o, h | .bor _, o, h | .glob _ _, o, h | .bin _ _ _, o, h | .neg _, o, h | .cmp _ _ _, o, h | .cmp2 _ _ _ _ _, o, h
  | .both _ _, o, h | .not _, o, h | .ife _ _ _, o, h | .idx _ _, o, h | .sl _ _ _, o, h | .tup _, o, h | .lst _, o, h | .isin _ _, o, h | .sset _, o, h
  | .sm _ _ _, o, h | .comp _ _ _ _ _, o, h => fun id p pos e => by
    subst e
    simp [chkE] at h
theorem allNot {C : Ck} {fn : Str → Bool} {sc : Scope} {st : Bool} : ∀ {xs : List X} {es : List Expr}, chkL C fn sc st xs es = true → ∀ (env : Env) (p : Pos), (backTo p (starEach es env)).all (fun x => !x.1) = true
  | [], [], _, _, _ => rfl
  | x :: xs, e :: es, h, env, p => by
    simp only [chkL, Bool.and_eq_true] at h
    rw [notStar x C fn sc h.1.1 es env]
    show (true && (backTo p (starEach es env)).all (fun x => !x.1)) = true
    rw [allNot h.2 env p]; rfl
  | [], _ :: _, h, _, _ => by simp [chkL] at h
  | _ :: _, [], h, _, _ => by simp [chkL] at h
theorem chkL_len {C : Ck} {fn : Str → Bool} {sc : Scope} {st : Bool} : ∀ {xs : List X} {es : List Expr}, chkL C fn sc st xs es = true → es.length = xs.length
  | [], [], _ => rfl
  | x :: xs, e :: es, h => by
    simp only [chkL, Bool.and_eq_true] at h
    rw [List.length_cons, List.length_cons, chkL_len h.2]
  | [], _ :: _, h => by simp [chkL] at h
  | _ :: _, [], h => by simp [chkL] at h
theorem smD_str {m : Sm} {a : D} {ds : List D} {z : D} (h : smD m a ds = some z) : ∃ s, a = .str s := by
  cases a with
  | str s => exact ⟨s, rfl⟩
  | _ => cases m <;> simp [smD] at h
theorem c_sm {C : Ck} {fn : Str → Bool} {m : Sm} {a : X} {xs : List X} {o e : Expr} {es : List Expr} {nm : Str} {apos cpos : Pos} (hm : m = .join ∨ m = .count) (hn : nm = smName m) (ha : chkE C fn X'.env.scope a o = true) (hl : apos.endLine = cpos.line)
    (h8 : xs.length ≤ 8) (hx : chkL C fn X'.env.scope false xs (e :: es) = true) (po : PE X' o (tX X'.K Γ a)) (p : PA X' (e :: es) (tL X'.K Γ false xs)) :
    PE X' (.Call (.Attribute o nm apos) (e :: es) [] cpos) (tX X'.K Γ (.sm m a xs)) := by
  subst hn
  have base : attributeBase o (smName m) X'.env (eval o X'.env) = eval o X'.env := base_of (noCall0 ha)
  have few : ((backTo cpos (starEach (e :: es) X'.env)).all (fun x => !x.1) && (backToKw cpos (keywordEach [] X'.env)).all (fun x => x.1.isSome)
      && decide ((e :: es).length + ([] : List Keyword).length + (if ([] : List Keyword).isEmpty then 0 else 1) < 30)) = true := by
    rw [allNot hx X'.env cpos, Bool.true_and]
    have e1 : (backToKw cpos (keywordEach [] X'.env)).all (fun x => x.1.isSome) = true := rfl
    rw [e1, Bool.true_and, decide_eq_true_eq]
    have := chkL_len hx
    simp only [List.length_nil, List.isEmpty_nil, if_true]
    omega
  have line : (apos.endLine == cpos.line) = true := by rw [hl]; exact beq_self_eq_true _
  have hs : starEach (e :: es) X'.env = (false, eval e X'.env) :: starEach es X'.env := by
    cases xs with
    | nil => simp [chkL] at hx
    | cons x xs =>
      simp only [chkL, Bool.and_eq_true] at hx
      exact notStar x C fn _ hx.1.1 es _
  have hpl : (backTo cpos (starEach es X'.env)).any (·.1) = false := by
    cases xs with
    | nil => simp [chkL] at hx
    | cons x xs =>
      simp only [chkL, Bool.and_eq_true] at hx
      exact starL hx.2 _ _
  have core : PE X' (.Call (.Attribute o (smName m) apos) (e :: es) [] cpos) (tBM X'.K "str" (rSm X'.K m) (tB X'.K Γ a) (tL X'.K Γ false xs)) := by
    rcases hm with rfl | rfl
    · exact pe_bm F.plainAttrs_str F.slot_str_join F.type_str_join (mt_sm .join) (toB po) p base few line hs hpl
    · exact pe_bm F.plainAttrs_str F.slot_str_count F.type_str_count (mt_sm .count) (toB po) p base few line hs hpl
  refine pe_weak core fun σ H Q ⟨O, L, h, ρ, d, h', c, sl, ev, q⟩ => ?_
  simp only [evE] at ev
  obtain ⟨⟨x, h1⟩, e1, ev⟩ := bs ev
  obtain ⟨⟨ds, h2⟩, e2, ev⟩ := bs ev
  obtain ⟨z, hz, e3⟩ := ms ev
  cases e3
  refine ⟨O, L, h, ρ, x, h1, c, sl, e1, fun v H1 L1 st1 c1 r1 => ⟨?_, O, L1, h1, ρ, ds, _, c1, sl.stp c st1, e2, fun vs H2 L2 st2 c2 r2 => ?_⟩⟩
  · obtain ⟨s, rfl⟩ := smD_str hz
    rw [(rb_str r1).1]; rfl
  · exact ⟨O, L2, _, x, ds, d, c2, r1.stp st2, repB_of r2, hz, fun v H' T st3 c3 hT vf => q v H' L2 T ((st1.trans st2).trans st3) c3 (fun a m => (st1.trans st2).none (hT a m)) (VR.new rfl vf)⟩
end
end Ev

namespace Ev
open PySem L2 PySem.Spec PyProof.Rows
abbrev nset (w : World) : Obj := { cls := .type "set", dict := none, data := .set #[] 0 (.fresh 0 0 (!w.params.followText "set-order")) }
section
variable {P : Program} {w : World} {A : Around} {E : Value → Shared → Prop} {s : Shared}
set_option maxHeartbeats 3200000 in
theorem set_lstI {l : Addr} {items : Array Value} (ns : List Int) {Q : Value → Shared → Prop} (hh : A.handled = none) (hl : s.heap.IsList l items) (hit : IntsAre items.toList ns) (hb : ns.length + 1 < scanBound)
    (h : ∀ (h' : Heap) (tk c : Nat), SetR w h' s.heap.objs.size (fun j => decide (j ∈ ns)) c → c ≤ ns.length → (∀ b o, s.heap.get? b = some o → h'.get? b = some o) → Q (.ref s.heap.objs.size) { s with heap := h', toks := tk }) :
    wpAny (model P w) A (call (.type "set") [.ref l]) Q E s := by
  have hisz : items.size = ns.length := by
    have q := IntsAre.length hit
    rw [Array.length_toList] at q
    exact q
  obtain ⟨c, tl, hmro⟩ := F.called_set.mro
  have hmade := F.called_set.made
  have hsub := F.called_set.sub
  refine wpAny_call (codeAny_of_tree ?_)
  show wpAny _ _ (callAny (.type "set") _) _ _ _
  refine wpAny_pure ⟨Code.quiet_builtin _ (by decide +kernel), codeAny_builtin F.entry_type_call ?_⟩
  rw [Around.under_plain (weight_type_call_type "set" [.ref l] []) rfl]
  have h1 := F.called_set.notType
  have h2 := F.called_set.canCreate
  have hct := F.typeCall_set_1 (.ref l)
  repeat (any_goals (first | assumption | wp_step))

  refine codeAny_mono (L2.code_set_led1 (.ref l) (E := E) (Q₁ := fun obj s₁ => obj = .ref s.heap.objs.size ∧ s₁ = { s with heap := s.heap.push (nset w) }) ⟨rfl, rfl⟩) fun r s₁ hr => ?_
  cases r with
  | error e => exact hr
  | ok fl =>
    cases fl with
    | ret obj =>
      obtain ⟨rfl, rfl⟩ := hr
      have hS : (s.heap.push (nset w)).get? s.heap.objs.size = some (nset w) := Heap.get?_push_size _ rfl
      have hT : Shared.TypeIs { s with heap := s.heap.push (nset w) } (.ref s.heap.objs.size) "set" := ⟨_, hS, rfl⟩
      have hli := F.called_set.init.lookup
      have hbi := F.called_set.init.bind (.ref s.heap.objs.size)
      repeat (any_goals (first | assumption | wp_step))

      refine codeAny_mono (codeAny_call_builtin (R := wants (fun r s₂ => r = .none ∧ ∃ h' tk c, s₂ = { s with heap := h', toks := tk } ∧ SetR w h' s.heap.objs.size (fun j => decide (j ∈ ns)) c ∧ c ≤ ns.length ∧
          (∀ b o, s.heap.get? b = some o → h'.get? b = some o)) E) F.called_set.init.plain F.entry_set_init (check_set_init_1 hT ?_)) fun r₂ s₂ hr₂ => ?_
      · obtain ⟨ol, hol, hcl, nl, hdl⟩ := hl
        obtain ⟨ocls, odict, odata, oslots⟩ := ol
        simp only at hcl hdl
        subst hcl; subst hdl
        have hol' : (s.heap.push (nset w)).get? l = some { cls := .type "list", dict := odict, data := .seq items nl, slots := oslots } := Heap.get?_push_of_some _ hol
        have hsls := F.sub_list_set
        have hslf := F.sub_list_frozenset
        have hne : (Value.type "list" == Value.type "dict") = false := by decide
        have hl1 : (s.heap.push (nset w)).IsList l items := ⟨_, hol', rfl, nl, rfl⟩
        unfold Builtin.«set.__init__» noKeywords Builtin.Frozenset.updateFrom
        generalize hPI : pyIter = PI
        wp_walk
        subst hPI

        refine wpAny_pyIter_list hl1 ?_
        refine wpAny_bind (wpAny_runValue ?_)
        have hlS : l < s.heap.objs.size := Heap.lt_size hol
        have hh3 : A.in1.in1.in1.handled = none := by simp [hh]
        have hz1 : (s.heap.push (nset w)).objs.size = s.heap.objs.size + 1 := Heap.size_push ..
        have hneI : l ≠ (s.heap.push (nset w)).objs.size := by
          rw [Heap.size_push]; exact Nat.ne_of_lt (Nat.lt_succ_of_lt hlS)
        have hSf : s.heap.objs.size ∉ [(s.heap.push (nset w)).objs.size, l] := by
          rw [Heap.size_push]; simp only [List.mem_cons, List.mem_singleton, List.not_mem_nil, or_false, not_or]
          exact ⟨Nat.ne_of_lt (Nat.lt_succ_self _), Nat.ne_of_gt hlS⟩
        have hval : ∀ (i : Nat) (v : Value), items[i]? = some v → ∃ k t, ns[i]? = some k ∧ v = .int k t := fun i v hv => by
          have hi : i < ns.length := by rw [← hisz]; exact (Array.getElem?_eq_some_iff.mp hv).1
          obtain ⟨t, e⟩ := PyProof.Rows.IntsAre.int_at hit i v (by rw [Array.getElem?_toList]; exact hv)
          refine ⟨ns[i], t, List.getElem?_eq_getElem hi, ?_⟩
          rw [e, List.getD_eq_getElem?_getD, List.getElem?_eq_getElem hi] <;> rfl
        refine set_update_ints ((Walks.list hh3 _ l hneI items).toS) s.heap.objs.size
          hSf ns hisz hb hval (items.size - 0) 0 _ (by omega) (Nat.zero_le _)
          ⟨⟨_, Heap.get?_push_size _ rfl, rfl, rfl⟩, (hl1.push _)⟩ ?hS0 ?hR
        case hS0 =>
          have hget : ((s.heap.push (nset w)).push { cls := .type "list_iterator", data := .fields #[.ref l, .int 0 0] }).get? s.heap.objs.size
              = some (nset w) := Heap.get?_push_of_some _ hS
          exact ⟨0, Nat.le_refl 0, setR_new_at hget⟩
        case hR =>
          intro s' c' hm hc' hS'
          obtain ⟨h', g2, d', tk', os'⟩ := s'
          have eg : g2 = s.gens := hm.gens
          have ed : d' = s.drawn := hm.drawn
          have eo : os' = s.os := hm.os
          subst eg; subst ed; subst eo
          show wpAny _ _ _ _ _ _
          refine wpAny_pure ?_
          show wpAny _ _ (ret Value.none) _ _ _
          rw [hisz] at hc'
          refine wpAny_pure ⟨rfl, h', tk', c', rfl, hS', hc', fun b o e => ?_⟩
          have hb0 : b < s.heap.objs.size := Heap.lt_size e
          have hb1 : b ≠ s.heap.objs.size := Nat.ne_of_lt hb0
          have hb2 : b ≠ (s.heap.push (nset w)).objs.size := by
            rw [Heap.size_push]; exact Nat.ne_of_lt (Nat.lt_succ_of_lt hb0)
          exact hm.heap b o (by simp only [List.mem_cons, List.mem_singleton, List.not_mem_nil, or_false, not_or]; exact ⟨hb1, hb2⟩) (Heap.get?_push_of_some _ (Heap.get?_push_of_some _ e))

      · cases r₂ with
        | error e => exact hr₂
        | ok fl₂ =>
          cases fl₂ with
          | ret r =>
            obtain ⟨rfl, h', tk, c', rfl, hS', hc', hk'⟩ := hr₂
            repeat (any_goals (first | assumption | wp_step))
            exact h _ _ _ hS' hc' hk'
          | _ => exact hr₂.elim
    | _ => exact hr.elim

end
end Ev

namespace Ev
open PySem L2 PySem.Spec PyProof.Rows
theorem insU_mem (x k : Int) : ∀ r : List Int, k ∈ insU x r ↔ k = x ∨ k ∈ r
  | [] => by simp [insU]
  | y :: r => by
    unfold insU
    split
    · simp
    · split
      · rename_i h; subst h; simp
      · rw [List.mem_cons, insU_mem x k r, List.mem_cons]
        constructor
        · rintro (h | h | h)
          · exact .inr (.inl h)
          · exact .inl h
          · exact .inr (.inr h)
        · rintro (h | h | h)
          · exact .inr (.inl h)
          · exact .inl h
          · exact .inr (.inr h)
theorem insU_ris (x : Int) : ∀ r : List Int, r.Pairwise (· < ·) → (insU x r).Pairwise (· < ·)
  | [], _ => by simp [insU]
  | y :: r, h => by
    obtain ⟨h1, h2⟩ := List.pairwise_cons.mp h
    unfold insU
    split
    · rename_i hx
      refine List.pairwise_cons.mpr ⟨fun z m => ?_, h⟩
      rcases List.mem_cons.mp m with e | m
      · rw [e]; exact hx
      · have := h1 z m
        omega
    · split
      · exact h
      · refine List.pairwise_cons.mpr ⟨fun z m => ?_, insU_ris x r h2⟩
        rcases (insU_mem x z r).mp m with e | m
        · omega
        · exact h1 z m
theorem srtU_mem (k : Int) : ∀ ns : List Int, k ∈ srtU ns ↔ k ∈ ns
  | [] => by simp [srtU]
  | n :: r => by
    show k ∈ insU n (srtU r) ↔ _
    rw [insU_mem, srtU_mem k r, List.mem_cons]
theorem srtU_ris : ∀ ns : List Int, (srtU ns).Pairwise (· < ·)
  | [] => List.Pairwise.nil
  | n :: r => insU_ris n _ (srtU_ris r)
/-- a rising list is told by its members -/
theorem ris_eq : ∀ {a b : List Int}, a.Pairwise (· < ·) → b.Pairwise (· < ·) → (∀ k, k ∈ a ↔ k ∈ b) → a = b
  | [], [], _, _, _ => rfl
  | [], y :: r, _, _, h => by simpa using (h y).mpr List.mem_cons_self
  | x :: r, [], _, _, h => by simpa using (h x).mp List.mem_cons_self
  | x :: r, y :: s, ha, hb, h => by
    obtain ⟨a1, a2⟩ := List.pairwise_cons.mp ha
    obtain ⟨b1, b2⟩ := List.pairwise_cons.mp hb
    have e : x = y := by
      rcases List.mem_cons.mp ((h x).mp List.mem_cons_self) with q | q
      · exact q
      · rcases List.mem_cons.mp ((h y).mpr List.mem_cons_self) with p | p
        · exact p.symm
        · have := b1 x q
          have := a1 y p
          omega
    subst e
    rw [ris_eq a2 b2 fun k => ?_]
    constructor
    · intro m
      rcases List.mem_cons.mp ((h k).mp (List.mem_cons_of_mem _ m)) with q | q
      · have := a1 k m; omega
      · exact q
    · intro m
      rcases List.mem_cons.mp ((h k).mpr (List.mem_cons_of_mem _ m)) with q | q
      · have := b1 k m; omega
      · exact q
section
variable {X : Cx}
/-- set(xs), a list or a tuple of numbers -/
def rSetI (K : PySem.W.Frag) (w : World) : List V → Hp → VK → Prop := fun xs H Q => ∃ (a : Addr) (ns : List Int), xs = [V.ref a] ∧ (SqL K H a (ns.map V.int) ∨ SqT K H a (ns.map V.int)) ∧ ns.length + 1 < scanBound ∧
  ∀ p c, H p = none → c = (srtU ns).length → Q (.ref p) (upd H p (SetO w p (fun j => decide (j ∈ ns)) c))
theorem cr_setI (hc : X.calm = true) : CallR X (.type "set") (rSetI X.K X.w) := by
  intro pins s σ H xs us Q I r h
  obtain ⟨a, ns, rfl, hq, hb, q⟩ := h
  rw [Vals.ref1 r]
  have cnt : ∀ {h' : Heap} {c : Nat}, SetR X.w h' s.heap.objs.size (fun j => decide (j ∈ ns)) c → c = (srtU ns).length := fun {h' c} R => by
    obtain ⟨o, es, ep, t, _, _, _, _, hnd, hm, _, _, hc', _⟩ := R
    have p : (es.toList.map keyOf).Perm (srtU ns) := by
      refine (List.perm_ext_iff_of_nodup hnd ?_).mpr fun k => ?_
      · exact (srtU_ris ns).imp fun h q => by rw [q] at h; exact Int.lt_irrefl _ h
      · rw [← hm k, srtU_mem]
        simp
    have := p.length_eq
    rw [List.length_map, Array.length_toList] at this
    omega
  have fin : ∀ (h' : Heap) (tk c : Nat), SetR X.w h' s.heap.objs.size (fun j => decide (j ∈ ns)) c → c ≤ ns.length → (∀ b o, s.heap.get? b = some o → h'.get? b = some o) → EP X pins σ Q (.ref s.heap.objs.size) { s with heap := h', toks := tk } := fun h' tk c R hcn k =>
    ⟨.ref s.heap.objs.size, upd H s.heap.objs.size (SetO X.w s.heap.objs.size (fun j => decide (j ∈ ns)) c), I.laid (t' := tk) k (Nat.le_refl _) (setO_new R), rfl, q _ c (I.hok.fresh (Nat.le_refl _)) (cnt R)⟩
  rcases hq with hq | hq
  · obtain ⟨its, rv, p, z⟩ := I.list hq
    exact set_lstI ns (I.ok.hd hc) p.isList (by simpa using intsAre_of rv) hb fin
  · obtain ⟨its, rv, p, z⟩ := I.tuple hq
    exact call_set_tupI ns (I.ok.hd hc) (show s.heap.IsTuple a its.toArray from p) (by simpa using intsAre_of rv) hb fin
end
theorem mapO_len {α β : Type} (f : α → Option β) : ∀ {xs : List α} {ys : List β}, mapO f xs = some ys → ys.length = xs.length
  | [], _, e => by simp only [mapO] at e; cases e; rfl
  | x :: r, ys, e => by
    simp only [mapO] at e
    split at e
    · rename_i y s h1 h2
      cases e
      rw [List.length_cons, List.length_cons, mapO_len f h2]
    · cases e
theorem boot_sorted' : bootBuiltins (Str.ofString "sorted") = some (.builtin "sorted") := by decide +kernel
theorem boot_set' : bootBuiltins (Str.ofString "set") = some (.type "set") := by decide +kernel
section
variable {fns : List (String × Fn)} {cs : List (Str × GD)} {n : Nat} {X' : Cx} {Γ : FT} {pos : Pos}
theorem c_sset {a : X} {id id2 : Str} {p0 p1 p2 : Pos} {e : Expr} (g : Gd fns cs n X') (hid : id = Str.ofString "sorted") (hg : glB X'.env.scope id = true) (hid2 : id2 = Str.ofString "set") (hg2 : glB X'.env.scope id2 = true)
    (p : PE X' e (tX X'.K Γ a)) (he : ∀ es, starEach (e :: es) X'.env = (false, eval e X'.env) :: starEach es X'.env) : PE X' (.Call (.Name id p0) [.Call (.Name id2 p1) [e] [] p2] [] pos) (tX X'.K Γ (.sset a)) := by
  obtain ⟨hg, hdb, hn⟩ := gl_of hg
  obtain ⟨hg2, hdb2, hn2⟩ := gl_of hg2
  subst hid hid2
  have inner := pe_callTy (pos := p2) (p := p1) (cr_setI (X := X') g.calm) hg2 (g.blt _ (by decide +kernel)) boot_set' (pa_cons (toB p) pa_nil (he [])) hn2 hdb2 (he []) rfl
  have core := pe_callB (pos := pos) (p := p0) (cr_sortedSet (X := X') g.calm) hg (g.blt _ (by decide +kernel)) boot_sorted' (pa_cons inner pa_nil rfl) hn hdb rfl rfl
  refine pe_weak core fun σ H Q ⟨O, L, h, ρ, d, h', c, sl, ev, q⟩ => ?_
  simp only [evE] at ev
  obtain ⟨⟨x, h1⟩, e1, ev2⟩ := bs ev
  obtain ⟨z, hz, e3⟩ := ms ev2
  obtain ⟨ed, eh⟩ := Prod.mk.inj e3
  subst ed
  subst eh
  unfold ssetD at hz
  split at hz
  · rename_i xs hx
    split at hz
    · rename_i ns hns
      split at hz
      · rename_i hl
        cases hz
        refine ⟨O, L, h, ρ, x, _, c, sl, e1, fun v H1 L1 st1 c1 r1 => ?_⟩
        have key : ∃ b, v = .ref b ∧ (SqL X'.K H1 b (ns.map V.int) ∨ SqT X'.K H1 b (ns.map V.int)) := by
          cases x with
          | lst ys =>
            simp only [items] at hx
            cases hx
            obtain ⟨b, vs, rfl, t, _, r⟩ := rb_lst r1
            have := r.ints hns
            subst this
            exact ⟨b, rfl, .inl (SqL.of t)⟩
          | tup ys =>
            simp only [items] at hx
            cases hx
            obtain ⟨b, vs, rfl, t, _, r⟩ := rb_tup r1
            have := r.ints hns
            subst this
            exact ⟨b, rfl, .inr t⟩
          | _ => simp [items] at hx
        obtain ⟨b, rfl, hb⟩ := key
        refine ⟨b, ns, rfl, hb, by unfold scanBound; omega, fun sp k hsp hk => ?_⟩
        have c2 := (c1.fresh hsp (o := SetO X'.w sp (fun j => decide (j ∈ ns)) k)).drop
        have st2 : Stp L1 h1 H1 L1 h1 (upd H1 sp (SetO X'.w sp (fun j => decide (j ∈ ns)) k)) := stp_fresh hsp
        refine ⟨sp, _, k, rfl, upd_same, by omega, fun ms lp hr hm hlen hlp => ?_⟩
        have em : ms = srtU ns := ris_eq hr (srtU_ris ns) fun j => by
          rw [hm j, srtU_mem]
          simp
        subst em
        have rl : RepL X'.K (O ++ liveA h1 L1) L1 (upd H1 sp (SetO X'.w sp (fun j => decide (j ∈ ns)) k)) ((srtU ns).map D.int) ((srtU ns).map V.int) := by
          generalize srtU ns = l
          induction l with
          | nil => exact RepL.nil
          | cons i r ih => exact RepL.cons (rep_int i) ih
        exact resF_lst c2 hlp rl (by rw [List.length_map, hlen, sizeLine_eq]; omega) fun v H' T st c' hT vf => q v H' L1 T ((st1.trans st2).trans st) c' (fun a m => (st1.trans st2).none (hT a m)) (VR.new rfl vf)
      · cases hz
    · cases hz
  · cases hz
end
end Ev

namespace Ev
open PySem L2

def setV : St → List Nat → List V → St
  | σ, i :: is, v :: vs => setV (σ.set i (some v)) is vs
  | σ, _, _ => σ
section
variable {K : PySem.W.Frag}
theorem wipe_get : ∀ (vs : List Nat) (σ : St) (j : Nat), (wipe σ vs)[j]? = if j ∈ vs ∧ j < σ.length then some none else σ[j]?
  | [], σ, j => by simp [wipe]
  | v :: vs, σ, j => by
    unfold wipe
    have ih := wipe_get vs σ j
    by_cases h : v = j
    · subst h
      by_cases hl : v < σ.length
      · rw [List.getElem?_set_self (by rw [wipe_length]; exact hl), if_pos ⟨by simp, hl⟩]
      · rw [List.getElem?_eq_none (by rw [List.length_set, wipe_length]; omega), if_neg (fun q => hl q.2), List.getElem?_eq_none (by omega)]
    · rw [List.getElem?_set_ne h, ih]
      have this : (j ∈ v :: vs) ↔ (j ∈ vs) := by
        simp only [List.mem_cons]
        exact ⟨fun q => q.resolve_left fun e => h e.symm, .inr⟩
      by_cases q : j ∈ vs ∧ j < σ.length
      · rw [if_pos q, if_pos ⟨this.mpr q.1, q.2⟩]
      · rw [if_neg q, if_neg fun k => q ⟨this.mp k.1, k.2⟩]
theorem wipe_set {σ : St} {i : Nat} {x : Option V} {ws : List Nat} (h : i ∈ ws) : wipe (σ.set i x) ws = wipe σ ws := by
  apply List.ext_getElem?
  intro j
  rw [wipe_get, wipe_get, List.length_set]
  by_cases e : i = j
  · subst e
    by_cases hl : i < σ.length
    · rw [if_pos ⟨h, hl⟩, if_pos ⟨h, hl⟩]
    · rw [if_neg (fun q => hl q.2), if_neg (fun q => hl q.2), List.getElem?_eq_none (by rw [List.length_set]; omega), List.getElem?_eq_none (by omega)]
  · rw [List.getElem?_set_ne e]
theorem wipe_setV : ∀ {is : List Nat} {vs : List V} {σ : St} {ws : List Nat}, (∀ i ∈ is, i ∈ ws) → wipe (setV σ is vs) ws = wipe σ ws
  | [], _, _, _, _ => by cases ‹List V› <;> rfl
  | _ :: _, [], _, _, _ => rfl
  | i :: is, v :: vs, σ, ws, h => by
    show wipe (setV (σ.set i (some v)) is vs) ws = _
    rw [wipe_setV fun j m => h j (List.mem_cons_of_mem _ m), wipe_set (h i List.mem_cons_self)]
theorem SLs.set {O L : List Addr} {h : Hs} {H : Hp} {ρ : Rho} {σ : St} {i : Nat} {d : D} {v : V} (s : SLs K O L h H ρ σ) (r : Rep K (O ++ liveA h L) L H d v) : SLs K O L h H (ρ.set i (.val d)) (σ.set i (some v)) := by
  refine ⟨by rw [List.length_set, List.length_set, s.len], fun j x e => ?_⟩
  by_cases q : i = j
  · subst q
    by_cases hl : i < ρ.length
    · rw [List.getElem?_set_self hl] at e
      cases e
      exact ⟨some v, List.getElem?_set_self (by rw [← s.len]; exact hl), v, rfl, r⟩
    · rw [List.getElem?_eq_none (by rw [List.length_set]; omega)] at e; cases e
  · rw [List.getElem?_set_ne q] at e ⊢
    exact s.at_ j x e
theorem SLs.setV : ∀ {is : List Nat} {ds : List D} {vs : List V} {O L : List Addr} {h : Hs} {H : Hp} {ρ ρ' : Rho} {σ : St}, SLs K O L h H ρ σ → RepL K (O ++ liveA h L) L H ds vs → setMany ρ is ds = some ρ' → SLs K O L h H ρ' (Ev.setV σ is vs)
  | [], [], _, _, _, _, _, _, _, _, s, r, e => by
    simp only [setMany] at e
    cases e
    have := r.nil_inv
    subst this
    exact s
  | i :: is, d :: ds, _, _, _, _, _, _, _, _, s, r, e => by
    simp only [setMany] at e
    obtain ⟨v, vs, rfl, r1, r2⟩ := r.cons_inv
    exact SLs.setV (is := is) (ds := ds) (s.set r1) r2 e
  | [], _ :: _, _, _, _, _, _, _, _, _, s, r, e => by simp [setMany] at e
  | _ :: _, [], _, _, _, _, _, _, _, _, s, r, e => by simp [setMany] at e
theorem setMany_len : ∀ {is : List Nat} {ds : List D} {ρ ρ' : Rho}, setMany ρ is ds = some ρ' → ds.length = is.length
  | [], [], _, _, _ => rfl
  | i :: is, d :: ds, _, _, e => by
    simp only [setMany] at e
    rw [List.length_cons, List.length_cons, setMany_len e]
  | [], _ :: _, _, _, e => by simp [setMany] at e
  | _ :: _, [], _, _, e => by simp [setMany] at e
theorem wipeR_length (ρ : Rho) : ∀ vs : List Nat, (wipeR ρ vs).length = ρ.length
  | [] => rfl
  | v :: vs => by unfold wipeR; rw [List.length_set, wipeR_length ρ vs]
theorem wipeR_some {ρ : Rho} {i : Nat} {x : Sl} : ∀ {vs : List Nat}, (wipeR ρ vs)[i]? = some x → x = .un ∨ (i ∉ vs ∧ ρ[i]? = some x)
  | [], h => .inr ⟨by simp, h⟩
  | v :: vs, h => by
    unfold wipeR at h
    by_cases hi : v = i
    · subst hi
      by_cases hv : v < (wipeR ρ vs).length
      · rw [List.getElem?_set_self hv] at h; exact .inl (Option.some.inj h).symm
      · rw [List.getElem?_eq_none (by simpa using hv)] at h; cases h
    · rw [List.getElem?_set_ne hi] at h
      rcases wipeR_some h with q | ⟨q1, q2⟩
      · exact .inl q
      · exact .inr ⟨by simp only [List.mem_cons, not_or]; exact ⟨fun e => hi e.symm, q1⟩, q2⟩
theorem SLs.wipe {O L : List Addr} {h : Hs} {H : Hp} {ρ : Rho} {σ : St} (vs : List Nat) (s : SLs K O L h H ρ σ) : SLs K O L h H (wipeR ρ vs) (wipe σ vs) := by
  refine ⟨by rw [wipeR_length, wipe_length, s.len], fun i x e => ?_⟩
  rcases wipeR_some e with rfl | ⟨n, e2⟩
  · have hl : i < (wipeR ρ vs).length := by
      rcases Nat.lt_or_ge i (wipeR ρ vs).length with q | q
      · exact q
      · rw [List.getElem?_eq_none q] at e; cases e
    rw [wipeR_length, s.len, ← wipe_length σ vs] at hl
    exact ⟨_, List.getElem?_eq_getElem hl, trivial⟩
  · rw [wipe_out n]
    exact s.at_ i x e2
end
section
variable {fns : List (String × Fn)} {cs : List (Str × GD)} {n : Nat} {X' : Cx} {K : PySem.W.Frag} {Γ : FT} {pos : Pos} {C : Ck} {fn : Str → Bool}
theorem stB_of {i : Nat} {id : Str} (hC : C.N = X'.N) (hfn : ∀ y, fn y = true → X'.fn y = true) (h : stB C fn X'.env.scope i id = true) : X'.N[i]? = some id ∧ Loc X'.env.scope id ∧ (X'.fn id = true ∨ X'.env.scope.names.lookup id = some .local) := by
  unfold stB at h
  simp only [Bool.and_eq_true, Bool.or_eq_true, decide_eq_true_eq] at h
  rw [hC] at h
  refine ⟨h.1, ?_, ?_⟩
  · rcases h.2 with q | q
    · exact .inl q
    · exact .inr q.1
  · rcases h.2 with q | q
    · exact .inr q
    · exact .inl (hfn _ q.2)
theorem pg_weak {tg : Expr} {t t' : TG} (p : PG X' tg t) (h : ∀ v σ H Q, t' v σ H Q → t v σ H Q) : PG X' tg t' := ⟨fun pins s σ H v u Q I r q => p.run pins s σ H v u Q I r (h v σ H Q q)⟩
theorem pgs_weak {tg : List Expr} {t t' : TGs} (p : PGs X' tg t) (h : ∀ v σ H Q, t' v σ H Q → t v σ H Q) : PGs X' tg t' := ⟨fun pins s σ H v u Q I r q => p.run pins s σ H v u Q I r (h v σ H Q q)⟩
theorem pgs_many (hN : X'.N.Nodup) (hC : C.N = X'.N) (hfn : ∀ y, fn y = true → X'.fn y = true) : ∀ {is : List Nat} {es : List Expr}, stMany C fn X'.env.scope is es = true →
    PGs X' es (fun vs σ H Q => vs.length = is.length ∧ Q (setV σ is vs) H) ∧ (assignEach es X'.env).length = is.length ∧ (assignEach es X'.env).findIdx? (·.1) = none
  | [], [], _ => ⟨pgs_weak pgs_nil fun vs σ H Q ⟨e, q⟩ => by
      cases vs with
      | nil => exact ⟨rfl, q⟩
      | cons _ _ => simp at e, rfl, rfl⟩
  | i :: is, .Name id p :: es, h => by
    simp only [stMany, Bool.and_eq_true] at h
    obtain ⟨a, b, c⟩ := stB_of hC hfn h.1
    obtain ⟨ih1, ih2, ih3⟩ := pgs_many hN hC hfn h.2
    have e0 : assignEach (.Name id p :: es) X'.env = (false, assign (.Name id p) X'.env) :: assignEach es X'.env := rfl
    refine ⟨pgs_weak (pgs_cons (pg_name hN a b c) ih1 (by rw [e0]; rfl)) fun vs σ H Q ⟨e, q⟩ => ?_, by rw [e0, List.length_cons, List.length_cons, ih2], by rw [e0, List.findIdx?_cons, ih3]; rfl⟩
    cases vs with
    | nil => simp at e
    | cons v vs => exact ⟨v, vs, rfl, by simpa using e, q⟩
  | [], _ :: _, h => by simp [stMany] at h
  | _ :: _, [], h => by simp [stMany] at h
  | i :: is, .BoolOp .. :: es, h | i :: is, .NamedExpr .. :: es, h | i :: is, .BinOp .. :: es, h | i :: is, .UnaryOp .. :: es, h | i :: is, .Lambda .. :: es, h | i :: is, .IfExp .. :: es, h
  | i :: is, .Dict .. :: es, h | i :: is, .Set .. :: es, h | i :: is, .ListComp .. :: es, h | i :: is, .SetComp .. :: es, h | i :: is, .DictComp .. :: es, h | i :: is, .GeneratorExp .. :: es, h
  | i :: is, .Await .. :: es, h | i :: is, .Yield .. :: es, h | i :: is, .YieldFrom .. :: es, h | i :: is, .Compare .. :: es, h | i :: is, .Call .. :: es, h | i :: is, .FormattedValue .. :: es, h
  | i :: is, .JoinedStr .. :: es, h | i :: is, .Constant .. :: es, h | i :: is, .Attribute .. :: es, h | i :: is, .Subscript .. :: es, h | i :: is, .Starred .. :: es, h | i :: is, .List .. :: es, h
  | i :: is, .Tuple .. :: es, h | i :: is, .Slice .. :: es, h => by simp [stMany] at h
def gT (K : PySem.W.Frag) (tg : Tg) : TG := fun v σ H Q => ∃ O L h ρ d ρ', CR K O L h H ∧ SLs K O L h H ρ σ ∧ Rep K (O ++ liveA h L) L H d v ∧ bindT tg d ρ = some ρ' ∧
  ∀ σ', SLs K O L h H ρ' σ' → (∀ ws, (∀ i ∈ tg.ixs, i ∈ ws) → L2.wipe σ' ws = L2.wipe σ ws) → Q σ' H
theorem pg_T (hc : X'.calm = true) (hN : X'.N.Nodup) (hC : C.N = X'.N) (hfn : ∀ y, fn y = true → X'.fn y = true) : ∀ {tg : Tg} {e : Expr}, chkT C fn X'.env.scope tg e = true → PG X' e (gT X'.K tg) := by
  intro tg e h
  unfold chkT at h
  split at h
  · rename_i i id p
    obtain ⟨a, b, c⟩ := stB_of hC hfn h
    refine pg_weak (pg_name hN a b c) fun v σ H Q ⟨O, L, hh, ρ, d, ρ', cr, sl, r, e, q⟩ => ?_
    simp only [bindT] at e
    cases e
    exact q _ (sl.set r) fun ws hw => wipe_set (hw i (by simp [Tg.ixs]))
  · rename_i is es k p
    obtain ⟨a, b, c⟩ := pgs_many hN hC hfn h
    refine pg_weak (pg_tup hc a b c) fun v σ H Q ⟨O, L, hh, ρ, d, ρ', cr, sl, r, e, q⟩ => ?_
    cases d with
    | tup ds =>
      simp only [bindT] at e
      obtain ⟨a, vs, ev, t, z, r⟩ := rb_tup r.b
      have hl := setMany_len e
      exact ⟨a, vs, ev, t, by rw [r.length, hl], by rw [r.length, hl], q _ (sl.setV r e) fun ws hw => wipe_setV hw⟩
    | _ => simp [bindT] at e
  · cases h

theorem mv_D {O L L' : List Addr} {h h' : Hs} {H H' : Hp} {d : Addr} (s : Stp L h H L' h' H') (hd : H d = none) : Mv (O ++ liveA h L) ((d :: O) ++ liveA h' L') L L' H H' where
  at_ := fun a o e n => by
    have m := (s.mv (O := O)).at_ a o e n
    refine ⟨m.1, fun q => ?_⟩
    rcases List.mem_cons.mp q with q | q
    · subst q; rw [hd] at e; cases e
    · exact m.2 q
  ls := s.pre
theorem SLs.mvD {O L L' : List Addr} {h h' : Hs} {H H' : Hp} {d : Addr} {ρ : Rho} {σ : St} (c : CR K O L h H) (s : Stp L h H L' h' H') (hd : H d = none) (r : SLs K O L h H ρ σ) : SLs K (d :: O) L' h' H' ρ σ :=
  ⟨r.len, fun i x e => by
    obtain ⟨ov, e2, ok⟩ := r.at_ i x e
    exact ⟨ov, e2, SlOk.mv (mv_D s hd) (fun a m o q => s.keep a o q (c.not_live m)) (fun _ m => List.mem_cons_of_mem _ m) ok⟩⟩
theorem mv_mut {M L : List Addr} {H : Hp} {d : Addr} {o : HO} (hd : d ∈ M) : Mv M M L L H (upd H d o) :=
  ⟨fun a x e n => ⟨by rw [upd_ne (fun q => n (by rw [q]; exact hd))]; exact e, n⟩, fun _ _ e => e⟩
theorem CR.mut {O L : List Addr} {h : Hs} {H : Hp} {d : Addr} {o : HO} (c : CR K O L h H) (hd : d ∈ O) : CR K O L h (upd H d o) where
  ll := c.ll
  nd := c.nd
  ot := fun a m => by
    by_cases q : a = d
    · subst q; exact ⟨o, upd_same⟩
    · obtain ⟨x, e⟩ := c.ot a m
      exact ⟨x, by rw [upd_ne q]; exact e⟩
  ce := fun n x e => by
    obtain ⟨a, e2, ok⟩ := c.ce n x e
    refine ⟨a, e2, ?_⟩
    cases x with
    | dead => trivial
    | lst ds =>
      have hl : a ∈ liveA h L := mem_live e e2 (by simp)
      have hne : a ≠ d := fun q => c.not_live hd (q ▸ hl)
      exact CellOk.mv (mv_mut (List.mem_append_left _ hd)) (fun y q => by rw [upd_ne hne]; exact q) ok
    | dct _ _ _ =>
      have hl : a ∈ liveA h L := mem_live e e2 (by simp)
      have hne : a ≠ d := fun q => c.not_live hd (q ▸ hl)
      exact CellOk.mv (mv_mut (List.mem_append_left _ hd)) (fun y q => by rw [upd_ne hne]; exact q) ok
    | ins _ _ => exact ok.elim
theorem stp_updD {L L' : List Addr} {h h' : Hs} {H H' : Hp} {d : Addr} {o : HO} (s : Stp L h H L' h' H') (hd : H d = none) : Stp L h H L' h' (upd H' d o) where
  pre := s.pre
  keep := fun a x e n => by rw [upd_ne (ne_of_none e hd)]; exact s.keep a x e n
  live := s.live
  there := fun a x e => by rw [upd_ne (ne_of_none e hd)]; exact s.there a x e
def stepC (Γ : FT) (own : List Nat) (tg : Tg) (c e : X) (ρ : Rho) : D → Hs → Option (Option D × Hs) := fun d h => do
  let ρ' ← bindT tg d (wipeR ρ own)
  let (k, h1) ← evE Γ c ρ' h
  let b ← asBl k
  if b = true then (evE Γ e ρ' h1).map fun r => (some r.1, r.2) else some (none, h1)
theorem tLc_of {own : List Nat} {tg : Tg} {it : It} {c e : X} (hix : ∀ k ∈ tg.ixs, k ∈ own) : ∀ σ H Q, tX K Γ (.comp own tg it c e) σ H Q → tLc (tI K Γ it) (gT K tg) (tT K Γ c) (tS K Γ e) own σ H Q := by
  intro σ H Q ⟨O, L, h, ρ, d, h', cr, sl, ev, q⟩
  simp only [evE] at ev
  obtain ⟨⟨xs, h1⟩, e1, ev⟩ := bs ev
  obtain ⟨⟨ys, h2⟩, e2, ev2⟩ := bs ev
  obtain ⟨ed0, eh0⟩ : d = .lst ys ∧ h' = h2 := by cases ev2; exact ⟨rfl, rfl⟩
  clear ev ev2
  subst ed0 eh0
  replace e2 : compL (stepC Γ own tg c e ρ) xs h1 = some (ys, h') := e2
  refine ⟨O, L, h, ρ, xs, h1, cr, sl, e1, fun J H1 L1 st1 c1 wk zx => ?_⟩
  intro D hD
  obtain ⟨Wa, G, Yd, walk, hW, hY⟩ := wk
  have slw := (sl.stp cr st1).wipe own
  refine lc_it walk (fun i H2 => ∃ L2 h2 accD acc ys2, Stp L1 h1 H1 L2 h2 H2 ∧ CR K (D :: O) L2 h2 H2 ∧ H2 D = some (.lst acc) ∧ acc.length ≤ i ∧ compL (stepC Γ own tg c e ρ) (xs.drop i) h2 = some (ys2, h') ∧
    RepL K (D :: (O ++ liveA h2 L2)) L2 H2 accD acc ∧ ys = accD ++ ys2) ?_ ?_ ?_ ?_
  · exact ⟨L1, h1, [], [], ys, stp_fresh hD, c1.fresh hD, upd_same, Nat.le_refl _, by simpa using e2, RepL.nil, rfl⟩
  · rintro i H2 hi ⟨L2, h2, accD, acc, ys2, st2, c2, hD2, hl2, e3, r2, ey⟩
    exact (hY (D :: O) L2 h2 H2 (mv_D st2 hD) c2 fun a ma o q => st2.keep a o q (hW a ma).2.1).1
  · rintro i x H2 H3 hi ⟨L2, h2, accD, acc, ys2, st2, c2, hD2, hl2, e3, r2, ey⟩ yd
    obtain ⟨dx, hdx, st3, c3, rx⟩ := (hY (D :: O) L2 h2 H2 (mv_D st2 hD) c2 fun a ma o q => st2.keep a o q (hW a ma).2.1).2 i x H3 hi yd
    have ed : xs.drop i = dx :: xs.drop (i + 1) := by
      rw [List.drop_eq_getElem_cons hi]
      rw [List.getElem?_eq_getElem hi] at hdx
      cases hdx
      rfl
    rw [ed] at e3
    simp only [compL] at e3
    obtain ⟨⟨o, h3⟩, e4a, e3a⟩ := bs e3
    obtain ⟨⟨ys3, h4⟩, e5, e3b⟩ := bs e3a
    unfold stepC at e4a
    obtain ⟨ρ', hb, e4b⟩ := bs e4a
    obtain ⟨⟨k, h5⟩, ec, e4c⟩ := bs e4b
    obtain ⟨b, hk, e4⟩ := bs e4c
    clear e3 e3a e4a e4b e4c
    have hk2 := asBl_some hk
    dsimp only at hk2 e5 e3b e4
    subst hk2
    refine ⟨D :: O, L2, h2, wipeR ρ own, dx, ρ', c3, (slw.mvD c1 st2 hD).stp c2 st3, rx, hb, fun σ2 sl2 hw2 => ⟨hw2 own hix |>.trans ?_, D :: O, L2, h2, ρ', b, h5, c3, sl2, ec, fun H4 L4 st4 c4 => ?_⟩⟩
    · apply List.ext_getElem?
      intro j
      rw [wipe_get, wipe_length, wipe_get]
      by_cases q : j ∈ own ∧ j < σ.length
      · rw [if_pos q, if_pos q]
      · rw [if_neg q]
    have H4D : H4 D = some (.lst acc) := st4.keep D _ (st3.keep D _ hD2 (c2.not_live List.mem_cons_self)) (c3.not_live List.mem_cons_self)
    have st14 : Stp L1 h1 H1 L4 h5 H4 := (st2.trans st3).trans st4
    have mM : ∀ {O' : List Addr} {L' : List Addr} {hh : Hs}, D :: (O' ++ liveA hh L') = (D :: O') ++ liveA hh L' := rfl
    cases b with
    | false =>
      simp only [Bool.false_eq_true, if_false] at e4 ⊢
      cases e4
      dsimp only at e3b
      cases e3b
      exact ⟨L4, _, accD, acc, _, st14, c4, H4D, Nat.le_succ_of_le hl2, e5, RepL.mv ((st3.trans st4).mv (O := D :: O)) _ _ r2, ey⟩
    | true =>
      simp only [if_true] at e4 ⊢
      obtain ⟨⟨dr, h6⟩, ee, e6⟩ := ms e4
      cases e6
      dsimp only at e3b
      cases e3b
      refine ⟨D :: O, L4, h5, ρ', dr, _, c4, sl2.stp c3 st4, ee, fun y H5 L5 st5 c5 ry => ?_⟩
      have H5D : H5 D = some (.lst acc) := st5.keep D _ H4D (c4.not_live List.mem_cons_self)
      refine ⟨acc, H5D, by omega, L5, _, accD ++ [dr], acc ++ [y], ys3, stp_updD (st14.trans st5) hD, c5.mut List.mem_cons_self, upd_same, by simp; omega, e5, ?_, by rw [ey]; simp⟩
      refine RepL.append (RepL.mv (mv_mut List.mem_cons_self) _ _ (RepL.mv (((st3.trans st4).trans st5).mv (O := D :: O)) _ _ r2)) (RepL.one (Rep.mv (mv_mut List.mem_cons_self) _ _ ry))
  · rintro H2 ⟨L2, h2, accD, acc, ys2, st2, c2, hD2, hl2, e3, r2, ey⟩
    rw [List.drop_of_length_le (Nat.le_refl _)] at e3
    simp only [compL] at e3
    cases e3
    rw [List.append_nil] at ey
    subst ey
    refine q (.ref D) H2 L2 [D] (st1.trans st2) c2 (fun a m => ?_) (VR.new rfl ⟨D, acc, rfl, rfl, hD2, by omega, r2⟩)
    rw [List.mem_singleton.mp m]
    exact st1.none hD
theorem c_comp {own : List Nat} {tg : Tg} {it : It} {c e : X} {t i elt : Expr} {ifs : List Expr} {scope : Scope} {ownN : List (Str × Nat)} (hc : X'.calm = true) (hN : X'.N.Nodup) (ok : BlkOk X'.N X'.env.scope scope ownN) (ho : ownN.map (·.2) = own)
    (hix : ∀ k ∈ tg.ixs, k ∈ own) (hi : PI X' t i (tI X'.K Γ it)) (nb : e.isBor = false)
    (hg : ∀ (s : Shared) (H : Hp) (C : Addr) (cl : List (Str × Addr)) (fp : List Addr), PG (X'.blk s H scope (compEnvC scope cl C X'.env) fp) t (gT X'.K tg))
    (ht : ∀ (s : Shared) (H : Hp) (C : Addr) (cl : List (Str × Addr)) (fp : List Addr), PTs (X'.blk s H scope (compEnvC scope cl C X'.env) fp) ifs (tT X'.K Γ c))
    (he : ∀ (s : Shared) (H : Hp) (C : Addr) (cl : List (Str × Addr)) (fp : List Addr), PE (X'.blk s H scope (compEnvC scope cl C X'.env) fp) elt (tX X'.K Γ e)) (hs : ∀ x, foldedSetIterable i X'.env x = pure x) :
    PE X' (.ListComp elt [⟨t, i, ifs, 0⟩] scope pos) (tX X'.K Γ (.comp own tg it c e)) := by
  have core := pe_lc (pos := pos) hc hN hi ok hg ht (fun s H C cl fp => toS nb (he s H C cl fp)) hs
  rw [ho] at core
  have core := pe_lc (pos := pos) hc hN hi ok hg ht (fun s H C cl fp => toS nb (he s H C cl fp)) hs
  rw [ho] at core
  exact pe_weak core (tLc_of hix)
end
end Ev

namespace Ev
open PySem L2
section
variable {prog : Program} {w : World} {A : Around} {E : Value → Shared → Prop} {s : Shared}
theorem sliceApplied_rev {sl : Addr} {vl vu vs : Value} {n : Nat} {Q : Int × Int × Nat → Shared → Prop} (hs : s.heap.IsSliceOf sl vl vu vs) (pl : IsPart vl none) (pu : IsPart vu none) (ps : IsPart vs (some (-1)))
    (h : Q ((n : Int) - 1, -1, n) s) : wpAny (model prog w) A (Builtin.Slice.sliceApplied (.ref sl) (pure (n : Int))) Q E s := by
  obtain ⟨os, hos, hcs, hds⟩ := id hs
  unfold Builtin.Slice.sliceApplied Builtin.Slice.sliceFields
  refine wpAny_bind (wpAny_bind (wpAny_field hos hds (x := vl) rfl (wpAny_bind (wpAny_field hos hds (x := vu) rfl (wpAny_bind (wpAny_field hos hds (x := vs) rfl (wpAny_pure ?_)))))))
  refine wpAny_bind (HT.slicePart_ ps ?_)
  show wpAny _ _ (if ((-1 : Int) == 0) = true then _ else _) _ _ s
  rw [if_neg (by decide)]
  refine wpAny_bind (HT.slicePart_ pl (wpAny_bind (HT.slicePart_ pu (wpAny_bind (wpAny_pure ?_)))))
  show wpAny _ _ (pure ((n : Int) - 1, (-1 : Int), Builtin.Slice.slicePlaces ((n : Int) - 1) (-1) (-1))) _ _ s
  have e : Builtin.Slice.slicePlaces ((n : Int) - 1) (-1) (-1) = n := by
    unfold Builtin.Slice.slicePlaces
    have h1 : ¬ ((-1 : Int) > 0) := by omega
    simp only [h1, if_false]
    split
    · have : ((n : Int) - 1 - -1 - 1) / (- -1) + 1 = n := by
        have e2 : (- -1 : Int) = 1 := rfl
        rw [e2, Int.ediv_one]; omega
      rw [this]; rfl
    · omega
  rw [e]
  exact wpAny_pure h
theorem fm_congr {α β : Type} {f g : α → Option β} : ∀ {l : List α}, (∀ x ∈ l, f x = g x) → l.filterMap f = l.filterMap g
  | [], _ => rfl
  | x :: r, h => by
    rw [List.filterMap_cons, List.filterMap_cons, h x (List.mem_cons_self ..), fm_congr fun y m => h y (List.mem_cons_of_mem _ m)]
theorem pick_rev (xs : Array Value) : ((List.range xs.size).filterMap fun (m : Nat) => xs[(((xs.size : Nat) : Int) - 1 + (m : Int) * -1).toNat]?).toArray = xs.toList.reverse.toArray := by
  congr 1
  apply List.ext_getElem?
  intro i
  have hf : (List.range xs.size).filterMap (fun (m : Nat) => xs[(((xs.size : Nat) : Int) - 1 + (m : Int) * -1).toNat]?) = (List.range xs.size).filterMap (fun m => some (xs.toList.getD (xs.size - 1 - m) .none)) := by
    apply fm_congr
    intro m hm
    have hm := List.mem_range.mp hm
    have e : (((xs.size : Nat) : Int) - 1 + (m : Int) * -1).toNat = xs.size - 1 - m := by omega
    have hl : xs.size - 1 - m < xs.size := by omega
    rw [e, Array.getElem?_eq_getElem hl]
    simp [List.getD, hl]
  rw [hf, List.filterMap_eq_map', List.getElem?_map]
  by_cases hi : i < xs.size
  · have hl : xs.size - 1 - i < xs.size := by omega
    rw [List.getElem?_range hi, List.getElem?_reverse (by rw [Array.length_toList]; exact hi), Array.length_toList]
    simp [List.getD, hl]
  · rw [List.getElem?_eq_none (by rw [List.length_range]; omega), List.getElem?_eq_none (by rw [List.length_reverse, Array.length_toList]; omega)]
    rfl
theorem getItem_tuple_rev {t sl : Addr} {items : Array Value} {vl vu vs : Value} {Q : Value → Shared → Prop} (ht : PyProof.Rows.IsTup s.heap t items) (hs : s.heap.IsSliceOf sl vl vu vs) (pl : IsPart vl none) (pu : IsPart vu none) (ps : IsPart vs (some (-1)))
    (h : Q (.ref s.heap.objs.size) { s with heap := s.heap.push { cls := .type "tuple", data := .seq items.toList.reverse.toArray } })
    (hsz : items.size ≤ sizeLine) : wpAny (model prog w) A (getItem (.ref t) (.ref sl)) Q E s := by
  have htake : sizeOk (.seq items.toList.reverse.toArray) := by
    show (items.toList.reverse.toArray).size ≤ sizeLine
    rw [List.size_toArray, List.length_reverse, Array.length_toList]
    omega
  obtain ⟨os, hos, hcs, hds⟩ := id hs
  have hTs : s.TypeIs (.ref sl) "slice" := ⟨os, hos, hcs⟩
  unfold getItem
  try with_reducible refine wpAny_holding ?_
  first | refine wpAny_bind (wpAny_pure ?_) | skip
  refine wpAny_bind (wpAny_sequenceKey ht.typeIs (by decide) ?_)
  refine wpAny_bind (wpAny_callSpecial?_slot (name := Str.ofString "__getitem__") ht.typeIs PyProof.Rows.slot_tuple_getitem
    (wpAny_call_entry PyProof.Rows.slot_tuple_getitem ht.typeIs PyProof.Rows.entry_tuple_getitem ?_ (PyProof.Rows.args_tuple_getitem _ _)))
  show wpAny _ _ (Builtin.Tuple.tupleItemsOf (.ref t) >>= _) _ _ s
  refine wpAny_bind (PyProof.Rows.tupleItemsOf_ ht ?_)
  refine wpAny_bind (wpAny_typeOf hTs ?_)
  rw [if_pos (by decide)]
  refine wpAny_bind (sliceApplied_rev hs pl pu ps ?_)
  have hno : ¬ (((((items.size : Nat) : Int) - 1) == 0 && (-1 : Int) == 1 && items.size == items.size) = true) := by
    intro q
    rw [Bool.and_eq_true, Bool.and_eq_true] at q
    exact absurd q.1.2 (by decide)
  show wpAny _ _ (if ((((items.size : Nat) : Int) - 1) == 0 && (-1 : Int) == 1 && items.size == items.size) = true then _ else _) _ _ s
  rw [if_neg hno, pick_rev]
  first
    | exact wpAny_bind (m := Builtin.Tuple.tupleExact _) (wpAny_newObj_type (wpAny_pure ⟨_, rfl, wpAny_pure h⟩) htake)
    | exact wpAny_bind (m := Builtin.Tuple.tupleExact _) (wpAny_newObj_type (wpAny_bind (wpAny_pure (wpAny_pure ⟨_, rfl, wpAny_pure h⟩))) htake)
    | exact wpAny_bind (wpAny_bind (m := Builtin.Tuple.tupleExact _) (wpAny_newObj_type (wpAny_pure (wpAny_pure ⟨_, rfl, wpAny_pure h⟩)) htake))
    | exact wpAny_bind (wpAny_bind (m := Builtin.Tuple.tupleExact _) (wpAny_newObj_type (wpAny_pure ⟨_, rfl, wpAny_pure h⟩) htake))
end
section
variable {X : Cx}
/-- xs[::-1] of a list or a tuple -/
def tRevS (K : PySem.W.Frag) (te : TE) : TE := fun σ H Q => te σ H fun x H1 => ∃ a xs, x = .ref a ∧
  ((SqL K H1 a xs ∧ ∀ p, H1 p = none → Q (.ref p) (upd H1 p (.lst xs.reverse))) ∨ (SqT K H1 a xs ∧ ∀ p, H1 p = none → Q (.ref p) (upd H1 p (.tup xs.reverse))))
theorem pe_revS {e : Expr} {te : TE} {k : Nat} {p1 p2 p3 pos : Pos} (he : PE X e te) : PE X (.Subscript e (.Slice none none (some (.UnaryOp .USub (.Constant (.int 1) k p1) p2)) p3) pos) (tRevS X.K te) := by
  refine ⟨fun pins s σ H Q I h => ?_⟩
  refine PyProof.Rows.Subscript_ (thn (he.run pins s σ H _ I h) fun v s1 ⟨x, H1, I1, r1, q1⟩ => ?_)
  obtain ⟨a, xs, ex, hq⟩ := q1
  subst ex
  cases r1
  have hst : PO X (some (.UnaryOp .USub (.Constant (.int 1) k p1) p2)) (tPart (tUn (rU fun i => .int (-i)) (tC (.int 1)))) := po_some (pe_un un_neg pe_int)
  refine wpAny_Slice (thn (po_none.run pins s1 σ H1 (fun o H2 => o = none ∧ H2 = H1) I1 ⟨rfl, rfl⟩) fun vl s2 ⟨l, H2, I2, pl, el, e2⟩ => ?_)
  subst el e2
  refine thn (po_none.run pins s2 σ H2 (fun o H3 => o = none ∧ H3 = H2) I2 ⟨rfl, rfl⟩) fun vu s3 ⟨u, H3, I3, pu, eu, e3⟩ => ?_
  subst eu e3
  refine thn (hst.run pins s3 σ H3 (fun o H4 => o = some (-1) ∧ H4 = H3) I3 ⟨1, rfl, -1, rfl, rfl, rfl⟩) fun vs s4 ⟨o, H4, I4, ps, eo, e4⟩ => ?_
  subst eo e4
  have I5 : Inv X pins σ H4 { s4 with heap := s4.heap.push { cls := .type "slice", data := .fields #[vl, vu, vs] } } := I4.kept (t' := s4.toks) fun b ob q => Heap.get?_push_of_some _ q
  show wpAny (model X.prog X.w) X.A (PyProof.Rows.subscriptTail e (.Slice none none (some (.UnaryOp .USub (.Constant (.int 1) k p1) p2)) p3) (.ref a) (.ref s4.heap.objs.size)) (EP X pins σ Q) X.xe { s4 with heap := s4.heap.push { cls := .type "slice", data := .fields #[vl, vu, vs] } }
  rcases hq with ⟨hx, q⟩ | ⟨hx, q⟩
  · obtain ⟨its, r, ht, hz⟩ := I5.list hx
    have hlen := r.length
    refine PyProof.Rows.tail_any (ops := [.ref a, .ref s4.heap.objs.size]) ht.isList.typeIs (PySem.slot_list_getitem.lookup) ?_ (by with_unfolding_all rfl)
    refine wpAny_getItem_list_slice ht.isList (Heap.IsSliceOf.new _ vl vu vs) pl pu ps (by decide) ?_ (by rw [List.size_toArray]; omega)
    rw [PySem.W.krv_pick]
    refine ⟨.ref _, _, I5.laid (t' := s4.toks) (o := .lst xs.reverse) (fun b ob q => Heap.get?_push_of_some _ q) (Nat.le_refl _) ?_, rfl, q _ (I5.hok.fresh (Nat.le_refl _))⟩
    exact ⟨by rw [List.length_reverse]; exact hz, _, 0, r.reverse, Heap.get?_push_size _ rfl⟩
  · obtain ⟨its, r, ht, hz⟩ := I5.tuple hx
    have hlen := r.length
    refine PyProof.Rows.tail_any (ops := [.ref a, .ref s4.heap.objs.size]) ht.typeIs (PyProof.Rows.slot_tuple_getitem.lookup) ?_ (by with_unfolding_all rfl)
    refine getItem_tuple_rev ht (Heap.IsSliceOf.new _ vl vu vs) pl pu ps ?_ (by rw [List.size_toArray]; omega)
    refine ⟨.ref _, _, I5.laid (t' := s4.toks) (o := .tup xs.reverse) (fun b ob q => Heap.get?_push_of_some _ q) (Nat.le_refl _) ?_, rfl, q _ (I5.hok.fresh (Nat.le_refl _))⟩
    exact ⟨by rw [List.length_reverse]; exact hz, _, r.reverse, PyProof.Rows.IsTup.new _ _⟩
end
section
variable {fns : List (String × Fn)} {cs : List (Str × GD)} {n : Nat} {X' : Cx} {Γ : FT} {pos : Pos}
theorem c_rev {a : X} {e : Expr} {k : Nat} {p1 p2 p3 : Pos} (p : PE X' e (tX X'.K Γ a)) : PE X' (.Subscript e (.Slice none none (some (.UnaryOp .USub (.Constant (.int 1) k p1) p2)) p3) pos) (tX X'.K Γ (.rev a)) := by
  refine pe_weak (pe_revS (toB p)) fun σ H Q ⟨O, L, h, ρ, d, h', c, sl, ev, q⟩ => ?_
  simp only [evE] at ev
  obtain ⟨⟨x, h1⟩, e1, ev⟩ := bs ev
  obtain ⟨z, hz, e3⟩ := ms ev
  cases e3
  cases x with
  | lst xs =>
    cases hz
    refine ⟨O, L, h, ρ, _, _, c, sl, e1, fun v H1 L1 st1 c1 r1 => ?_⟩
    obtain ⟨b, vs, rfl, t, z, r⟩ := rb_lst r1
    exact ⟨b, vs, rfl, .inl ⟨SqL.of t, fun p' hp => resF_lst c1 hp r.reverse (by rw [List.length_reverse]; exact z) fun v H' T st c' hT r' => q v H' L1 T (st1.trans st) c' (fun a m => st1.none (hT a m)) (VR.new rfl r')⟩⟩
  | tup xs =>
    cases hz
    refine ⟨O, L, h, ρ, _, _, c, sl, e1, fun v H1 L1 st1 c1 r1 => ?_⟩
    obtain ⟨b, vs, rfl, t, z, r⟩ := rb_tup r1
    exact ⟨b, vs, rfl, .inr ⟨t, fun p' hp => resF_tup c1 hp r.reverse (by rw [List.length_reverse]; exact z) fun v H' T st c' hT r' => q v H' L1 T (st1.trans st) c' (fun a m => st1.none (hT a m)) (VR.new rfl r')⟩⟩
  | _ => cases hz
theorem rgV_eq (i : Int) : rgV 0 i = (List.range i.toNat).map fun j : Nat => V.int (0 + (j : Nat)) := by
  unfold rgV
  rw [Int.sub_zero]
theorem repL_rng {K : PySem.W.Frag} {M L : List Addr} {H : Hp} (lo : Int) (n : Nat) : RepL K M L H (rngL lo n) ((List.range n).map fun j : Nat => V.int (lo + (j : Nat))) := by
  unfold rngL
  generalize List.range n = xs
  induction xs with
  | nil => exact RepL.nil
  | cons x r ih => exact RepL.cons (rep_int _) ih
theorem rg_ok {i : Int} (h : smallI i = true ∧ i.toNat ≤ lim) : RgOk 0 i := by
  obtain ⟨h1, h2⟩ := h
  unfold smallI at h1
  simp only [Bool.and_eq_true, decide_eq_true_eq] at h1
  have : lim = 4000000 := rfl
  exact ⟨by omega, by omega, h1.1, h1.2, by rw [Int.sub_zero]; omega⟩
theorem c_lrng {a : X} {e : Expr} {id id2 : Str} {p0 p1 p2 : Pos} (g : Gd fns cs n X') (hid : id = "list") (hg : glB X'.env.scope id = true) (hid2 : id2 = "range") (hg2 : glB X'.env.scope id2 = true) (p : PE X' e (tX X'.K Γ a))
    (na : starEach [e] X'.env = (false, eval e X'.env) :: starEach [] X'.env) : PE X' (.Call (.Name id p0) [.Call (.Name id2 p1) [e] [] p2] [] pos) (tX X'.K Γ (.lrng a)) := by
  subst hid hid2
  refine pe_weak (pe_listRg g.calm (gl_of hg).1 (g.blt _ (by decide +kernel)) (prg_1 (gl_of hg2).1 (g.blt _ (by decide +kernel)) (toB p) na)) fun σ H Q ⟨O, L, h, ρ, d, h', c, sl, ev, q⟩ => ?_
  simp only [evE] at ev
  obtain ⟨⟨x, h1⟩, e1, ev⟩ := bs ev
  obtain ⟨i, hi, ev⟩ := bs ev
  have hx : x = .int i := by cases x <;> simp [asInt] at hi; rw [hi]
  subst hx
  dsimp only at ev
  split at ev
  · rename_i gg
    cases ev
    refine ⟨O, L, h, ρ, _, _, c, sl, e1, fun v H1 L1 st1 c1 r1 => ⟨i, rb_int r1, rg_ok gg, fun p' hp => ?_⟩⟩
    rw [rgV_eq]
    have z : ((List.range i.toNat).map fun j : Nat => V.int (0 + (j : Nat))).length ≤ sizeLine := by rw [List.length_map, List.length_range]; exact Nat.le_trans gg.2 lim_le
    exact resF_lst c1 hp (repL_rng 0 _) z fun v H' T st c' hT r' => q v H' L1 T (st1.trans st) c' (fun a m => st1.none (hT a m)) (VR.new rfl r')
  · cases ev
theorem c_trng {a : X} {e : Expr} {id id2 : Str} {p0 p1 p2 : Pos} (g : Gd fns cs n X') (hid : id = "tuple") (hg : glB X'.env.scope id = true) (hid2 : id2 = "range") (hg2 : glB X'.env.scope id2 = true) (p : PE X' e (tX X'.K Γ a))
    (na : starEach [e] X'.env = (false, eval e X'.env) :: starEach [] X'.env) : PE X' (.Call (.Name id p0) [.Call (.Name id2 p1) [e] [] p2] [] pos) (tX X'.K Γ (.trng a)) := by
  subst hid hid2
  refine pe_weak (pe_tupRg g.calm (gl_of hg).1 (g.blt _ (by decide +kernel)) (prg_1 (gl_of hg2).1 (g.blt _ (by decide +kernel)) (toB p) na)) fun σ H Q ⟨O, L, h, ρ, d, h', c, sl, ev, q⟩ => ?_
  simp only [evE] at ev
  obtain ⟨⟨x, h1⟩, e1, ev⟩ := bs ev
  obtain ⟨i, hi, ev⟩ := bs ev
  have hx : x = .int i := by cases x <;> simp [asInt] at hi; rw [hi]
  subst hx
  dsimp only at ev
  split at ev
  · rename_i gg
    cases ev
    refine ⟨O, L, h, ρ, _, _, c, sl, e1, fun v H1 L1 st1 c1 r1 => ⟨i, rb_int r1, rg_ok gg, fun p' hp => ?_⟩⟩
    rw [rgV_eq]
    have z : ((List.range i.toNat).map fun j : Nat => V.int (0 + (j : Nat))).length ≤ sizeLine := by rw [List.length_map, List.length_range]; exact Nat.le_trans gg.2 lim_le
    exact resF_tup c1 hp (repL_rng 0 _) z fun v H' T st c' hT r' => q v H' L1 T (st1.trans st) c' (fun a m => st1.none (hT a m)) (VR.new rfl r')
  · cases ev
end
end Ev

namespace Ev
open PySem L2
section
variable {K : PySem.W.Frag} {M L : List Addr} {H : Hp}
theorem dkey_keyD (k : Key) : dkey (keyD k) = some k := by cases k <;> rfl
theorem dkey_rep {d : D} {v : V} {q : Key} (e : dkey d = some q) (r : Rep K M L H d v) : v = kV q ∧ d = keyD q := by
  cases d with
  | int i => cases e; simp only [Rep] at r; exact ⟨r, rfl⟩
  | str x => cases e; simp only [Rep] at r; exact ⟨r.1, rfl⟩
  | _ => cases e
theorem dlk_ok {q : Key} : ∀ {kvs : List (Key × V)} {ds : List D}, RepL K M L H ds (kvs.map (·.2)) →
    (∀ d, dlk (kvs.map fun kv => keyD kv.1) ds q = some d → ∃ v, valV kvs q = some v ∧ Rep K M L H d v) ∧ (dlk (kvs.map fun kv => keyD kv.1) ds q = none → valV kvs q = none)
  | [], ds, r => by
    have : ds = [] := by
      cases ds with
      | nil => rfl
      | cons d ds => obtain ⟨_, _, e, _⟩ := r.cons_inv; cases e
    subst this
    exact ⟨fun d e => by simp [dlk] at e, fun _ => rfl⟩
  | kv :: kvs, ds, r => by
    cases ds with
    | nil => have := r.nil_inv; simp at this
    | cons d ds =>
      obtain ⟨v, rr, e, h1, h2⟩ := r.cons_inv
      simp only [List.map_cons, List.cons.injEq] at e
      obtain ⟨rfl, rfl⟩ := e
      simp only [List.map_cons, dlk, dkey_keyD]
      by_cases w : kv.1 = q
      · rw [if_pos (by rw [w])]
        exact ⟨fun d' e => by cases e; exact ⟨kv.2, valV_pos w, h1⟩, fun e => by cases e⟩
      · rw [if_neg (fun z => w (Option.some.inj z)), valV_neg w]
        exact dlk_ok h2
theorem dlk_some {q : Key} {kvs : List (Key × V)} {ds : List D} (r : RepL K M L H ds (kvs.map (·.2))) : (dlk (kvs.map fun kv => keyD kv.1) ds q).isSome = (valV kvs q).isSome := by
  have := dlk_ok (q := q) r
  cases e : dlk (kvs.map fun kv => keyD kv.1) ds q with
  | none => rw [this.2 e]; rfl
  | some d =>
    obtain ⟨v, e2, _⟩ := this.1 d e
    rw [e2]; rfl
theorem dst_ok {q : Key} {z : D} {v : V} (rz : Rep K M L H z v) : ∀ {kvs : List (Key × V)} {ds : List D}, RepL K M L H ds (kvs.map (·.2)) →
    RepL K M L H (dst (kvs.map fun kv => keyD kv.1) ds q z) ((kvs.map fun kv => if kv.1 = q then (kv.1, v) else kv).map (·.2))
  | [], ds, r => by
    cases ds <;> simp only [List.map_nil, dst] <;> exact .nil
  | kv :: kvs, ds, r => by
    cases ds with
    | nil => have := r.nil_inv; simp at this
    | cons d ds =>
      obtain ⟨w, rr, e, h1, h2⟩ := r.cons_inv
      simp only [List.map_cons, List.cons.injEq] at e
      obtain ⟨rfl, rfl⟩ := e
      simp only [List.map_cons, dst, dkey_keyD]
      refine RepL.cons ?_ (dst_ok rz h2)
      by_cases w : kv.1 = q
      · rw [if_pos (by rw [w]), if_pos w]; exact rz
      · rw [if_neg (fun z => w (Option.some.inj z)), if_neg w]; exact h1
theorem dhas_ok {q : Key} (kvs : List (Key × V)) : dhas (kvs.map fun kv => keyD kv.1) q = kvs.any fun kv => decide (kv.1 = q) := by
  unfold dhas
  induction kvs with
  | nil => rfl
  | cons kv r ih =>
    simp only [List.map_cons, List.any_cons, ih, dkey_keyD]
    congr 1
    by_cases w : kv.1 = q
    · rw [decide_eq_true w, decide_eq_true (by rw [w])]
    · rw [decide_eq_false w, decide_eq_false (fun z => w (Option.some.inj z))]
/-- a cell's dict, put into -/
def dputC (ks vs : List D) (k v : D) (q : Key) : Cell := if dhas ks q = true then .dct false ks (dst ks vs q v) else .dct false (ks ++ [k]) (vs ++ [v])
theorem put_ok {q : Key} {z : D} {v : V} {ds : List D} {kvs : List (Key × V)} {a : Addr} {M' L' : List Addr} {H' : Hp} (rz : Rep K M L H z v) (r : RepL K M L H ds (kvs.map (·.2))) (hl : kvs.length < lim) (m : Mv M M' L L' H H') (e : H' a = some (.dK (putK kvs q v))) :
    CellOk K M' L' H' a (dputC (kvs.map fun kv => keyD kv.1) ds (keyD q) z q) := by
  unfold dputC
  rw [dhas_ok]
  unfold putK at e
  split
  · rename_i w
    rw [if_pos w] at e
    refine ⟨rfl, _, e, by rw [List.length_map]; omega, ?_, RepL.mv m _ _ (dst_ok rz r)⟩
    rw [List.map_map]
    refine List.map_congr_left fun kv _ => ?_
    show keyD kv.1 = keyD (if kv.1 = q then (kv.1, v) else kv).1
    split <;> rfl
  · rename_i w
    rw [if_neg w] at e
    refine ⟨rfl, _, e, by rw [List.length_append]; simp; omega, by rw [List.map_append]; rfl, ?_⟩
    rw [List.map_append]
    exact RepL.mv m _ _ (r.append (.one rz))
theorem dcell_ok {O : List Addr} {h : Hs} {x : D} {v : V} {ks ds : List D} (c : CR K O L h H) (e : dcell h x = some (ks, ds)) (r : Rep K (O ++ liveA h L) L H x v) :
    ∃ n a kvs, x = .ref n ∧ v = .ref a ∧ L[n]? = some a ∧ h[n]? = some (.dct false ks ds) ∧ H a = some (.dK kvs) ∧ kvs.length ≤ lim ∧ ks = kvs.map (fun kv => keyD kv.1) ∧ RepL K (O ++ liveA h L) L H ds (kvs.map (·.2)) := by
  cases x with
  | ref n =>
    simp only [dcell] at e
    split at e
    · rename_i ks' vs' q
      cases e
      simp only [Rep] at r
      obtain ⟨a, rfl, ha⟩ := r
      obtain ⟨a', ha', ok⟩ := c.ce n _ q
      rw [ha] at ha'; cases ha'
      obtain ⟨_, kvs, e, z, w, rr⟩ := ok
      exact ⟨n, a, kvs, rfl, rfl, ha, q, e, z, w, rr⟩
    · cases e
  | _ => simp [dcell] at e
theorem cr_allocC {O : List Addr} {h : Hs} {p : Addr} {c0 : Cell} (nd : c0 ≠ .dead) (c : CR K ([p] ++ O) L h H) (ok : CellOk K (p :: (O ++ liveA h L)) L H p c0) :
    CR K O (L ++ [p]) (h ++ [c0]) H := by
  have el : liveA (h ++ [c0]) (L ++ [p]) = liveA h L ++ [p] := liveA_snoc nd c.ll
  have m : Mv (p :: (O ++ liveA h L)) (O ++ liveA (h ++ [c0]) (L ++ [p])) L (L ++ [p]) H H := by
    refine ⟨fun a o e n => ⟨e, fun q => n ?_⟩, fun n a e => ?_⟩
    · rw [el] at q
      simp only [List.mem_append, List.mem_cons, List.not_mem_nil, or_false] at q ⊢
      rcases q with q | q | q
      · exact .inr (.inl q)
      · exact .inr (.inr q)
      · exact .inl q
    · have hn : n < L.length := by
        rcases Nat.lt_or_ge n L.length with q | q
        · exact q
        · rw [List.getElem?_eq_none q] at e; cases e
      rw [List.getElem?_append_left hn]; exact e
  refine ⟨by simp [c.ll], ?_, fun a ma => c.ot a (List.mem_append_right _ ma), fun n x e => ?_⟩
  · rw [el, ← List.append_assoc]
    have := c.nd
    have pm : (([p] ++ O) ++ liveA h L).Perm ((O ++ liveA h L) ++ [p]) := by
      rw [List.append_assoc]; exact List.perm_append_comm
    exact pm.nodup_iff.mp this
  · rcases Nat.lt_or_ge n h.length with q | q
    · rw [List.getElem?_append_left q] at e
      obtain ⟨a, e2, ok⟩ := c.ce n x e
      exact ⟨a, m.ls n a e2, CellOk.mv m (fun _ y => y) ok⟩
    · have hn : n = h.length := by
        rcases Nat.lt_or_ge h.length n with q' | q'
        · rw [List.getElem?_eq_none (by simp; omega)] at e; cases e
        · omega
      subst hn
      rw [List.getElem?_append_right (Nat.le_refl _)] at e
      simp at e
      subst e
      exact ⟨p, by rw [← c.ll, List.getElem?_append_right (Nat.le_refl _)]; simp, CellOk.mv m (fun _ y => y) ok⟩
theorem stp_alloc {L L' : List Addr} {h h' : Hs} {H H' : Hp} {p : Addr} {c0 : Cell} (nd : c0 ≠ .dead) (ll : L'.length = h'.length) (st : Stp L h H L' h' H') (hp : H p = none) : Stp L h H (L' ++ [p]) (h' ++ [c0]) H' :=
  ⟨fun n a e => by
    have := st.pre n a e
    have hn : n < L'.length := by
      rcases Nat.lt_or_ge n L'.length with q | q
      · exact q
      · rw [List.getElem?_eq_none q] at this; cases this
    rw [List.getElem?_append_left hn]; exact this, st.keep, fun a ma => by
    rw [liveA_snoc nd ll] at ma
    rcases List.mem_append.mp ma with ma | ma
    · exact st.live a ma
    · rw [List.mem_singleton.mp ma]; exact .inr hp, st.there⟩
theorem rep_newref {M : List Addr} {h : Hs} {p : Addr} (ll : L.length = h.length) : Rep K M (L ++ [p]) H (.ref h.length) (.ref p) := by
  simp only [Rep]
  exact ⟨p, rfl, by rw [← ll, List.getElem?_append_right (Nat.le_refl _)]; simp⟩
end
section
variable {n : Nat} {X' : Cx} {Γ : FT} {pos : Pos}
theorem noSl_of {i : Expr} (h : ∀ l u s p, i ≠ .Slice l u s p) : NoSl i := fun ov iv => by
  cases i with
  | Slice l u s p => exact absurd rfl (h l u s p)
  | _ => rfl
theorem c_dnew : PE X' (.Dict [] [] pos) (tX X'.K Γ .dnew) := by
  refine pe_weak pe_dnewK fun σ H Q ⟨O, L, h, ρ, d, h', c, sl, ev, q⟩ p hp => ?_
  simp only [evE] at ev
  cases ev
  have c1 := c.fresh (o := .dK []) hp
  have c2 := cr_allocC (c0 := .dct false [] []) (by simp) (show CR X'.K ([p] ++ O) L h (upd H p (.dK [])) from c1) ⟨rfl, [], upd_same, Nat.zero_le _, rfl, .nil⟩
  exact q _ _ (L ++ [p]) [] (stp_alloc (by simp) c.ll (stp_fresh hp) hp) c2 nT (VR.plain rfl rfl (rep_newref c.ll))
theorem c_dget {a k : X} {o e : Expr} (hr : Room n X'.A) (hs : ∀ l u s p, e ≠ .Slice l u s p) (na : a.isBor = false) (nk : k.isBor = false) (po : PE X' o (tX X'.K Γ a)) (pk : PE X' e (tX X'.K Γ k)) : PE X' (.Subscript o e pos) (tX X'.K Γ (.dget a k)) := by
  have hu : X'.A.units + 1 < cLine := by have := room65 hr; omega
  refine pe_weak (pe_dget hu (toS na po) (toS nk pk) (noSl_of hs)) fun σ H Q ⟨O, L, h, ρ, d, h', c, sl, ev, q⟩ => ?_
  simp only [evE] at ev
  obtain ⟨⟨x, h1⟩, e1, ev⟩ := bs ev
  obtain ⟨⟨y, h2⟩, e2, ev⟩ := bs ev
  obtain ⟨⟨ks, ds⟩, e3, ev⟩ := bs ev
  obtain ⟨kq, e4, ev⟩ := bs ev
  obtain ⟨z, e5, e6⟩ := ms ev
  cases e6
  refine ⟨O, L, h, ρ, x, h1, c, sl, e1, fun v1 H1 L1 st1 c1 r1 => ⟨O, L1, h1, ρ, y, _, c1, sl.stp c st1, e2, fun v2 H2 L2 st2 c2 r2 => ?_⟩⟩
  obtain ⟨m, ad, kvs, rfl, rfl, hL, hh, hH, hz, rfl, rr⟩ := dcell_ok c2 e3 (Rep.mv st2.mv _ _ r1)
  obtain ⟨rfl, _⟩ := dkey_rep e4 r2
  obtain ⟨w, e7, rw7⟩ := (dlk_ok rr).1 _ e5
  exact ⟨ad, w, rfl, by rw [← e7]; exact DGet.k hH, q _ H2 L2 [] (st1.trans st2) c2 nT (VR.plain rfl rfl rw7)⟩
theorem pc_weak {op : CmpOp} {a b : Expr} {t t' : TE} (p : PC X' op a b t) (w : ∀ σ H Q, t' σ H Q → t σ H Q) : PC X' op a b t' := ⟨fun pins s σ H Q I h => p.run pins s σ H Q I (w σ H Q h)⟩
theorem pc_dinX {neg : Bool} {a k : X} {o e : Expr} {op : CmpOp} (ho : op = if neg = true then .NotIn else .In) (hr : Room n X'.A) (na : a.isBor = false) (nk : k.isBor = false) (po : PE X' o (tX X'.K Γ a)) (pk : PE X' e (tX X'.K Γ k)) :
    PC X' op e o (tX X'.K Γ (.din neg k a)) := by
  have hu : X'.A.units + 1 < cLine := by have := room65 hr; omega
  have key : ∀ σ H Q, tX X'.K Γ (.din neg k a) σ H Q → tS X'.K Γ k σ H fun y H1 => tS X'.K Γ a σ H1 fun x H2 => ∃ b r, x = .ref b ∧ DGet H2 b y r ∧ Q (.bl (neg != r.isSome)) H2 := by
    rintro σ H Q ⟨O, L, h, ρ, d, h', c, sl, ev, q⟩
    simp only [evE] at ev
    obtain ⟨⟨y, h1⟩, e1, ev⟩ := bs ev
    obtain ⟨⟨x, h2⟩, e2, ev⟩ := bs ev
    obtain ⟨⟨ks, ds⟩, e3, ev⟩ := bs ev
    obtain ⟨kq, e4, ev⟩ := bs ev
    cases ev
    refine ⟨O, L, h, ρ, y, h1, c, sl, e1, fun v1 H1 L1 st1 c1 r1 => ⟨O, L1, h1, ρ, x, _, c1, sl.stp c st1, e2, fun v2 H2 L2 st2 c2 r2 => ?_⟩⟩
    obtain ⟨m, ad, kvs, rfl, rfl, hL, hh, hH, hz, rfl, rr⟩ := dcell_ok c2 e3 r2
    obtain ⟨rfl, _⟩ := dkey_rep e4 r1
    refine ⟨ad, _, rfl, DGet.k hH, ?_⟩
    rw [← dlk_some rr]
    exact q _ H2 L2 [] (st1.trans st2) c2 nT (VR.plain rfl rfl (rep_bl _))
  cases neg with
  | true =>
    rw [if_pos rfl] at ho
    subst ho
    refine pc_weak (pc_dnotin hu (toS nk pk) (toS na po)) fun σ H Q w => ?_
    obtain ⟨O, L, h, ρ, d, h', c, sl, ev, w⟩ := key σ H Q w
    refine ⟨O, L, h, ρ, d, h', c, sl, ev, fun v H' L' st c' r => ?_⟩
    obtain ⟨O, L, h, ρ, d, h', c, sl, ev, w⟩ := w v H' L' st c' r
    refine ⟨O, L, h, ρ, d, h', c, sl, ev, fun v H' L' st c' r => ?_⟩
    obtain ⟨b, r, e, g, qq⟩ := w v H' L' st c' r
    refine ⟨b, r, e, g, ?_⟩
    rw [Bool.true_bne] at qq
    exact qq
  | false =>
    rw [if_neg Bool.false_ne_true] at ho
    subst ho
    refine pc_weak (pc_din hu (toS nk pk) (toS na po)) fun σ H Q w => ?_
    obtain ⟨O, L, h, ρ, d, h', c, sl, ev, w⟩ := key σ H Q w
    refine ⟨O, L, h, ρ, d, h', c, sl, ev, fun v H' L' st c' r => ?_⟩
    obtain ⟨O, L, h, ρ, d, h', c, sl, ev, w⟩ := w v H' L' st c' r
    refine ⟨O, L, h, ρ, d, h', c, sl, ev, fun v H' L' st c' r => ?_⟩
    obtain ⟨b, r, e, g, qq⟩ := w v H' L' st c' r
    refine ⟨b, r, e, g, ?_⟩
    rw [Bool.false_bne] at qq
    exact qq
theorem c_din {neg : Bool} {a k : X} {o e : Expr} {op : CmpOp} (ho : op = if neg = true then .NotIn else .In) (hr : Room n X'.A) (hm : behindInMarks op o = false) (na : a.isBor = false) (nk : k.isBor = false) (po : PE X' o (tX X'.K Γ a)) (pk : PE X' e (tX X'.K Γ k)) :
    PE X' (.Compare e [op] [o] pos) (tX X'.K Γ (.din neg k a)) := pe_cmp (pc_dinX ho hr na nk po pk) hm
theorem t_din {neg : Bool} {a k : X} {o e : Expr} {op : CmpOp} (ho : op = if neg = true then .NotIn else .In) (hr : Room n X'.A) (hm : behindInMarks op o = false) (na : a.isBor = false) (nk : k.isBor = false) (po : PE X' o (tX X'.K Γ a)) (pk : PE X' e (tX X'.K Γ k)) :
    PT X' (.Compare e [op] [o] pos) (tT X'.K Γ (.din neg k a)) :=
  pt_weak (pt_cmp (pc_dinX ho hr na nk po pk) hm) fun σ H Q ⟨O, L, h, ρ, b, h', c, sl, ev, q⟩ => ⟨O, L, h, ρ, _, h', c, sl, ev, fun v H' L' T st c' _ r => ⟨b, rb_bl (r.b c'), q H' L' st c'.dropT⟩⟩
theorem c_dget2 {C : Ck} {fn : Str → Bool} {a k d : X} {o e f : Expr} {nm : Str} {apos cpos : Pos} (hn : nm = "get") (hr : Room n X'.A) (ha : chkE C fn X'.env.scope a o = true) (hk : chkE C fn X'.env.scope k e = true) (hd : chkE C fn X'.env.scope d f = true)
    (hl : apos.endLine = cpos.line) (na : a.isBor = false) (nk : k.isBor = false) (nd : d.isBor = false) (po : PE X' o (tX X'.K Γ a)) (pk : PE X' e (tX X'.K Γ k)) (pd : PE X' f (tX X'.K Γ d)) :
    PE X' (.Call (.Attribute o nm apos) [e, f] [] cpos) (tX X'.K Γ (.dget2 a k d)) := by
  subst hn
  have hu : X'.A.units + 1 < cLine := by have := room65 hr; omega
  have hx : chkL C fn X'.env.scope false [k, d] [e, f] = true := by simp only [chkL, hk, hd]; rfl
  have e1 : starEach [e, f] X'.env = [(false, eval e X'.env), (false, eval f X'.env)] := by
    rw [notStar k C fn _ hk [f] _, notStar d C fn _ hd [] _]; rfl
  have m : M2 X' o "get" apos e f cpos := by
    refine ⟨base_of (noCall0 ha), ?_, by rw [hl]; exact beq_self_eq_true _, ?_⟩
    · rw [allNot hx X'.env cpos, Bool.true_and]
      rfl
    · rw [e1]
      rfl
  refine pe_weak (pe_dget2 hu (toS na po) (toS nk pk) (toS nd pd) m) fun σ H Q ⟨O, L, h, ρ, d, h', c, sl, ev, q⟩ => ?_
  simp only [evE] at ev
  obtain ⟨⟨x, h1⟩, e1, ev⟩ := bs ev
  obtain ⟨⟨ks1, ds1⟩, e2, ev⟩ := bs ev
  obtain ⟨⟨y, h2⟩, e3, ev⟩ := bs ev
  obtain ⟨⟨z, h3⟩, e4, ev⟩ := bs ev
  obtain ⟨⟨ks, ds⟩, e5, ev⟩ := bs ev
  obtain ⟨kq, e6, ev⟩ := bs ev
  cases ev
  refine ⟨O, L, h, ρ, x, h1, c, sl, e1, fun v1 H1 L1 st1 c1 r1 => ?_⟩
  obtain ⟨m1, ad, kvs1, rfl, rfl, hL1, hh1, hH1, _⟩ := dcell_ok c1 e2 r1
  refine ⟨ad, rfl, .inl ⟨kvs1, .inl hH1⟩, O, L1, h1, ρ, y, h2, c1, sl.stp c st1, e3, fun v2 H2 L2 st2 c2 r2 => ⟨O, L2, h2, ρ, z, _, c2, (sl.stp c st1).stp c1 st2, e4, fun v3 H3 L3 st3 c3 r3 => ?_⟩⟩
  obtain ⟨m, ad', kvs, em, ea, hL, hh, hH, hz, rfl, rr⟩ := dcell_ok c3 e5 (Rep.mv (st2.trans st3).mv _ _ r1)
  cases ea
  obtain ⟨rfl, _⟩ := dkey_rep e6 (Rep.mv st3.mv _ _ r2)
  refine ⟨_, DGet.k hH, ?_⟩
  have ok := dlk_ok (q := kq) rr
  have tot := (st1.trans st2).trans st3
  cases el : dlk (kvs.map fun kv => keyD kv.1) ds kq with
  | none =>
    rw [ok.2 el]
    rw [el] at q
    exact q _ H3 L3 [] tot c3 nT (VR.plain rfl rfl r3)
  | some z' =>
    obtain ⟨w, e7, rw7⟩ := ok.1 _ el
    rw [e7]
    rw [el] at q
    exact q _ H3 L3 [] tot c3 nT (VR.plain rfl rfl rw7)
theorem disp1 {x y : V} {kq : Key} (e : x = kV kq) : [(x, y)] = ([(kq, y)] : List (Key × V)).map (fun kv => (kV kv.1, kv.2)) := by rw [e]; rfl
theorem c_dnew1 {k v : X} {ke ve : Expr} (nk : k.isBor = false) (nv : v.isBor = false) (pk : PE X' ke (tX X'.K Γ k)) (pv : PE X' ve (tX X'.K Γ v)) : PE X' (.Dict [some ke] [ve] pos) (tX X'.K Γ (.dnew1 k v)) := by
  refine pe_weak (pe_disp (pps_cons (toS nk pk) (toS nv pv) pps_nil) rfl rfl (by simp) (by simp)) fun σ H Q ⟨O, L, h, ρ, d, h', c, sl, ev, q⟩ p hp => ?_
  simp only [evE] at ev
  obtain ⟨⟨x, h1⟩, e1, ev⟩ := bs ev
  obtain ⟨⟨y, h2⟩, e2, ev⟩ := bs ev
  obtain ⟨kq, e3, ev⟩ := bs ev
  cases ev
  have c0 : CR X'.K (p :: O) L h (upd H p (.dK [])) := c.fresh hp
  have st0 : Stp L h H L h (upd H p (.dK [])) := stp_fresh hp
  have sl0 : SLs X'.K (p :: O) L h (upd H p (.dK [])) ρ σ := sl.mvD c st0 hp
  refine ⟨p :: O, L, h, ρ, x, h1, c0, sl0, e1, fun v1 H1 L1 st1 c1 r1 => ⟨p :: O, L1, h1, ρ, y, _, c1, sl0.stp c0 st1, e2, fun v2 H2 L2 st2 c2 r2 => ?_⟩⟩
  have hp0 : (upd H p (.dK [])) p = some (.dK []) := upd_same
  have hp2 : H2 p = some (.dK []) := st2.keep p _ (st1.keep p _ hp0 (c0.not_live List.mem_cons_self)) (c1.not_live List.mem_cons_self)
  obtain ⟨rfl, rfl⟩ := dkey_rep e3 r1
  refine ⟨hp2, [(kq, v2)], rfl, by simp, ?_⟩
  have eK : mergeK [] [(kq, v2)] = [(kq, v2)] := rfl
  rw [eK]
  have tot0 : Stp L h H L2 h2 H2 := (st0.trans st1).trans st2
  have c3 : CR X'.K (p :: O) L2 h2 (upd H2 p (.dK [(kq, v2)])) := c2.mut List.mem_cons_self
  have tot : Stp L h H L2 h2 (upd H2 p (.dK [(kq, v2)])) := stp_updD tot0 hp
  have r2' : Rep X'.K (p :: (O ++ liveA h2 L2)) L2 (upd H2 p (.dK [(kq, v2)])) y v2 := Rep.mv (mv_mut (M := p :: O ++ liveA h2 L2) (List.mem_append_left _ List.mem_cons_self)) _ _ r2
  have c4 := cr_allocC (c0 := .dct false [keyD kq] [y]) (by simp) (show CR X'.K ([p] ++ O) L2 h2 (upd H2 p (.dK [(kq, v2)])) from c3) ⟨rfl, [(kq, v2)], upd_same, by show 1 ≤ lim; decide, rfl, .one r2'⟩
  exact q _ _ (L2 ++ [p]) [] (stp_alloc (by simp) c2.ll tot hp) c4 nT (VR.plain rfl rfl (rep_newref c2.ll))
end
end Ev

namespace Ev
open PySem L2 PyProof.Rows PySem.AutoSeq1
theorem ext_tup (l : Addr) (items : Array Value) (n : Nat) (b : Addr) (items2 : Array Value) (n2 : Nat) (dc : Option Addr) (sl : Array (Option Value)) (hs0 : ¬(!items.isEmpty && Builtin.List.listTooLong (items.size + items2.size)) = true) (hs1 : items.size ≤ sizeLine) (hs2 : items.size + items2.size ≤ sizeLine + 1) :
    Meets (Builtin.«list.extend» ⟨[.ref l, .ref b], []⟩) (fun _ R s => s.heap.get? l = some { cls := .type "list", dict := none, data := .seq items n, slots := #[] } ∧ s.heap.get? b = some { cls := .type "tuple", dict := dc, data := .seq items2 n2, slots := sl } ∧ R (.ok (.ret Value.none)) { s with heap := s.heap.update l (Obj.mapSeq fun x => x ++ items2), toks := s.toks }) :=
  .of_wp fun prog w A R s h => by
    obtain ⟨hp, g, d, tk, os⟩ := s; obtain ⟨hl, hb, h⟩ := h; have f1 := PySem.AutoSeq1.idx_int; have f2 := PySem.AutoSeq1.sub_tuple_tuple; have f3 := PySem.AutoSeq1.sub_list_list; have f4 := PySem.AutoSeq1.sub_tuple_list; have f5 := PySem.AutoSeq1.sub_list_tuple;
    have hz' : (items ++ items2).size ≤ sizeLine + 1 := by rw [Array.size_append]; exact hs2
    wp_walk using (wpAny_updateSeq hl rfl (hz := hs1) (_hz' := hz')), PySem.AutoSeq1.wpAny_loadPart' hl, PySem.AutoSeq1.wpAny_loadPart' hb; exact ⟨_, rfl, h⟩
def rExtendT (K : PySem.W.Frag) : V → List V → Hp → VK → Prop := fun x vs H Q => ∃ l b xs zs, x = .ref l ∧ vs = [.ref b] ∧ H l = some (.lst xs) ∧ SqT K H b zs ∧ xs.length + zs.length ≤ sizeLine ∧ Q .non (upd H l (.lst (xs ++ zs)))
theorem mt_extendT {X : Cx} : MtM X "list.extend" (rExtendT X.K) := by
  intro pins s σ H x vs v us Q I rx rv h
  obtain ⟨l, b, xs, zs, rfl, rfl, hH, hB, hz, q⟩ := h
  cases rx
  obtain ⟨u, rfl, ru⟩ := rv.one
  cases ru
  obtain ⟨z, its, n, r, hl, e⟩ := I.lstM hH
  obtain ⟨its2, r2, ⟨o2, e2, hc2, n2, hd2⟩, z2⟩ := I.tuple hB
  obtain ⟨cls, dc, dat, sl⟩ := o2
  subst hc2
  subst hd2
  have hl2 := r2.length
  have hsz : its.toArray.size + its2.toArray.size ≤ sizeLine := by rw [List.size_toArray, List.size_toArray]; omega
  have hlong : ¬ (!its.toArray.isEmpty && Builtin.List.listTooLong (its.toArray.size + its2.toArray.size)) = true := by
    rw [notLongL hsz, Bool.and_false]
    exact Bool.false_ne_true
  refine call_meets F.slot_list_extend ⟨_, e, rfl⟩ F.entry_list_extend (F.args_list_extend_2 _ _)
    (ext_tup l its.toArray n b its2.toArray n2 dc sl hlong (by rw [List.size_toArray]; omega) (by omega)) ⟨e, e2, ?_⟩
  refine ⟨.non, _, I.lset (its' := its ++ its2) hH e (by simp) (r.append r2) ?_, rfl, q⟩
  rw [List.length_append]
  omega
end Ev

namespace Ev
open PySem L2

section
variable {C : Ck} {fn : Str → Bool} {sc : Scope} {e : Expr}
theorem v_non (h : chkE C fn sc .non e = true) : ∃ k p, e = .Constant .none k p := by
  cases e <;> (try (simp [chkE] at h; done))
  rename_i v k p
  cases v <;> simp [chkE] at h
  exact ⟨_, _, rfl⟩
theorem v_bl {b : Bool} (h : chkE C fn sc (.bl b) e = true) : ∃ k p, e = .Constant (.bool b) k p := by
  cases e <;> (try (simp [chkE] at h; done))
  rename_i v k p
  cases v <;> simp [chkE] at h
  subst h
  exact ⟨_, _, rfl⟩
theorem v_int {b : Int} (h : chkE C fn sc (.int b) e = true) : ∃ k p, e = .Constant (.int b) k p := by
  cases e <;> (try (simp [chkE] at h; done))
  rename_i v k p
  cases v <;> simp [chkE] at h
  subst h
  exact ⟨_, _, rfl⟩
theorem v_str {b : Str} (h : chkE C fn sc (.str b) e = true) : (∃ k p, e = .Constant (.str b) k p) ∧ b.length ≤ lim := by
  cases e <;> (try (simp [chkE] at h; done))
  rename_i v k p
  cases v <;> simp [chkE] at h
  obtain ⟨rfl, h⟩ := h
  exact ⟨⟨_, _, rfl⟩, h⟩
theorem v_var {i : Nat} (h : chkE C fn sc (.var i) e = true) : ∃ id p, e = .Name id p ∧ nameB C sc i id = true := by
  cases e <;> (try (simp [chkE] at h; done))
  exact ⟨_, _, rfl, by simpa only [chkE] using h⟩
theorem v_bor {i : Nat} (h : chkE C fn sc (.bor i) e = true) : ∃ id p, e = .Name id p ∧ nameB C sc i id = true := by
  cases e <;> (try (simp [chkE] at h; done))
  exact ⟨_, _, rfl, by simpa only [chkE] using h⟩
theorem v_glob {x : Str} {g : GD} (h : chkE C fn sc (.glob x g) e = true) : ∃ p, e = .Name x p ∧ glB sc x = true ∧ C.cs.lookup x = some g := by
  cases e <;> (try (simp [chkE] at h; done))
  simp only [chkE, Bool.and_eq_true, decide_eq_true_eq] at h
  obtain ⟨⟨rfl, h1⟩, h2⟩ := h
  exact ⟨_, rfl, h1, h2⟩
theorem v_bin {o : BOp} {a b : X} (h : chkE C fn sc (.bin o a b) e = true) : ∃ l r p, e = .BinOp l (opOf o) r p ∧ chkE C fn sc a l = true ∧ chkE C fn sc b r = true := by
  cases e <;> (try (simp [chkE] at h; done))
  simp only [chkE, Bool.and_eq_true, decide_eq_true_eq] at h
  obtain ⟨⟨rfl, h1⟩, h2⟩ := h
  exact ⟨_, _, _, rfl, h1, h2⟩
theorem v_neg {a : X} (h : chkE C fn sc (.neg a) e = true) : ∃ l p, e = .UnaryOp .USub l p ∧ chkE C fn sc a l = true := by
  cases e <;> (try (simp [chkE] at h; done))
  rename_i op l p
  cases op <;> (try (simp [chkE] at h; done))
  exact ⟨_, _, rfl, by simpa only [chkE] using h⟩
theorem v_not {a : X} (h : chkE C fn sc (.not a) e = true) : ∃ l p, e = .UnaryOp .Not l p ∧ chkE C fn sc a l = true := by
  cases e <;> (try (simp [chkE] at h; done))
  rename_i op l p
  cases op <;> (try (simp [chkE] at h; done))
  exact ⟨_, _, rfl, by simpa only [chkE] using h⟩
theorem v_cmp {o : COp} {a b : X} (h : chkE C fn sc (.cmp o a b) e = true) : ∃ l r p, e = .Compare l [copOf o] [r] p ∧ chkE C fn sc a l = true ∧ chkE C fn sc b r = true := by
  cases e <;> (try (simp [chkE] at h; done))
  rename_i l ops cs p
  rcases ops with _ | ⟨op, _ | ⟨_, _⟩⟩ <;> (try (simp [chkE] at h; done))
  rcases cs with _ | ⟨r, _ | ⟨_, _⟩⟩ <;> (try (simp [chkE] at h; done))
  simp only [chkE, Bool.and_eq_true, decide_eq_true_eq] at h
  obtain ⟨⟨rfl, h1⟩, h2⟩ := h
  exact ⟨_, _, _, rfl, h1, h2⟩
theorem v_cmp2 {o q : COp} {a b c : X} (h : chkE C fn sc (.cmp2 o q a b c) e = true) : ∃ l m r p, e = .Compare l [copOf o, copOf q] [m, r] p ∧ chkE C fn sc a l = true ∧ chkE C fn sc b m = true ∧ chkE C fn sc c r = true := by
  cases e <;> (try (simp [chkE] at h; done))
  rename_i l ops cs p
  rcases ops with _ | ⟨op, _ | ⟨op2, _ | ⟨_, _⟩⟩⟩ <;> (try (simp [chkE] at h; done))
  rcases cs with _ | ⟨m, _ | ⟨r, _ | ⟨_, _⟩⟩⟩ <;> (try (simp [chkE] at h; done))
  simp only [chkE, Bool.and_eq_true, decide_eq_true_eq] at h
  obtain ⟨⟨⟨⟨rfl, rfl⟩, h1⟩, h2⟩, h3⟩ := h
  exact ⟨_, _, _, _, rfl, h1, h2, h3⟩
theorem v_both {k : Bool} {xs : List X} (h : chkE C fn sc (.both k xs) e = true) : ∃ es p, e = .BoolOp (bop k) es p ∧ chkL C fn sc true xs es = true ∧ 2 ≤ xs.length := by
  cases e <;> (try (simp [chkE] at h; done))
  simp only [chkE, Bool.and_eq_true, decide_eq_true_eq] at h
  obtain ⟨⟨h0, h1⟩, h2⟩ := h
  exact ⟨_, _, by rw [h0]; rfl, h1, h2⟩
theorem v_ife {c a b : X} (h : chkE C fn sc (.ife c a b) e = true) : ∃ t x y p, e = .IfExp t x y p ∧ chkE C fn sc c t = true ∧ chkE C fn sc a x = true ∧ chkE C fn sc b y = true ∧ a.isBor = false ∧ b.isBor = false := by
  cases e <;> (try (simp [chkE] at h; done))
  simp only [chkE, Bool.and_eq_true, Bool.not_eq_true'] at h
  obtain ⟨⟨⟨⟨h1, h2⟩, h3⟩, h4⟩, h5⟩ := h
  exact ⟨_, _, _, _, rfl, h1, h2, h3, h4, h5⟩
theorem v_idx {a i : X} (h : chkE C fn sc (.idx a i) e = true) : ∃ v s p, e = .Subscript v s p ∧ chkE C fn sc a v = true ∧ chkE C fn sc i s = true := by
  cases e <;> (try (simp [chkE] at h; done))
  simp only [chkE, Bool.and_eq_true] at h
  exact ⟨_, _, _, rfl, h.1, h.2⟩
theorem v_sl {a lo hi : X} (h : chkE C fn sc (.sl a lo hi) e = true) : ∃ v l u q p, e = .Subscript v (.Slice l u none q) p ∧ chkE C fn sc a v = true ∧
    ((l = none ∧ nonB lo = true) ∨ ∃ e, l = some e ∧ chkE C fn sc lo e = true ∧ nonB lo = false) ∧ ((u = none ∧ nonB hi = true) ∨ ∃ e, u = some e ∧ chkE C fn sc hi e = true ∧ nonB hi = false) := by
  cases e <;> (try (simp [chkE] at h; done))
  rename_i v s p
  cases s <;> (try (simp [chkE] at h; done))
  rename_i l u st q
  cases st <;> (try (simp [chkE] at h; done))
  simp only [chkE, Bool.and_eq_true, Bool.not_eq_true'] at h
  obtain ⟨⟨⟨⟨h1, _⟩, _⟩, h2⟩, h3⟩ := h
  refine ⟨_, l, u, _, _, rfl, h1, ?_, ?_⟩
  · cases l with
    | none => exact .inl ⟨rfl, h2⟩
    | some e => exact .inr ⟨e, rfl, by simpa only [Bool.and_eq_true, Bool.not_eq_true'] using h2⟩
  · cases u with
    | none => exact .inl ⟨rfl, h3⟩
    | some e => exact .inr ⟨e, rfl, by simpa only [Bool.and_eq_true, Bool.not_eq_true'] using h3⟩
theorem v_tup {xs : List X} (h : chkE C fn sc (.tup xs) e = true) : ∃ es k p, e = .Tuple es k p ∧ chkL C fn sc true xs es = true := by
  cases e <;> (try (simp [chkE] at h; done))
  exact ⟨_, _, _, rfl, by simpa only [chkE] using h⟩
theorem v_lst {xs : List X} (h : chkE C fn sc (.lst xs) e = true) : ∃ es p, e = .List es p ∧ chkL C fn sc true xs es = true := by
  cases e <;> (try (simp [chkE] at h; done))
  exact ⟨_, _, rfl, by simpa only [chkE] using h⟩
theorem v_call {f : String} {xs : List X} (h : chkE C fn sc (.call f xs) e = true) : ∃ id p0 e1 es p, e = .Call (.Name id p0) (e1 :: es) [] p ∧ id = Str.ofString f ∧ glB sc id = true ∧ C.fns.contains f = true ∧ chkL C fn sc true xs (e1 :: es) = true := by
  cases e <;> (try (simp [chkE] at h; done))
  rename_i g es ks p
  cases g <;> (try (simp [chkE] at h; done))
  cases ks <;> (try (simp [chkE] at h; done))
  simp only [chkE, Bool.and_eq_true, decide_eq_true_eq] at h
  obtain ⟨⟨⟨⟨h1, h2⟩, h3⟩, h4⟩, h5⟩ := h
  cases es with
  | nil => cases xs <;> simp [chkL] at h4 h5
  | cons e1 es => exact ⟨_, _, _, _, _, rfl, h1, h2, h3, h5⟩
theorem v_pcall {fr : Bool} {f : String} {xs : List X} (h : chkE C fn sc (.pcall fr f xs) e = true) : ∃ id p0 e1 es p, e = .Call (.Name id p0) (e1 :: es) [] p ∧ id = Str.ofString f ∧ glB sc id = true ∧ C.fns.contains f = true ∧ (fr = true → C.frs.contains f = true) ∧ chkL C fn sc (!xs.any X.isBor) xs (e1 :: es) = true := by
  cases e <;> (try (simp [chkE] at h; done))
  rename_i g es ks p
  cases g <;> (try (simp [chkE] at h; done))
  cases ks <;> (try (simp [chkE] at h; done))
  simp only [chkE, Bool.and_eq_true, decide_eq_true_eq] at h
  obtain ⟨⟨⟨⟨⟨h1, h2⟩, h3⟩, h6⟩, h4⟩, h5⟩ := h
  cases es with
  | nil => cases xs <;> simp [chkL] at h4 h5
  | cons e1 es => exact ⟨_, _, _, _, _, rfl, h1, h2, h3, (fun q => by rw [q] at h6; simpa using h6), h5⟩
theorem v_rev {a : X} (h : chkE C fn sc (.rev a) e = true) : ∃ v k p1 p2 p3 p, e = .Subscript v (.Slice none none (some (.UnaryOp .USub (.Constant (.int 1) k p1) p2)) p3) p ∧ chkE C fn sc a v = true := by
  cases e <;> (try (simp [chkE] at h; done))
  rename_i v s p
  cases s <;> (try (simp [chkE] at h; done))
  rename_i l u st q
  cases l <;> (try (simp [chkE] at h; done))
  cases u <;> (try (simp [chkE] at h; done))
  rcases st with _ | st <;> (try (simp [chkE] at h; done))
  cases st <;> (try (simp [chkE] at h; done))
  rename_i op o q2
  cases op <;> (try (simp [chkE] at h; done))
  cases o <;> (try (simp [chkE] at h; done))
  rename_i cst k q3
  cases cst <;> (try (simp [chkE] at h; done))
  simp only [chkE, Bool.and_eq_true, decide_eq_true_eq] at h
  obtain ⟨rfl, h⟩ := h
  exact ⟨_, _, _, _, _, _, rfl, h⟩
theorem v_dnew (h : chkE C fn sc .dnew e = true) : ∃ p, e = .Dict [] [] p := by
  cases e <;> (try (simp [chkE] at h; done))
  rename_i ks vs p
  cases ks <;> (try (simp [chkE] at h; done))
  cases vs <;> (try (simp [chkE] at h; done))
  exact ⟨_, rfl⟩
theorem v_dnew1 {k v : X} (h : chkE C fn sc (.dnew1 k v) e = true) : ∃ ke ve p, e = .Dict [some ke] [ve] p ∧ chkE C fn sc k ke = true ∧ chkE C fn sc v ve = true ∧ k.isBor = false ∧ v.isBor = false := by
  cases e <;> (try (simp [chkE] at h; done))
  rename_i ks vs p
  rcases ks with _ | ⟨ke, _ | ⟨_, _⟩⟩ <;> (try (simp [chkE] at h; done))
  · rcases ke with _ | ke <;> (try (simp [chkE] at h; done))
    rcases vs with _ | ⟨ve, _ | ⟨_, _⟩⟩ <;> (try (simp [chkE] at h; done))
    simp only [chkE, Bool.and_eq_true, Bool.not_eq_true'] at h
    exact ⟨_, _, _, rfl, h.1.1.1, h.1.1.2, h.1.2, h.2⟩
theorem v_dget {a k : X} (h : chkE C fn sc (.dget a k) e = true) : ∃ v s p, e = .Subscript v s p ∧ chkE C fn sc a v = true ∧ chkE C fn sc k s = true ∧ a.isBor = false ∧ k.isBor = false := by
  cases e <;> (try (simp [chkE] at h; done))
  simp only [chkE, Bool.and_eq_true, Bool.not_eq_true'] at h
  exact ⟨_, _, _, rfl, h.1.1.1, h.1.1.2, h.1.2, h.2⟩
theorem v_din {neg : Bool} {k a : X} (h : chkE C fn sc (.din neg k a) e = true) : ∃ l op r p, e = .Compare l [op] [r] p ∧ (op = if neg = true then .NotIn else .In) ∧ chkE C fn sc k l = true ∧ chkE C fn sc a r = true ∧ a.isBor = false ∧ k.isBor = false := by
  cases e <;> (try (simp [chkE] at h; done))
  rename_i l ops rs p
  rcases ops with _ | ⟨op, _ | ⟨_, _⟩⟩ <;> (try (simp [chkE] at h; done))
  rcases rs with _ | ⟨r, _ | ⟨_, _⟩⟩ <;> (try (simp [chkE] at h; done))
  simp only [chkE, Bool.and_eq_true, Bool.not_eq_true', decide_eq_true_eq] at h
  exact ⟨_, _, _, _, rfl, h.1.1.1.1, h.1.1.1.2, h.1.1.2, h.1.2, h.2⟩
theorem v_dget2 {a k d : X} (h : chkE C fn sc (.dget2 a k d) e = true) : ∃ o nm apos e1 f1 cpos, e = .Call (.Attribute o nm apos) [e1, f1] [] cpos ∧ nm = "get" ∧ chkE C fn sc a o = true ∧ chkE C fn sc k e1 = true ∧ chkE C fn sc d f1 = true ∧ a.isBor = false ∧ k.isBor = false ∧ d.isBor = false ∧ apos.endLine = cpos.line := by
  cases e <;> (try (simp [chkE] at h; done))
  rename_i g es kws p
  cases g <;> (try (simp [chkE] at h; done))
  rcases es with _ | ⟨e1, _ | ⟨f1, _ | ⟨_, _⟩⟩⟩ <;> (try (simp [chkE] at h; done))
  cases kws <;> (try (simp [chkE] at h; done))
  simp only [chkE, Bool.and_eq_true, Bool.not_eq_true', decide_eq_true_eq] at h
  exact ⟨_, _, _, _, _, _, rfl, h.1.1.1.1.1.1.1, h.1.1.1.1.1.1.2, h.1.1.1.1.1.2, h.1.1.1.1.2, h.1.1.1.2, h.1.1.2, h.1.2, h.2⟩
theorem v_trng {a : X} (h : chkE C fn sc (.trng a) e = true) : ∃ id p0 id2 p1 e1 p2 p, e = .Call (.Name id p0) [.Call (.Name id2 p1) [e1] [] p2] [] p ∧ id = "tuple" ∧ glB sc id = true ∧ id2 = "range" ∧ glB sc id2 = true ∧ chkE C fn sc a e1 = true := by
  cases e <;> (try (simp [chkE] at h; done))
  rename_i g es ks p
  cases g <;> (try (simp [chkE] at h; done))
  cases ks <;> (try (simp [chkE] at h; done))
  rcases es with _ | ⟨e1, _ | ⟨_, _⟩⟩ <;> (try (simp [chkE] at h; done))
  cases e1 <;> (try (simp [chkE] at h; done))
  rename_i g2 es2 ks2 p2
  cases g2 <;> (try (simp [chkE] at h; done))
  cases ks2 <;> (try (simp [chkE] at h; done))
  rcases es2 with _ | ⟨e2, _ | ⟨_, _⟩⟩ <;> (try (simp [chkE] at h; done))
  simp only [chkE, Bool.and_eq_true, decide_eq_true_eq] at h
  obtain ⟨⟨⟨⟨h1, h2⟩, h3⟩, h4⟩, h5⟩ := h
  exact ⟨_, _, _, _, _, _, _, rfl, h1, h2, h3, h4, h5⟩
theorem v_lrng {a : X} (h : chkE C fn sc (.lrng a) e = true) : ∃ id p0 id2 p1 e1 p2 p, e = .Call (.Name id p0) [.Call (.Name id2 p1) [e1] [] p2] [] p ∧ id = "list" ∧ glB sc id = true ∧ id2 = "range" ∧ glB sc id2 = true ∧ chkE C fn sc a e1 = true := by
  cases e <;> (try (simp [chkE] at h; done))
  rename_i g es ks p
  cases g <;> (try (simp [chkE] at h; done))
  cases ks <;> (try (simp [chkE] at h; done))
  rcases es with _ | ⟨e1, _ | ⟨_, _⟩⟩ <;> (try (simp [chkE] at h; done))
  cases e1 <;> (try (simp [chkE] at h; done))
  rename_i g2 es2 ks2 p2
  cases g2 <;> (try (simp [chkE] at h; done))
  cases ks2 <;> (try (simp [chkE] at h; done))
  rcases es2 with _ | ⟨e2, _ | ⟨_, _⟩⟩ <;> (try (simp [chkE] at h; done))
  simp only [chkE, Bool.and_eq_true, decide_eq_true_eq] at h
  obtain ⟨⟨⟨⟨h1, h2⟩, h3⟩, h4⟩, h5⟩ := h
  exact ⟨_, _, _, _, _, _, _, rfl, h1, h2, h3, h4, h5⟩
theorem v_bi {b : Bi} {xs : List X} (h : chkE C fn sc (.bi b xs) e = true) : ∃ id p0 e1 es p, e = .Call (.Name id p0) (e1 :: es) [] p ∧ id = Str.ofString (biName b) ∧ glB sc id = true ∧ chkL C fn sc false xs (e1 :: es) = true := by
  cases e <;> (try (simp [chkE] at h; done))
  rename_i g es ks p
  cases g <;> (try (simp [chkE] at h; done))
  cases ks <;> (try (simp [chkE] at h; done))
  simp only [chkE, Bool.and_eq_true, decide_eq_true_eq] at h
  obtain ⟨⟨⟨h1, h2⟩, h4⟩, h5⟩ := h
  cases es with
  | nil => cases xs <;> simp [chkL] at h4 h5
  | cons e1 es => exact ⟨_, _, _, _, _, rfl, h1, h2, h5⟩
theorem v_isin {a : X} {ts : List Ty} (h : chkE C fn sc (.isin a ts) e = true) : ∃ id p0 e1 p, id = Str.ofString "isinstance" ∧ glB sc id = true ∧ chkE C fn sc a e1 = true ∧
    ((∃ t q ty, e = .Call (.Name id p0) [e1, .Name t q] [] p ∧ ts = [ty] ∧ t = Str.ofString (tyName ty) ∧ glB sc t = true) ∨ ∃ es k q, e = .Call (.Name id p0) [e1, .Tuple es k q] [] p ∧ chkTy ts es sc = true ∧ ts ≠ [] ∧ ts.length ≤ 8) := by
  cases e <;> (try (simp [chkE] at h; done))
  rename_i g es ks p
  cases g <;> (try (simp [chkE] at h; done))
  cases ks <;> (try (simp [chkE] at h; done))
  rcases es with _ | ⟨e1, _ | ⟨e2, _ | ⟨_, _⟩⟩⟩ <;> (try (simp [chkE] at h; done))
  cases e2 <;> (try (simp [chkE] at h; done))
  · simp only [chkE, Bool.and_eq_true, decide_eq_true_eq] at h
    obtain ⟨⟨⟨h1, h2⟩, h3⟩, h4⟩ := h
    split at h4
    · simp only [Bool.and_eq_true, decide_eq_true_eq] at h4
      exact ⟨_, _, e1, _, h1, h2, h3, .inl ⟨_, _, _, rfl, rfl, h4.1, h4.2⟩⟩
    · cases h4
  · simp only [chkE, Bool.and_eq_true, decide_eq_true_eq, Bool.not_eq_true'] at h
    obtain ⟨⟨⟨⟨⟨h1, h2⟩, h3⟩, h4⟩, h5⟩, h6⟩ := h
    exact ⟨_, _, e1, _, h1, h2, h3, .inr ⟨_, _, _, rfl, h4, fun q => by subst q; simp at h5, h6⟩⟩
theorem v_sset {a : X} (h : chkE C fn sc (.sset a) e = true) : ∃ id p0 id2 p1 e1 p2 p, e = .Call (.Name id p0) [.Call (.Name id2 p1) [e1] [] p2] [] p ∧ id = Str.ofString "sorted" ∧ glB sc id = true ∧ id2 = Str.ofString "set" ∧ glB sc id2 = true ∧ chkE C fn sc a e1 = true := by
  cases e <;> (try (simp [chkE] at h; done))
  rename_i g es ks p
  cases g <;> (try (simp [chkE] at h; done))
  cases ks <;> (try (simp [chkE] at h; done))
  rcases es with _ | ⟨e1, _ | ⟨_, _⟩⟩ <;> (try (simp [chkE] at h; done))
  cases e1 <;> (try (simp [chkE] at h; done))
  rename_i g2 es2 ks2 p2
  cases g2 <;> (try (simp [chkE] at h; done))
  cases ks2 <;> (try (simp [chkE] at h; done))
  rcases es2 with _ | ⟨e2, _ | ⟨_, _⟩⟩ <;> (try (simp [chkE] at h; done))
  simp only [chkE, Bool.and_eq_true, decide_eq_true_eq] at h
  obtain ⟨⟨⟨⟨h1, h2⟩, h3⟩, h4⟩, h5⟩ := h
  exact ⟨_, _, _, _, _, _, _, rfl, h1, h2, h3, h4, h5⟩
theorem v_sm {m : Sm} {a : X} {xs : List X} (h : chkE C fn sc (.sm m a xs) e = true) : ∃ o nm ap e1 es p, e = .Call (.Attribute o nm ap) (e1 :: es) [] p ∧ nm = smName m ∧ (m = .join ∨ m = .count) ∧ chkE C fn sc a o = true ∧ ap.endLine = p.line ∧
    xs.length ≤ 8 ∧ chkL C fn sc false xs (e1 :: es) = true := by
  cases e <;> (try (simp [chkE] at h; done))
  rename_i g es ks p
  cases g <;> (try (simp [chkE] at h; done))
  cases ks <;> (try (simp [chkE] at h; done))
  simp only [chkE, Bool.and_eq_true, decide_eq_true_eq] at h
  obtain ⟨⟨⟨⟨⟨⟨h1, h2⟩, h3⟩, h4⟩, h5⟩, h6⟩, h7⟩ := h
  cases es with
  | nil => cases xs <;> simp [chkL] at h5 h7
  | cons e1 es => exact ⟨_, _, _, _, _, _, rfl, h1, h2, h3, h4, h6, h7⟩
theorem v_comp {own : List Nat} {tg : Tg} {it : It} {c x : X} (h : chkE C fn sc (.comp own tg it c x) e = true) : ∃ elt t i ifs scope p, e = .ListComp elt [⟨t, i, ifs, 0⟩] scope p ∧ blkC C.N sc scope (ownOf C own) = true ∧
    chkT C (fun x => scope.names.lookup x == some .cell) (relS scope sc) tg t = true ∧ (∀ k ∈ tg.ixs, k ∈ own) ∧ (∀ k ∈ own, k < C.N.length) ∧ chkI C fn sc it i = true ∧ (it.two = true → tg.isTp = true) ∧
    ((ifs = [] ∧ c = .bl true) ∨ ∃ g, ifs = [g] ∧ chkE C (fun x => scope.names.lookup x == some .cell) (relS scope sc) c g = true) ∧
    chkE C (fun x => scope.names.lookup x == some .cell) (relS scope sc) x elt = true ∧ x.isBor = false := by
  cases e <;> (try (simp [chkE] at h; done))
  rename_i elt gs scope p
  rcases gs with _ | ⟨⟨t, i, ifs, asy⟩, _ | ⟨_, _⟩⟩ <;> (try (simp [chkE] at h; done))
  simp only [chkE, Bool.and_eq_true, Bool.or_eq_true, decide_eq_true_eq, Bool.not_eq_true', List.all_eq_true, List.contains_eq_mem] at h
  obtain ⟨⟨⟨⟨⟨⟨⟨⟨⟨⟨ha, h1⟩, h2⟩, h3⟩, h4⟩, h5⟩, h6⟩, h7⟩, h8⟩, h9⟩, h10⟩ := h
  subst ha
  refine ⟨elt, t, i, ifs, scope, p, rfl, h1, h2, h3, h4, h5, fun q => ?_, ?_, h8, h9⟩
  · rcases h6 with z | z
    · rw [q] at z; cases z
    · exact z
  · rcases ifs with _ | ⟨g, _ | ⟨_, _⟩⟩
    · left
      refine ⟨rfl, ?_⟩
      dsimp only at h7
      split at h7
      · rw [h7]
      · cases h7
    · exact .inr ⟨g, rfl, h7⟩
    · cases h7
end

section
variable {fns : List (String × Fn)} {cs : List (Str × GD)} {n : Nat}
theorem fns_of {X' : Cx} {f : String} (h : (ckOf fns cs X').fns.contains f = true) : ∃ fn, fns.lookup f = some fn := by
  replace h : f ∈ fns.map (·.1) := by simpa [ckOf] using h
  clear X'
  induction fns with
  | nil => cases h
  | cons p r ih =>
    obtain ⟨g, fn⟩ := p
    rw [List.lookup_cons]
    by_cases e : f == g
    · rw [e]; exact ⟨fn, rfl⟩
    · rw [show (f == g) = false by simpa using e]
      rcases List.mem_cons.mp h with q | q
      · exact absurd (by simpa using q) e
      · exact ih q
theorem pt_void {X' : Cx} {e : Expr} {t : TT} (h : ∀ σ H Q, ¬ t σ H Q) : PT X' e t := ⟨fun pins s σ H Q I q => absurd q (h σ H Q)⟩
theorem t_noBl {X' : Cx} {K : PySem.W.Frag} {Γ : FT} {x : X} {e : Expr} (h : ∀ ρ hh b h', evE Γ x ρ hh ≠ some (.bl b, h')) : PT X' e (tT K Γ x) := pt_void fun σ H Q ⟨O, L, hh, ρ, b, h', c, sl, ev, q⟩ => h ρ hh b h' ev
theorem owns_map {C : Ck} {own : List Nat} : (ownOf C own).map (·.2) = own := by simp [ownOf, Function.comp_def]
theorem folded_of {e : Expr} (h : ∀ es k p, e ≠ .Set es k p) (env : Env) (x : Value) : foldedSetIterable e env x = pure x := by
  cases e with
  | Set es k p => exact absurd rfl (h es k p)
  | _ => rfl
theorem formI {C : Ck} {fn : Str → Bool} {sc : Scope} {it : It} {e : Expr} (h : chkI C fn sc it e = true) : ∀ es k p, e ≠ .Set es k p := fun es k p q => by
  subst q
  cases it with
  | over a =>
    simp only [chkI] at h
    exact (formE C fn sc a _ h).1 es k p rfl
  | _ => simp [chkI] at h
theorem two_form {C : Ck} {fn : Str → Bool} {sc : Scope} {tg : Tg} {t : Expr} (h : chkT C fn sc tg t = true) (q : tg.isTp = true) : ∃ es k p, t = .Tuple es k p := by
  unfold chkT at h
  split at h
  · cases q
  · exact ⟨_, _, _, rfl⟩
  · cases h
mutual
theorem e_ok : ∀ (x : X) (X' : Cx) (fn : Str → Bool) (e : Expr), Gd fns cs n X' → (∀ y, fn y = true → X'.fn y = true) → chkE (ckOf fns cs X') fn X'.env.scope x e = true →
    PE X' e (tX X'.K (callF fns n) x) ∧ PT X' e (tT X'.K (callF fns n) x)
  | .non, X', fn, e, g, hf, h => by
    obtain ⟨k, p, rfl⟩ := v_non h
    refine ⟨c_const (d := .non) rfl rfl pe_non (fun ρ hh d h' ev => ?_) fun M L H => rep_non, t_noBl fun ρ hh b h' ev => ?_⟩ <;> (simp only [evE] at ev; cases ev)
    exact ⟨rfl, rfl⟩
  | .bl b, X', fn, e, g, hf, h => by
    obtain ⟨k, p, rfl⟩ := v_bl h
    have := c_const (X' := X') (Γ := callF fns n) (x := .bl b) (d := .bl b) rfl rfl (pe_bl (pos := p) (j := k) (b := b)) (fun ρ hh d h' ev => by simp only [evE] at ev; cases ev; exact ⟨rfl, rfl⟩) fun M L H => rep_bl b
    exact ⟨this, t_of this fun _ => rfl⟩
  | .int i, X', fn, e, g, hf, h => by
    obtain ⟨k, p, rfl⟩ := v_int h
    refine ⟨c_const (d := .int i) rfl rfl pe_int (fun ρ hh d h' ev => ?_) fun M L H => rep_int i, t_noBl fun ρ hh b h' ev => ?_⟩ <;> (simp only [evE] at ev; cases ev)
    exact ⟨rfl, rfl⟩
  | .str s, X', fn, e, g, hf, h => by
    obtain ⟨⟨k, p, rfl⟩, hl⟩ := v_str h
    refine ⟨c_const (d := .str s) rfl rfl pe_str (fun ρ hh d h' ev => ?_) fun M L H => rep_str (Nat.le_trans hl lim_le), t_noBl fun ρ hh b h' ev => ?_⟩ <;> (simp only [evE] at ev; cases ev)
    exact ⟨rfl, rfl⟩
  | .var i, X', fn, e, g, hf, h => by
    obtain ⟨id, p, rfl, h0⟩ := v_var h
    unfold nameB at h0
    simp only [Bool.and_eq_true, decide_eq_true_eq] at h0
    have := c_var (X' := X') (Γ := callF fns n) (pos := p) h0.1.1 h0.1.2 h0.2
    exact ⟨this, t_of this fun _ => rfl⟩
  | .bor i, X', fn, e, g, hf, h => by
    obtain ⟨id, p, rfl, h0⟩ := v_bor h
    unfold nameB at h0
    simp only [Bool.and_eq_true, decide_eq_true_eq] at h0
    have := c_bor (X' := X') (Γ := callF fns n) (pos := p) h0.1.1 h0.1.2 h0.2
    exact ⟨this, t_of this fun _ => rfl⟩
  | .glob x gd, X', fn, e, g, hf, h => by
    obtain ⟨p, rfl, h1, h2⟩ := v_glob h
    have := c_glob (Γ := callF fns n) (pos := p) g rfl h1 h2
    exact ⟨this, t_of this fun _ => rfl⟩
  | .bin o a b, X', fn, e, g, hf, h => by
    obtain ⟨l, r, p, rfl, h1, h2⟩ := v_bin h
    have := c_bin (pos := p) (o := o) (e_ok a X' fn l g hf h1).1 (e_ok b X' fn r g hf h2).1
    exact ⟨this, t_of this fun _ => rfl⟩
  | .neg a, X', fn, e, g, hf, h => by
    obtain ⟨l, p, rfl, h1⟩ := v_neg h
    have := c_neg (pos := p) (e_ok a X' fn l g hf h1).1
    exact ⟨this, t_of this fun _ => rfl⟩
  | .cmp o a b, X', fn, e, g, hf, h => by
    obtain ⟨l, r, p, rfl, h1, h2⟩ := v_cmp h
    have ma := nomarkE b _ _ _ h2 (copOf o)
    exact ⟨c_cmp g.room ma (e_ok a X' fn l g hf h1).1 (e_ok b X' fn r g hf h2).1, t_cmp g.room ma (e_ok a X' fn l g hf h1).1 (e_ok b X' fn r g hf h2).1⟩
  | .cmp2 o q a b c, X', fn, e, g, hf, h => by
    obtain ⟨l, m, r, p, rfl, h1, h2, h3⟩ := v_cmp2 h
    have ma := nomarkE c _ _ _ h3 (copOf q)
    exact ⟨c_cmp2 g.room ma (e_ok a X' fn l g hf h1).1 (e_ok b X' fn m g hf h2).1 (e_ok c X' fn r g hf h3).1, t_cmp2 g.room ma (e_ok a X' fn l g hf h1).1 (e_ok b X' fn m g hf h2).1 (e_ok c X' fn r g hf h3).1⟩
  | .both k xs, X', fn, e, g, hf, h => by
    obtain ⟨es, p, rfl, h1, h2⟩ := v_both h
    obtain ⟨pe, pw⟩ := a_ok xs X' fn es k p g hf h1 (by omega)
    refine ⟨pe_weak pe fun σ H Q ⟨O, L, hh, ρ, d, h', c, sl, ev, q⟩ => ?_, PW.pt ⟨fun w pins s σ H Q I ⟨O, L, hh, ρ, b, h', c, sl, ev, q⟩ => pw.run w pins s σ H Q I ?_⟩⟩
    · simp only [evE] at ev
      obtain ⟨b, rfl⟩ := evAnd_bl ev
      exact ⟨O, L, hh, ρ, b, h', c, sl, ev, fun H' L' st c' => q _ H' L' [] st c' nT (VR.plain rfl rfl (rep_bl _))⟩
    · simp only [evE] at ev
      exact ⟨O, L, hh, ρ, b, h', c, sl, ev, q⟩
  | .not a, X', fn, e, g, hf, h => by
    obtain ⟨l, p, rfl, h1⟩ := v_not h
    exact ⟨c_not (e_ok a X' fn l g hf h1).1, t_not (e_ok a X' fn l g hf h1).2⟩
  | .ife c a b, X', fn, e, g, hf, h => by
    obtain ⟨t, x, y, p, rfl, h1, h2, h3, h4, h5⟩ := v_ife h
    exact ⟨c_ife h4 h5 (e_ok c X' fn t g hf h1).2 (e_ok a X' fn x g hf h2).1 (e_ok b X' fn y g hf h3).1, t_ife (e_ok c X' fn t g hf h1).2 (e_ok a X' fn x g hf h2).2 (e_ok b X' fn y g hf h3).2⟩
  | .idx a i, X', fn, e, g, hf, h => by
    obtain ⟨v, s, p, rfl, h1, h2⟩ := v_idx h
    have := c_idx (pos := p) (plainIxE i _ _ _ h2) (e_ok a X' fn v g hf h1).1 (e_ok i X' fn s g hf h2).1
    exact ⟨this, t_of this fun _ => rfl⟩
  | .sl a lo hi, X', fn, e, g, hf, h => by
    obtain ⟨v, l, u, q, p, rfl, h1, h2, h3⟩ := v_sl h
    have pl : PO X' l (tOp1 X'.K (callF fns n) lo) := by
      rcases h2 with ⟨rfl, h2⟩ | ⟨e, rfl, h2, h4⟩
      · rw [nonB_eq h2]; exact o_none
      · exact o_some h4 (e_ok lo X' fn e g hf h2).1
    have pu : PO X' u (tOp1 X'.K (callF fns n) hi) := by
      rcases h3 with ⟨rfl, h2⟩ | ⟨e, rfl, h2, h4⟩
      · rw [nonB_eq h2]; exact o_none
      · exact o_some h4 (e_ok hi X' fn e g hf h2).1
    have := c_sl (pos := p) (p2 := q) (e_ok a X' fn v g hf h1).1 pl pu
    exact ⟨this, t_of this fun _ => rfl⟩
  | .tup xs, X', fn, e, g, hf, h => by
    obtain ⟨es, k, p, rfl, h1⟩ := v_tup h
    have := c_tup (pos := p) (k := k) (l_ok xs X' fn es true g hf h1)
    exact ⟨this, t_of this fun _ => rfl⟩
  | .lst xs, X', fn, e, g, hf, h => by
    obtain ⟨es, p, rfl, h1⟩ := v_lst h
    have := c_lst (pos := p) (l_ok xs X' fn es true g hf h1)
    exact ⟨this, t_of this fun _ => rfl⟩
  | .call f xs, X', fn, e, g, hf, h => by
    obtain ⟨id, p0, e1, es, p, rfl, h1, h2, h3, h4⟩ := v_call h
    obtain ⟨fd, hfd⟩ := fns_of h3
    have pl := l_ok xs X' fn (e1 :: es) true g hf h4
    have hs : starEach (e1 :: es) X'.env = (false, eval e1 X'.env) :: starEach es X'.env ∧ (backTo p (starEach es X'.env)).any (·.1) = false := by
      cases xs with
      | nil => simp [chkL] at h4
      | cons x xs =>
        simp only [chkL, Bool.and_eq_true] at h4
        exact ⟨notStar x _ _ _ h4.1.1 es _, starL h4.2 _ _⟩
    have := c_call (pos := p) (p0 := p0) g hfd h1 h2 pl hs.1 hs.2
    exact ⟨this, t_of this fun _ => rfl⟩
  | .pcall fr f xs, X', fn, e, g, hf, h => by
    obtain ⟨id, p0, e1, es, p, rfl, h1, h2, h3, h6, h4⟩ := v_pcall h
    obtain ⟨fd, hfd⟩ := fns_of h3
    have hfr : fr = true → fd.fr = true := fun q => g.frs f (h6 q) fd hfd
    have pl := l_ok xs X' fn (e1 :: es) _ g hf h4
    have hs : starEach (e1 :: es) X'.env = (false, eval e1 X'.env) :: starEach es X'.env ∧ (backTo p (starEach es X'.env)).any (·.1) = false := by
      cases xs with
      | nil => simp [chkL] at h4
      | cons x xs =>
        simp only [chkL, Bool.and_eq_true] at h4
        exact ⟨notStar x _ _ _ h4.1.1 es _, starL h4.2 _ _⟩
    have := c_pcall (pos := p) (p0 := p0) g hfd hfr h1 h2 pl hs.1 hs.2
    exact ⟨this, t_of this fun _ => rfl⟩
  | .rev a, X', fn, e, g, hf, h => by
    obtain ⟨v, k, p1, p2, p3, p, rfl, h1⟩ := v_rev h
    have := c_rev (pos := p) (k := k) (p1 := p1) (p2 := p2) (p3 := p3) (e_ok a X' fn v g hf h1).1
    exact ⟨this, t_of this fun _ => rfl⟩
  | .dnew, X', fn, e, g, hf, h => by
    obtain ⟨p, rfl⟩ := v_dnew h
    exact ⟨c_dnew, t_of c_dnew fun _ => rfl⟩
  | .dnew1 k v, X', fn, e, g, hf, h => by
    obtain ⟨ke, ve, p, rfl, h1, h2, h3, h4⟩ := v_dnew1 h
    have := c_dnew1 (pos := p) h3 h4 (e_ok k X' fn ke g hf h1).1 (e_ok v X' fn ve g hf h2).1
    exact ⟨this, t_of this fun _ => rfl⟩
  | .dget a k, X', fn, e, g, hf, h => by
    obtain ⟨v, s, p, rfl, h1, h2, h3, h4⟩ := v_dget h
    have := c_dget (pos := p) g.room (formE _ _ _ k _ h2).2.1 h3 h4 (e_ok a X' fn v g hf h1).1 (e_ok k X' fn s g hf h2).1
    exact ⟨this, t_of this fun _ => rfl⟩
  | .din neg k a, X', fn, e, g, hf, h => by
    obtain ⟨l, op, r, p, rfl, h0, h1, h2, h3, h4⟩ := v_din h
    have ma := nomarkE a _ fn _ h2 op
    exact ⟨c_din h0 g.room ma h3 h4 (e_ok a X' fn r g hf h2).1 (e_ok k X' fn l g hf h1).1, t_din h0 g.room ma h3 h4 (e_ok a X' fn r g hf h2).1 (e_ok k X' fn l g hf h1).1⟩
  | .dget2 a k d, X', fn, e, g, hf, h => by
    obtain ⟨o, nm, apos, e1, f1, cpos, rfl, h0, h1, h2, h3, h4, h5, h6, h7⟩ := v_dget2 h
    have := c_dget2 h0 g.room h1 h2 h3 h7 h4 h5 h6 (e_ok a X' fn o g hf h1).1 (e_ok k X' fn e1 g hf h2).1 (e_ok d X' fn f1 g hf h3).1
    exact ⟨this, t_of this fun _ => rfl⟩
  | .trng a, X', fn, e, g, hf, h => by
    obtain ⟨id, p0, id2, p1, e1, p2, p, rfl, h1, h2, h3, h4, h5⟩ := v_trng h
    have := c_trng (pos := p) (p0 := p0) (p1 := p1) (p2 := p2) g h1 h2 h3 h4 (e_ok a X' fn e1 g hf h5).1 (notStar a _ _ _ h5 [] _)
    exact ⟨this, t_of this fun _ => rfl⟩
  | .lrng a, X', fn, e, g, hf, h => by
    obtain ⟨id, p0, id2, p1, e1, p2, p, rfl, h1, h2, h3, h4, h5⟩ := v_lrng h
    have := c_lrng (pos := p) (p0 := p0) (p1 := p1) (p2 := p2) g h1 h2 h3 h4 (e_ok a X' fn e1 g hf h5).1 (notStar a _ _ _ h5 [] _)
    exact ⟨this, t_of this fun _ => rfl⟩
  | .bi b xs, X', fn, e, g, hf, h => by
    obtain ⟨id, p0, e1, es, p, rfl, h1, h2, h4⟩ := v_bi h
    have pl := l_ok xs X' fn (e1 :: es) false g hf h4
    have hs : starEach (e1 :: es) X'.env = (false, eval e1 X'.env) :: starEach es X'.env ∧ (backTo p (starEach es X'.env)).any (·.1) = false := by
      cases xs with
      | nil => simp [chkL] at h4
      | cons x xs =>
        simp only [chkL, Bool.and_eq_true] at h4
        exact ⟨notStar x _ _ _ h4.1.1 es _, starL h4.2 _ _⟩
    have := c_bi (pos := p) (p0 := p0) g h1 h2 pl hs.1 hs.2
    exact ⟨this, t_of this fun _ => rfl⟩
  | .isin a ts, X', fn, e, g, hf, h => by
    obtain ⟨id, p0, e1, p, h1, h2, h3, h4⟩ := v_isin h
    have pa := (e_ok a X' fn e1 g hf h3).1
    have he := fun es => notStar a _ _ _ h3 es X'.env
    rcases h4 with ⟨t, q, ty, rfl, rfl, h5, h6⟩ | ⟨es, k, q, rfl, h5, h6, h7⟩
    · have := c_is1 (pos := p) (p0 := p0) (p1 := q) g h1 h2 h5 h6 pa he
      exact ⟨this, t_of this fun _ => rfl⟩
    · have := c_isN (pos := p) (p0 := p0) (p1 := q) (k := k) g h1 h2 h5 h6 h7 pa he
      exact ⟨this, t_of this fun _ => rfl⟩
  | .sset a, X', fn, e, g, hf, h => by
    obtain ⟨id, p0, id2, p1, e1, p2, p, rfl, h1, h2, h3, h4, h5⟩ := v_sset h
    have := c_sset (pos := p) (p0 := p0) (p1 := p1) (p2 := p2) g h1 h2 h3 h4 (e_ok a X' fn e1 g hf h5).1 fun es => notStar a _ _ _ h5 es _
    exact ⟨this, t_of this fun _ => rfl⟩
  | .sm m a xs, X', fn, e, g, hf, h => by
    obtain ⟨o, nm, ap, e1, es, p, rfl, h1, h2, h3, h4, h5, h6⟩ := v_sm h
    have := c_sm h2 h1 h3 h4 h5 h6 (e_ok a X' fn o g hf h3).1 (l_ok xs X' fn (e1 :: es) false g hf h6)
    exact ⟨this, t_of this fun _ => rfl⟩
  | .comp own tg it c x, X', fn, e, g, hf, h => by
    obtain ⟨elt, t, i, ifs, scope, p, rfl, h1, h2, h3, h4, h5, h6, h7, h8, h9⟩ := v_comp h
    have hi : PI X' t i (tI X'.K (callF fns n) it) := i_ok it X' fn i t g hf h5 (fun q => two_form h2 (h6 q))
    have hfb : ∀ (s : Shared) (H : Hp) (D : Addr) (cl : List (Str × Addr)) (fp : List Addr), ∀ y, (fun x => scope.names.lookup x == some .cell) y = true → (X'.blk s H scope (compEnvC scope cl D X'.env) fp).fn y = true := fun s H D cl fp y q => q
    have := c_comp (pos := p) (own := own) (tg := tg) (it := it) (c := c) (e := x) (ifs := ifs) (t := t) (i := i) (elt := elt) (scope := scope) g.calm g.nd (blkOk_by h1) owns_map h3 hi h9
      (fun s H D cl fp => pg_T (X' := X'.blk s H scope (compEnvC scope cl D X'.env) fp) (C := ckOf fns cs X') g.calm g.nd rfl (hfb s H D cl fp) h2)
      (fun s H D cl fp => by
        rcases h7 with ⟨rfl, rfl⟩ | ⟨gg, rfl, h7⟩
        · exact ⟨fun pins s' σ H' Q I ⟨O, L, hh, ρ, b, h', cr, sl, ev, q⟩ => pts_nil.run pins s' σ H' Q I (by simp only [evE] at ev; cases ev; exact q H' L Stp.refl cr)⟩
        · exact pts_one (e_ok c (X'.blk s H scope (compEnvC scope cl D X'.env) fp) _ gg (g.blk s H scope _ fp) (hfb s H D cl fp) h7).2)
      (fun s H D cl fp => (e_ok x (X'.blk s H scope (compEnvC scope cl D X'.env) fp) _ elt (g.blk s H scope _ fp) (hfb s H D cl fp) h8).1)
      (fun v => folded_of (formI h5) _ v)
    exact ⟨this, t_of this fun _ => rfl⟩
  | .alloc a, X', fn, e, g, hf, h => by
    simp only [chkE, Bool.and_eq_true] at h
    refine ⟨c_alloc h.2 (e_ok a X' fn e g hf h.1).1, t_noBl fun ρ hh b h' ev => ?_⟩
    simp only [evE] at ev
    obtain ⟨⟨x, h1⟩, e1, ev⟩ := bs ev
    cases x <;> simp [allocD] at ev
theorem l_ok : ∀ (xs : List X) (X' : Cx) (fn : Str → Bool) (es : List Expr) (st : Bool), Gd fns cs n X' → (∀ y, fn y = true → X'.fn y = true) → chkL (ckOf fns cs X') fn X'.env.scope st xs es = true →
    PA X' es (tL X'.K (callF fns n) st xs)
  | [], X', fn, [], st, g, hf, h => l_nil
  | x :: xs, X', fn, e :: es, st, g, hf, h => by
    simp only [chkL, Bool.and_eq_true] at h
    exact l_cons (notStar x _ _ _ h.1.1 es _) h.1.2 (e_ok x X' fn e g hf h.1.1).1 (l_ok xs X' fn es st g hf h.2)
  | [], _, _, _ :: _, _, _, _, h => by simp [chkL] at h
  | _ :: _, _, _, [], _, _, _, h => by simp [chkL] at h
theorem a_ok : ∀ (xs : List X) (X' : Cx) (fn : Str → Bool) (es : List Expr) (k : Bool) (pos : Pos), Gd fns cs n X' → (∀ y, fn y = true → X'.fn y = true) → chkL (ckOf fns cs X') fn X'.env.scope true xs es = true → 1 ≤ xs.length →
    PE X' (.BoolOp (bop k) es pos) (tAn X'.K (callF fns n) k xs) ∧ PW X' (.BoolOp (bop k) es pos) (tAnT X'.K (callF fns n) k xs)
  | [], _, _, _, _, _, _, _, _, h => by simp at h
  | [x], X', fn, [e], k, pos, g, hf, h, _ => by
    simp only [chkL, Bool.and_eq_true] at h
    exact ⟨an_one (e_ok x X' fn e g hf h.1.1).1, ant_one (e_ok x X' fn e g hf h.1.1).2⟩
  | x :: y :: r, X', fn, e :: f :: es, k, pos, g, hf, h, _ => by
    have h' := h
    rw [chkL] at h'
    simp only [Bool.and_eq_true] at h'
    obtain ⟨q1, q2⟩ := a_ok (y :: r) X' fn (f :: es) k pos g hf h'.2 (by simp)
    exact ⟨an_cons (e_ok x X' fn e g hf h'.1.1).1 q1, ant_cons (e_ok x X' fn e g hf h'.1.1).2 q2⟩
  | [x], _, _, [], _, _, _, _, h, _ => by simp [chkL] at h
  | [x], _, _, _ :: _ :: _, _, _, _, _, h, _ => by simp [chkL] at h
  | _ :: _ :: _, _, _, [], _, _, _, _, h, _ => by simp [chkL] at h
  | _ :: _ :: _, _, _, [_], _, _, _, _, h, _ => by simp [chkL] at h
theorem i_ok : ∀ (it : It) (X' : Cx) (fn : Str → Bool) (i t : Expr), Gd fns cs n X' → (∀ y, fn y = true → X'.fn y = true) → chkI (ckOf fns cs X') fn X'.env.scope it i = true → (it.two = true → ∃ es k p, t = .Tuple es k p) →
    PI X' t i (tI X'.K (callF fns n) it)
  | .over a, X', fn, i, t, g, hf, h, ht => by
    simp only [chkI] at h
    exact i_over (e_ok a X' fn i g hf h).1
  | .rng a, X', fn, i, t, g, hf, h, ht => by
    cases i <;> (try (simp [chkI] at h; done))
    rename_i f es ks p
    cases f <;> (try (simp [chkI] at h; done))
    rcases es with _ | ⟨e1, _ | ⟨_, _⟩⟩ <;> (try (simp [chkI] at h; done))
    cases ks <;> (try (simp [chkI] at h; done))
    simp only [chkI, Bool.and_eq_true, decide_eq_true_eq] at h
    exact i_rng g.blt h.1.1 h.1.2 (e_ok a X' fn e1 g hf h.2).1 fun es => notStar a _ _ _ h.2 es _
  | .rng2 a b, X', fn, i, t, g, hf, h, ht => by
    cases i <;> (try (simp [chkI] at h; done))
    rename_i f es ks p
    cases f <;> (try (simp [chkI] at h; done))
    rcases es with _ | ⟨e1, _ | ⟨e2, _ | ⟨_, _⟩⟩⟩ <;> (try (simp [chkI] at h; done))
    cases ks <;> (try (simp [chkI] at h; done))
    simp only [chkI, Bool.and_eq_true, decide_eq_true_eq] at h
    exact i_rng2 g.blt h.1.1.1 h.1.1.2 (e_ok a X' fn e1 g hf h.1.2).1 (e_ok b X' fn e2 g hf h.2).1 (fun es => notStar a _ _ _ h.1.2 es _) fun es => notStar b _ _ _ h.2 es _
  | .enum a, X', fn, i, t, g, hf, h, ht => by
    obtain ⟨ets, ek, ep, rfl⟩ := ht rfl
    cases i <;> (try (simp [chkI] at h; done))
    rename_i f es ks p
    cases f <;> (try (simp [chkI] at h; done))
    rcases es with _ | ⟨e1, _ | ⟨_, _⟩⟩ <;> (try (simp [chkI] at h; done))
    cases ks <;> (try (simp [chkI] at h; done))
    simp only [chkI, Bool.and_eq_true, decide_eq_true_eq] at h
    exact i_enum g.blt h.1.1 h.1.2 (e_ok a X' fn e1 g hf h.2).1 fun es => notStar a _ _ _ h.2 es _
  | .zip a b, X', fn, i, t, g, hf, h, ht => by
    obtain ⟨ets, ek, ep, rfl⟩ := ht rfl
    cases i <;> (try (simp [chkI] at h; done))
    rename_i f es ks p
    cases f <;> (try (simp [chkI] at h; done))
    rcases es with _ | ⟨e1, _ | ⟨e2, _ | ⟨_, _⟩⟩⟩ <;> (try (simp [chkI] at h; done))
    cases ks <;> (try (simp [chkI] at h; done))
    simp only [chkI, Bool.and_eq_true, decide_eq_true_eq] at h
    exact i_zip g.blt h.1.1.1 h.1.1.2 (e_ok a X' fn e1 g hf h.1.2).1 (e_ok b X' fn e2 g hf h.2).1 (fun es => notStar a _ _ _ h.1.2 es _) fun es => notStar b _ _ _ h.2 es _
end
end
end Ev

namespace Ev
open PySem L2
section
variable {K : PySem.W.Frag}
/-- T: the lists that names of this def alone hold; B: what the callers hold -/
structure SLt (K : PySem.W.Frag) (T B L : List Addr) (h : Hs) (H : Hp) (ρ : Rho) (σ : St) : Prop where
  sl : SLs K (T ++ B) L h H ρ σ
  ow : ∀ (i : Nat) ds, ρ[i]? = some (.own ds) → ∀ a, σ[i]? = some (some (.ref a)) → a ∈ T
  ap : ∀ (i j : Nat) ds es a, ρ[i]? = some (.own ds) → ρ[j]? = some (.own es) → σ[i]? = some (some (.ref a)) → σ[j]? = some (some (.ref a)) → i = j
structure SStp (T L : List Addr) (h : Hs) (H : Hp) (T' L' : List Addr) (h' : Hs) (H' : Hp) : Prop where
  pre : ∀ (n : Nat) a, L[n]? = some a → L'[n]? = some a
  keep : ∀ a o, H a = some o → a ∉ T → a ∉ liveA h L → H' a = some o
  live : ∀ a ∈ liveA h' L', a ∈ liveA h L ∨ H a = none
  there : ∀ a o, H a = some o → ∃ o', H' a = some o'
  tn : ∀ a ∈ T', a ∈ T ∨ H a = none
theorem SStp.none {T L T' L' : List Addr} {h h' : Hs} {H H' : Hp} {a : Addr} (s : SStp T L h H T' L' h' H') (e : H' a = Option.none) : H a = Option.none := by
  cases q : H a with
  | none => rfl
  | some o =>
    obtain ⟨o', e'⟩ := s.there a o q
    rw [e] at e'; cases e'
theorem SStp.refl {T L : List Addr} {h : Hs} {H : Hp} : SStp T L h H T L h H := ⟨fun _ _ e => e, fun _ _ e _ _ => e, fun _ m => .inl m, fun _ o e => ⟨o, e⟩, fun _ m => .inl m⟩
theorem SStp.trans {T L T1 L1 T2 L2 : List Addr} {h h1 h2 : Hs} {H H1 H2 : Hp} (a : SStp T L h H T1 L1 h1 H1) (b : SStp T1 L1 h1 H1 T2 L2 h2 H2) : SStp T L h H T2 L2 h2 H2 where
  pre := fun n x e => b.pre n x (a.pre n x e)
  keep := fun x o e n m => b.keep x o (a.keep x o e n m)
    (fun q => by
      rcases a.tn x q with z | z
      · exact n z
      · rw [e] at z; cases z)
    (fun q => by
      rcases a.live x q with z | z
      · exact m z
      · rw [e] at z; cases z)
  live := fun x q => by
    rcases b.live x q with z | z
    · exact a.live x z
    · exact .inr (a.none z)
  there := fun x o e => by
    obtain ⟨o', e'⟩ := a.there x o e
    exact b.there x o' e'
  tn := fun x q => by
    rcases b.tn x q with z | z
    · exact a.tn x z
    · exact .inr (a.none z)
theorem Stp.ss {T L L' : List Addr} {h h' : Hs} {H H' : Hp} (s : Stp L h H L' h' H') : SStp T L h H T L' h' H' := ⟨s.pre, fun a o e _ m => s.keep a o e m, s.live, s.there, fun _ m => .inl m⟩
theorem SStp.st {L T' L' : List Addr} {h h' : Hs} {H H' : Hp} (s : SStp [] L h H T' L' h' H') : Stp L h H L' h' H' := ⟨s.pre, fun a o e m => s.keep a o e (by simp) m, s.live, s.there⟩
theorem SLt.stp {T B L L' : List Addr} {h h' : Hs} {H H' : Hp} {ρ : Rho} {σ : St} (c : CR K (T ++ B) L h H) (s : Stp L h H L' h' H') (r : SLt K T B L h H ρ σ) : SLt K T B L' h' H' ρ σ := ⟨r.sl.stp c s, r.ow, r.ap⟩
theorem SLt.own {T B L : List Addr} {h : Hs} {H : Hp} {ρ : Rho} {σ : St} (r : SLt K T B L h H ρ σ) {i : Nat} {ds : List D} (e : ρ[i]? = some (.own ds)) :
    ∃ a vs, σ[i]? = some (some (.ref a)) ∧ a ∈ T ∧ H a = some (.lst vs) ∧ vs.length ≤ sizeLine ∧ RepL K ((T ++ B) ++ liveA h L) L H ds vs := by
  obtain ⟨ov, e1, a, vs, rfl, m, hH, z, rr⟩ := r.sl.at_ i _ e
  exact ⟨a, vs, e1, r.ow i ds e a e1, hH, z, rr⟩
theorem set_get {α : Type} {l : List α} {i j : Nat} {x y : α} (e : (l.set i x)[j]? = some y) : (i = j ∧ i < l.length ∧ y = x) ∨ (i ≠ j ∧ l[j]? = some y) := by
  by_cases q : i = j
  · subst q
    by_cases hl : i < l.length
    · rw [List.getElem?_set_self hl] at e; exact .inl ⟨rfl, hl, (Option.some.inj e).symm⟩
    · rw [List.getElem?_eq_none (by rw [List.length_set]; omega)] at e; cases e
  · rw [List.getElem?_set_ne q] at e; exact .inr ⟨q, e⟩
theorem SLt.set {T B L : List Addr} {h : Hs} {H : Hp} {ρ : Rho} {σ : St} {i : Nat} {d : D} {v : V} (s : SLt K T B L h H ρ σ) (r : Rep K ((T ++ B) ++ liveA h L) L H d v) : SLt K T B L h H (ρ.set i (.val d)) (σ.set i (some v)) := by
  refine ⟨s.sl.set r, fun j ds e a e2 => ?_, fun j k ds es a e1 e2 e3 e4 => ?_⟩
  · rcases set_get e with ⟨_, _, q⟩ | ⟨q, e⟩
    · cases q
    · rw [List.getElem?_set_ne q] at e2
      exact s.ow j ds e a e2
  · rcases set_get e1 with ⟨_, _, q⟩ | ⟨q, e1⟩
    · cases q
    · rcases set_get e2 with ⟨_, _, q'⟩ | ⟨q', e2⟩
      · cases q'
      · rw [List.getElem?_set_ne q] at e3
        rw [List.getElem?_set_ne q'] at e4
        exact s.ap j k ds es a e1 e2 e3 e4
theorem SLt.setV : ∀ {is : List Nat} {ds : List D} {vs : List V} {T B L : List Addr} {h : Hs} {H : Hp} {ρ ρ' : Rho} {σ : St}, SLt K T B L h H ρ σ → RepL K ((T ++ B) ++ liveA h L) L H ds vs → setMany ρ is ds = some ρ' → SLt K T B L h H ρ' (Ev.setV σ is vs)
  | [], [], _, _, _, _, _, _, _, _, _, s, r, e => by
    simp only [setMany] at e
    cases e
    have := r.nil_inv
    subst this
    exact s
  | i :: is, d :: ds, _, _, _, _, _, _, _, _, _, s, r, e => by
    simp only [setMany] at e
    obtain ⟨v, vs, rfl, r1, r2⟩ := r.cons_inv
    exact SLt.setV (is := is) (ds := ds) (s.set r1) r2 e
  | [], _ :: _, _, _, _, _, _, _, _, _, _, s, r, e => by simp [setMany] at e
  | _ :: _, [], _, _, _, _, _, _, _, _, _, s, r, e => by simp [setMany] at e
/-- a new own list under a name -/
theorem SLt.new {T B L : List Addr} {h : Hs} {H : Hp} {ρ : Rho} {σ : St} {i : Nat} {ds : List D} {a : Addr} {vs : List V} (c : CR K (a :: (T ++ B)) L h H) (s : SLs K (T ++ B) L h H ρ σ)
    (ow : ∀ (i : Nat) ds, ρ[i]? = some (.own ds) → ∀ b, σ[i]? = some (some (.ref b)) → b ∈ T) (ap : ∀ (i j : Nat) ds es b, ρ[i]? = some (.own ds) → ρ[j]? = some (.own es) → σ[i]? = some (some (.ref b)) → σ[j]? = some (some (.ref b)) → i = j)
    (sm : SLs K (a :: (T ++ B)) L h H ρ σ) (hH : H a = some (.lst vs)) (z : vs.length ≤ sizeLine) (r : RepL K (a :: ((T ++ B) ++ liveA h L)) L H ds vs) : SLt K (a :: T) B L h H (ρ.set i (.own ds)) (σ.set i (some (.ref a))) := by
  have nT : a ∉ T := fun m => (List.nodup_cons.mp c.nd).1 (List.mem_append_left _ (List.mem_append_left _ m))
  refine ⟨⟨by rw [List.length_set, List.length_set, s.len], fun j x e => ?_⟩, fun j es e b e2 => ?_, fun j k es fs b e1 e2 e3 e4 => ?_⟩
  · rcases set_get e with ⟨q, hl, ex⟩ | ⟨q, e⟩
    · subst q ex
      exact ⟨some (.ref a), List.getElem?_set_self (by rw [← s.len]; exact hl), a, vs, rfl, List.mem_cons_self, hH, z, r⟩
    · rw [List.getElem?_set_ne q]
      exact sm.at_ j x e
  · rcases set_get e with ⟨q, hl, ex⟩ | ⟨q, e⟩
    · subst q
      rw [List.getElem?_set_self (by rw [← s.len]; exact hl)] at e2
      cases e2
      exact List.mem_cons_self
    · rw [List.getElem?_set_ne q] at e2
      exact List.mem_cons_of_mem _ (ow j es e b e2)
  · rcases set_get e1 with ⟨q, hl, ex⟩ | ⟨q, e1⟩ <;> rcases set_get e2 with ⟨q', hl', ex'⟩ | ⟨q', e2⟩
    · rw [← q, ← q']
    · subst q
      rw [List.getElem?_set_self (by rw [← s.len]; exact hl)] at e3
      cases e3
      rw [List.getElem?_set_ne q'] at e4
      exact absurd (ow k fs e2 a e4) nT
    · subst q'
      rw [List.getElem?_set_self (by rw [← s.len]; exact hl')] at e4
      cases e4
      rw [List.getElem?_set_ne q] at e3
      exact absurd (ow j es e1 a e3) nT
    · rw [List.getElem?_set_ne q] at e3
      rw [List.getElem?_set_ne q'] at e4
      exact ap j k es fs b e1 e2 e3 e4
/-- an own list is changed -/
theorem SLt.mut {T B L : List Addr} {h : Hs} {H : Hp} {ρ : Rho} {σ : St} {i : Nat} {ds ds' : List D} {a : Addr} {vs' : List V} (s : SLt K T B L h H ρ σ) (e : ρ[i]? = some (.own ds)) (ea : σ[i]? = some (some (.ref a))) (ha : a ∈ T)
    (z : vs'.length ≤ sizeLine) (r : RepL K ((T ++ B) ++ liveA h L) L H ds' vs') : SLt K T B L h (upd H a (.lst vs')) (ρ.set i (.own ds')) σ := by
  have hM : a ∈ (T ++ B) ++ liveA h L := List.mem_append_left _ (List.mem_append_left _ ha)
  refine ⟨⟨by rw [List.length_set, s.sl.len], fun j x e' => ?_⟩, fun j es e' b e2 => ?_, fun j k es fs b e1 e2 e3 e4 => ?_⟩
  · rcases set_get e' with ⟨q, hl, ex⟩ | ⟨q, e'⟩
    · subst q ex
      exact ⟨_, ea, a, vs', rfl, List.mem_append_left _ ha, upd_same, z, RepL.mv (mv_mut hM) _ _ r⟩
    · obtain ⟨ov, e1, ok⟩ := s.sl.at_ j x e'
      refine ⟨ov, e1, ?_⟩
      cases x with
      | un => trivial
      | val d =>
        obtain ⟨v, ev, rr⟩ := ok
        exact ⟨v, ev, Rep.mv (mv_mut hM) d v rr⟩
      | own es =>
        obtain ⟨b, ws, ev, hb, hH, zz, rr⟩ := ok
        subst ev
        have hne : b ≠ a := fun w => q (s.ap i j ds es a e e' ea (by rw [← w]; exact e1))
        exact ⟨b, ws, rfl, hb, by rw [upd_ne hne]; exact hH, zz, RepL.mv (mv_mut hM) es ws rr⟩
      | ownd _ _ _ => exact ok.elim
  · rcases set_get e' with ⟨q, hl, ex⟩ | ⟨q, e'⟩
    · subst q
      exact s.ow i ds e b e2
    · exact s.ow j es e' b e2
  · have c1 : ∃ es', ρ[j]? = some (.own es') := by
      rcases set_get e1 with ⟨q, hl, ex⟩ | ⟨q, e1⟩
      · subst q; exact ⟨_, e⟩
      · exact ⟨_, e1⟩
    have c2 : ∃ es', ρ[k]? = some (.own es') := by
      rcases set_get e2 with ⟨q, hl, ex⟩ | ⟨q, e2⟩
      · subst q; exact ⟨_, e⟩
      · exact ⟨_, e2⟩
    obtain ⟨_, c1⟩ := c1
    obtain ⟨_, c2⟩ := c2
    exact s.ap j k _ _ b c1 c2 e3 e4
theorem SStp.mutT {T L T' L' : List Addr} {h h' : Hs} {H H' : Hp} {a : Addr} {o : HO} (s : SStp T L h H T' L' h' H') (ha : a ∈ T') : SStp T L h H T' L' h' (upd H' a o) where
  pre := s.pre
  keep := fun b x e n m => by
    have hne : b ≠ a := fun q => by
      subst q
      rcases s.tn b ha with z | z
      · exact n z
      · rw [e] at z; cases z
    rw [upd_ne hne]; exact s.keep b x e n m
  live := s.live
  there := fun b x e => by
    by_cases q : b = a
    · subst q; exact ⟨o, upd_same⟩
    · rw [upd_ne q]; exact s.there b x e
  tn := s.tn
/-- an own list is a value now -/
theorem SLt.frz {T B L : List Addr} {h : Hs} {H : Hp} {ρ : Rho} {σ : St} {i : Nat} {ds : List D} (c : CR K (T ++ B) L h H) (s : SLt K T B L h H ρ σ) (e : ρ[i]? = some (.own ds)) :
    ∃ T', SLt K T' B L h H (ρ.set i (.val (.lst ds))) σ ∧ CR K (T' ++ B) L h H ∧ List.Sublist T' T := by
  obtain ⟨a, vs, e1, m, hH, z, r⟩ := s.own e
  have sub : List.Sublist (T.erase a) T := List.erase_sublist
  have sub2 : List.Sublist (T.erase a ++ B) (T ++ B) := List.Sublist.append sub (List.Sublist.refl _)
  have ndT : T.Nodup := (List.nodup_append.mp (List.nodup_append.mp c.nd).1).1
  have na : a ∉ (T.erase a ++ B) ++ liveA h L := fun q => by
    have nd := c.nd
    rcases List.mem_append.mp q with q | q
    · rcases List.mem_append.mp q with q | q
      · exact (List.Nodup.mem_erase_iff ndT).mp q |>.1 rfl
      · exact (List.nodup_append.mp (List.nodup_append.mp nd).1).2.2 a m a q rfl
    · exact c.not_live (List.mem_append_left _ m) q
  have mv : Mv ((T ++ B) ++ liveA h L) ((T.erase a ++ B) ++ liveA h L) L L H H := mv_sub fun b q => (List.Sublist.append sub2 (List.Sublist.refl _)).subset q
  refine ⟨T.erase a, ⟨⟨by rw [List.length_set, s.sl.len], fun j x e' => ?_⟩, fun j es e' b e2 => ?_, fun j k es fs b q1 q2 q3 q4 => ?_⟩, c.less sub2, sub⟩
  · rcases set_get e' with ⟨q, hl, ex⟩ | ⟨q, e'⟩
    · subst q ex
      refine ⟨_, e1, .ref a, rfl, ?_⟩
      simp only [Rep]
      exact ⟨a, vs, rfl, hH, na, z, RepL.mv mv ds vs r⟩
    · obtain ⟨ov, e3, ok⟩ := s.sl.at_ j x e'
      refine ⟨ov, e3, ?_⟩
      cases x with
      | un => trivial
      | val d =>
        obtain ⟨v, ev, rr⟩ := ok
        exact ⟨v, ev, Rep.mv mv d v rr⟩
      | own es =>
        obtain ⟨b, ws, ev, hb, hH, zz, rr⟩ := ok
        subst ev
        have hne : b ≠ a := fun w => q (s.ap i j ds es a e e' e1 (by rw [← w]; exact e3))
        refine ⟨b, ws, rfl, ?_, hH, zz, RepL.mv mv es ws rr⟩
        exact List.mem_append_left _ ((List.Nodup.mem_erase_iff ndT).mpr ⟨hne, s.ow j es e' b e3⟩)
      | ownd _ _ _ => exact ok.elim
  · rcases set_get e' with ⟨q, hl, ex⟩ | ⟨q, e'⟩
    · cases ex
    · have hne : b ≠ a := fun w => q (s.ap i j ds es a e e' e1 (by rw [← w]; exact e2))
      exact (List.Nodup.mem_erase_iff ndT).mpr ⟨hne, s.ow j es e' b e2⟩
  · rcases set_get q1 with ⟨q, hl, ex⟩ | ⟨q, q1⟩
    · cases ex
    · rcases set_get q2 with ⟨q', hl, ex⟩ | ⟨q', q2⟩
      · cases ex
      · exact s.ap j k es fs b q1 q2 q3 q4

theorem live_inj : ∀ {h : Hs} {L : List Addr} {n m : Nat} {a : Addr} {c c' : Cell}, (liveA h L).Nodup → h[n]? = some c → L[n]? = some a → c ≠ .dead → h[m]? = some c' → L[m]? = some a → c' ≠ .dead → n = m
  | [], _, n, m, _, _, _, _, e, _, _, _, _, _ => by simp at e
  | _ :: _, [], n, m, _, _, _, _, _, e, _, _, _, _ => by simp at e
  | x :: h, b :: L, n, m, a, c, c', nd, e1, e2, e3, f1, f2, f3 => by
    have key : ∀ {k : Nat} {d : Cell}, x ≠ .dead → h[k]? = some d → L[k]? = some b → d ≠ .dead → False := fun {k d} hx q1 q2 q3 => by
      have ml := mem_live q1 q2 q3
      cases x <;> first
        | exact hx rfl
        | (simp only [liveA] at nd; exact (List.nodup_cons.mp nd).1 ml)
    have nd' : (liveA h L).Nodup := by
      cases x <;> simp only [liveA] at nd <;> first | exact nd | exact (List.nodup_cons.mp nd).2
    cases n with
    | zero =>
      simp at e1 e2
      subst e1 e2
      cases m with
      | zero => rfl
      | succ m => exact (key e3 (by simpa using f1) (by simpa using f2) f3).elim
    | succ n =>
      cases m with
      | zero =>
        simp at f1 f2
        subst f1 f2
        exact (key f3 (by simpa using e1) (by simpa using e2) e3).elim
      | succ m => rw [live_inj (h := h) (L := L) (n := n) (m := m) nd' (by simpa using e1) (by simpa using e2) e3 (by simpa using f1) (by simpa using f2) f3]
theorem liveA_set {x y : List D} : ∀ {h : Hs} {L : List Addr} {n : Nat}, h[n]? = some (.lst x) → liveA (h.set n (.lst y)) L = liveA h L
  | [], _, n, e => by simp at e
  | c :: h, [], n, e => by cases n <;> cases c <;> simp [liveA]
  | c :: h, a :: L, 0, e => by
    simp at e
    subst e
    simp [liveA]
  | c :: h, a :: L, n + 1, e => by
    have ih := liveA_set (y := y) (h := h) (L := L) (n := n) (by simpa using e)
    cases c <;> simp [liveA, ih]
theorem cr_setc {O L : List Addr} {h : Hs} {H : Hp} {n : Nat} {a : Addr} {xs ys : List D} {vs : List V} (c : CR K O L h H) (e : h[n]? = some (.lst xs)) (el : L[n]? = some a) (z : vs.length ≤ sizeLine) (r : RepL K (O ++ liveA h L) L H ys vs) :
    CR K O L (h.set n (.lst ys)) (upd H a (.lst vs)) ∧ Stp L h H L (h.set n (.lst ys)) (upd H a (.lst vs)) := by
  have hl : a ∈ liveA h L := mem_live e el (by simp)
  have hM : a ∈ O ++ liveA h L := List.mem_append_right _ hl
  have es := liveA_set (y := ys) (L := L) e
  refine ⟨⟨by rw [List.length_set]; exact c.ll, by rw [es]; exact c.nd, fun b m => ?_, fun m x ex => ?_⟩, ⟨fun _ _ q => q, fun b o q m => ?_, fun b m => ?_, fun b o q => ?_⟩⟩
  · by_cases q : b = a
    · subst q; exact ⟨_, upd_same⟩
    · obtain ⟨o, q'⟩ := c.ot b m
      exact ⟨o, by rw [upd_ne q]; exact q'⟩
  · rw [es]
    rcases set_get ex with ⟨q, hl2, q2⟩ | ⟨q, ex⟩
    · subst q q2
      exact ⟨a, el, vs, upd_same, z, RepL.mv (mv_mut hM) _ _ r⟩
    · obtain ⟨b, eb, ok⟩ := c.ce m x ex
      refine ⟨b, eb, ?_⟩
      cases x with
      | dead => trivial
      | lst ds =>
        have hne : b ≠ a := fun w => q (live_inj (List.nodup_append.mp c.nd).2.1 e el (by simp) ex (by rw [← w]; exact eb) (by simp))
        exact CellOk.mv (mv_mut hM) (fun y w => by rw [upd_ne hne]; exact w) ok
      | dct _ _ _ =>
        have hne : b ≠ a := fun w => q (live_inj (List.nodup_append.mp c.nd).2.1 e el (by simp) ex (by rw [← w]; exact eb) (by simp))
        exact CellOk.mv (mv_mut hM) (fun y w => by rw [upd_ne hne]; exact w) ok
      | ins _ _ => exact ok.elim
  · rw [upd_ne (fun w => m (by rw [w]; exact hl))]; exact q
  · rw [es] at m; exact .inl m
  · by_cases w : b = a
    · subst w; exact ⟨_, upd_same⟩
    · exact ⟨o, by rw [upd_ne w]; exact q⟩
end

def muName : Mu → Str
  | .append => "append" | .extend => "extend" | .pop => "pop" | .popat => "pop" | .insert => "insert" | .remove => "remove" | .reverse => "reverse" | .setix => "__setitem__"
def muId : Mu → String
  | .append => "list.append" | .extend => "list.extend" | .pop => "list.pop" | .popat => "list.pop" | .insert => "list.insert" | .remove => "list.remove" | .reverse => "list.reverse" | .setix => "list.__setitem__"
/-- arguments may be looked at alone -/
def muSt : Mu → Bool
  | .extend => false
  | _ => true
def rMu (K : PySem.W.Frag) : Mu → V → List V → Hp → VK → Prop
  | .append => rAppend
  | .extend => fun x vs H Q => rExtend x vs H Q ∨ rExtendT K x vs H Q
  | .pop => rPop
  | .popat => rPopAt
  | .reverse => rReverse
  | .insert => fun x vs H Q => ∃ (l : Addr) (xs : List V) (i : Int) (y : V), x = .ref l ∧ vs = [.int i, y] ∧ H l = some (.lst xs) ∧ xs.length < sizeLine ∧ 0 ≤ i ∧ i < 2 ^ 63 ∧ Q .non (upd H l (.lst (xs.take i.toNat ++ [y] ++ xs.drop i.toNat)))
  | _ => fun _ _ _ _ => False
theorem mt_mu {X : Cx} : ∀ m : Mu, MtR X (muId m) (rMu X.K m)
  | .append => mt_append
  | .extend => fun pins s σ H x vs v us Q I rx rv h => by
    rcases h with h | h
    · exact mt_extend pins s σ H x vs v us Q I rx rv h
    · exact mt_extendT pins s σ H x vs v us Q I rx rv h
  | .pop => mt_pop
  | .popat => mt_popAt
  | .reverse => mt_reverse
  | .insert => mt_insert
  | .remove => fun _ _ _ _ _ _ _ _ _ _ _ _ h => h.elim
  | .setix => fun _ _ _ _ _ _ _ _ _ _ _ _ h => h.elim
section
variable {K : PySem.W.Frag} {O L : List Addr} {h : Hs} {H : Hp}
theorem muL_run {m : Mu} {a : Addr} {ys ds : List D} {us vs : List V} {r : List D × D} {Q : VK} (hH : H a = some (.lst us)) (z : us.length ≤ sizeLine) (ry : RepL K (O ++ liveA h L) L H ys us) (rd : Paired (RV K (muSt m) O L h H) ds vs)
    (e : muL m ys ds = some r) (hm : m ≠ .setix) (q : ∀ v us', us'.length ≤ sizeLine → RepL K (O ++ liveA h L) L H r.1 us' → Rep K (O ++ liveA h L) L H r.2 v → Q v (upd H a (.lst us'))) : rMu K m (.ref a) vs H Q := by
  have hll : lim ≤ sizeLine := lim_le
  have hl := ry.length
  unfold muL at e
  split at e
  · split at e
    · rename_i g
      cases e
      have rd := repL_of rd
      obtain ⟨v, _, rfl, r1, r2⟩ := rd.cons_inv
      have := r2.nil_inv
      subst this
      exact ⟨a, us, v, rfl, rfl, hH, by omega, q _ _ (by simp; omega) (ry.append (RepL.one r1)) rep_non⟩
    · cases e
  · split at e
    · rename_i ws g
      cases e
      obtain ⟨x, rfl, r⟩ := pair1 (repB_of rd)
      obtain ⟨p, us2, rfl, t, zz, r2⟩ := rb_lst r
      have hl2 := r2.length
      exact .inl ⟨a, p, us, us2, rfl, rfl, hH, t, by omega, q _ _ (by rw [List.length_append]; omega) (ry.append r2) rep_non⟩
    · cases e
  · split at e
    · rename_i ws g
      cases e
      obtain ⟨x, rfl, r⟩ := pair1 (repB_of rd)
      obtain ⟨p, us2, rfl, t, zz, r2⟩ := rb_tup r
      have hl2 := r2.length
      exact .inr ⟨a, p, us, us2, rfl, rfl, hH, t, by omega, q _ _ (by rw [List.length_append]; omega) (ry.append r2) rep_non⟩
    · cases e
  · split at e
    · rename_i y hy
      cases e
      have rd := repL_of rd
      have := rd.nil_inv
      subst this
      rw [← hl] at hy
      obtain ⟨v, hv, rv⟩ := ry.get hy
      refine ⟨a, us, v, rfl, rfl, hH, hv, q _ _ (by rw [List.length_dropLast]; omega) ?_ rv⟩
      rw [List.dropLast_eq_take, List.dropLast_eq_take, hl]
      exact ry.take _
    · cases e
  · split at e
    · rename_i k hk
      split at e
      · rename_i y hy
        cases e
        have rd := repL_of rd
        obtain ⟨v, _, rfl, r1, r2⟩ := rd.cons_inv
        have := r2.nil_inv
        subst this
        simp only [Rep] at r1
        subst r1
        rw [← hl] at hk
        obtain ⟨h1, h2, h3, h4⟩ := ixN_seq hk
        obtain ⟨w, hw, rw'⟩ := ry.get hy
        have hn := line63
        refine ⟨a, us, _, k, w, rfl, rfl, hH, by omega, by omega, h1, hw, q _ _ ?_ (ry.erase k) rw'⟩
        have := len_erase us k
        omega
      · cases e
    · cases e
  · cases e
    have rd := repL_of rd
    have := rd.nil_inv
    subst this
    exact ⟨a, us, rfl, rfl, hH, q _ _ (by rw [List.length_reverse]; exact z) ry.reverse rep_non⟩
  · split at e
    · rename_i i y g
      cases e
      have rd := repL_of rd
      obtain ⟨v, _, rfl, r1, r2⟩ := rd.cons_inv
      obtain ⟨w, _, rfl, r3, r4⟩ := r2.cons_inv
      have := r4.nil_inv
      subst this
      simp only [Rep] at r1
      subst r1
      refine ⟨a, us, i, w, rfl, rfl, hH, by omega, g.2.1, by omega, q _ _ ?_ (((ry.take _).append (RepL.one r3)).append (ry.drop _)) rep_non⟩
      simp only [List.length_append, List.length_take, List.length_drop, List.length_singleton]
      omega
    · cases e
  · exact absurd rfl hm
  · cases e
end
end Ev

namespace Ev
open PySem L2
section
variable {K : PySem.W.Frag}
theorem liveA_setC {c1 c2 : Cell} (n1 : c1 ≠ .dead) (n2 : c2 ≠ .dead) : ∀ {h : Hs} {L : List Addr} {n : Nat}, h[n]? = some c1 → liveA (h.set n c2) L = liveA h L
  | [], _, n, e => by simp at e
  | c :: h, [], 0, e => by cases c <;> cases c2 <;> simp [liveA]
  | c :: h, [], n + 1, e => by cases c <;> simp [liveA]
  | c :: h, a :: L, 0, e => by
    simp at e
    subst e
    cases c <;> cases c2 <;> simp [liveA] at n1 n2 ⊢
  | c :: h, a :: L, n + 1, e => by
    have ih := liveA_setC n1 n2 (h := h) (L := L) (n := n) (by simpa using e)
    cases c <;> simp [liveA, ih]
theorem cr_setC {O L : List Addr} {h : Hs} {H : Hp} {n : Nat} {a : Addr} {c1 c2 : Cell} {o : HO} (c : CR K O L h H) (n1 : c1 ≠ .dead) (n2 : c2 ≠ .dead) (e : h[n]? = some c1) (el : L[n]? = some a)
    (ok : CellOk K (O ++ liveA h L) L (upd H a o) a c2) : CR K O L (h.set n c2) (upd H a o) ∧ Stp L h H L (h.set n c2) (upd H a o) := by
  have hl : a ∈ liveA h L := mem_live e el n1
  have hM : a ∈ O ++ liveA h L := List.mem_append_right _ hl
  have es := liveA_setC n1 n2 (L := L) e
  refine ⟨⟨by rw [List.length_set]; exact c.ll, by rw [es]; exact c.nd, fun b m => ?_, fun m x ex => ?_⟩, ⟨fun _ _ q => q, fun b o q m => ?_, fun b m => ?_, fun b o q => ?_⟩⟩
  · by_cases q : b = a
    · subst q; exact ⟨_, upd_same⟩
    · obtain ⟨o, q'⟩ := c.ot b m
      exact ⟨o, by rw [upd_ne q]; exact q'⟩
  · rw [es]
    rcases set_get ex with ⟨q, hl2, q2⟩ | ⟨q, ex⟩
    · subst q q2
      exact ⟨a, el, ok⟩
    · obtain ⟨b, eb, ok⟩ := c.ce m x ex
      refine ⟨b, eb, ?_⟩
      by_cases dx : x = .dead
      · subst dx; trivial
      · have hne : b ≠ a := fun w => q (live_inj (List.nodup_append.mp c.nd).2.1 e el n1 ex (by rw [← w]; exact eb) dx)
        exact CellOk.mv (mv_mut hM) (fun y w => by rw [upd_ne hne]; exact w) ok
  · rw [upd_ne (fun w => m (by rw [w]; exact hl))]; exact q
  · rw [es] at m; exact .inl m
  · by_cases w : b = a
    · subst w; exact ⟨_, upd_same⟩
    · exact ⟨o, by rw [upd_ne w]; exact q⟩
theorem dputC_nd (ks vs : List D) (k v : D) (q : Key) : dputC ks vs k v q ≠ .dead := by
  unfold dputC
  split <;> simp
end
end Ev

namespace Ev
open PySem L2

/-- does a comprehension's store swap with its end -/
def swB (sc : Scope) (t : Str) (tl : Nat) : Expr → Bool
  | .ListComp _ _ scope p => decide (sc.names.lookup t = some .local) && (tl == p.line) && !(scope.names.any fun (n, k) => n == t && (k == .local || k == .cell))
  | _ => false
def noLC : Expr → Bool
  | .ListComp .. => false
  | .SetComp .. => false
  | .DictComp .. => false
  | _ => true
def noSD : Expr → Bool
  | .SetComp .. => false
  | .DictComp .. => false
  | _ => true
def X.isComp : X → Bool
  | .comp _ _ _ _ _ => true
  | _ => false
/-- the stores of a tuple display: in which order (none: not known) -/
def swapN (sc : Scope) (ts vs : List Expr) : Option (Option (List Str)) :=
  if (!(ts.length == 2 || ts.length == 3) || vs.length != ts.length) = true then some none
  else if (vs.any fun | .Starred .. => true | _ => false) = true then some none
  else
    let line := (ts.head?.map (·.pos.line)).getD 0
    let names := ts.filterMap fun
      | .Name id pos => if sc.names.lookup id == some .local && pos.line == line then some id else none
      | _ => none
    if (names.length != ts.length || names.eraseDups.length != names.length) = true then some none
    else if vs.all (foldedForSure 8) = true then some none
    else if vs.all (constantsAlone 8) = true then none
    else some (some names)
def namesOf : List Expr → List Str
  | .Name id _ :: es => id :: namesOf es
  | _ => []
def storesB (C : Ck) (sc : Scope) (is : List Nat) (x : X) (ts : List Expr) : Expr → Bool
  | .Tuple vs _ _ => (decide (swapN sc ts vs = some none)) ||
      (decide (swapN sc ts vs = some (some (namesOf ts))) && stMany C (fun _ => false) sc is ts && decide is.Nodup && decide (is.length = 2 ∨ is.length = 3) && decide (sc.kind = .function) && (match x with | .tup _ => true | _ => false))
  | _ => true
def setB (C : Ck) (fn : Str → Bool) (sc : Scope) (i : Nat) (id : Str) (p : Pos) (x : X) (e : Expr) : Bool :=
  stB C fn sc i id && chkE C fn sc x e && noSD e && (!swB sc id p.line e || (x.isComp && decide (sc.kind = .function)))
def chkSet (C : Ck) (fn : Str → Bool) (sc : Scope) (i : Nat) (x : X) (e : Expr) : List Expr → Bool
  | [.Name id p] => setB C fn sc i id p x e
  | _ => false
def chkTup (C : Ck) (fn : Str → Bool) (sc : Scope) (is : List Nat) (x : X) (e : Expr) : List Expr → Bool
  | [.Tuple ts k p] => chkT C fn sc (.tp is) (.Tuple ts k p) && chkE C fn sc x e && !x.isBor && storesB C sc is x ts e && (decide (sc.kind = .function))
  | _ => false
def chkMu (C : Ck) (fn : Str → Bool) (sc : Scope) (m : Mu) (i : Nat) (xs : List X) : Expr → Bool
  | .Call (.Attribute (.Name id p) nm ap) es [] cp => nameB C sc i id && decide (nm = muName m) && decide (m ≠ .setix) && decide (ap.endLine = cp.line) && decide (xs.length ≤ 8) && chkL C fn sc (muSt m) xs es
  | _ => false
def chkSetix (C : Ck) (fn : Str → Bool) (sc : Scope) (m : Mu) (i : Nat) (e : Expr) : List X → List Expr → Bool
  | [v, k], [.Subscript (.Name id _) ke _] => decide (m = .setix) && nameB C sc i id && chkE C fn sc v e && !v.isBor && chkE C fn sc k ke
  | _, _ => false
def chkOne (C : Ck) (fn : Str → Bool) (sc : Scope) (tg : Tg) : List Expr → Bool
  | [t] => chkT C fn sc tg t
  | _ => false
def chkCset (C : Ck) (fn : Str → Bool) (sc : Scope) (o k v : X) (e : Expr) : List Expr → Bool
  | [.Subscript oe ke _] => chkE C fn sc v e && !v.isBor && chkE C fn sc o oe && chkE C fn sc k ke
  | _ => false
/-- those that alone hold a new list -/
def flB : List Bool → List X → Bool
  | [], [] => true
  | f :: fl, x :: xs => (!f || x.fresh) && flB fl xs
  | _, _ => false
def chkPar (C : Ck) (fn : Str → Bool) (sc : Scope) (is : List Nat) (fl : List Bool) (xs : List X) : List Expr → Expr → Bool
  | [.Tuple ts _ _], .Tuple vs _ _ => decide (swapN sc ts vs = some (some (namesOf ts))) && stMany C (fun _ => false) sc is ts && decide is.Nodup && decide (is.length = 2 ∨ is.length = 3) && decide (sc.kind = .function) && chkL C fn sc true xs vs && flB fl xs
  | _, _ => false
mutual
def chkS (C : Ck) (fn : Str → Bool) (sc : Scope) : S → Stmt → Bool
  | .expr x, .Expr e _ => chkE C fn sc x e && noLC e
  | .asg (.nm i) x, .Assign ts e _ => chkSet C fn sc i x e ts && !x.isBor
  | .asg (.tp is) x, .Assign ts e _ => chkTup C fn sc is x e ts
  | .own i x, .Assign ts e _ => chkSet C fn sc i x e ts && x.fresh
  | .mut m i xs, .Expr e _ => chkMu C fn sc m i xs e
  | .mut m i xs, .Assign ts e _ => chkSetix C fn sc m i e xs ts
  | .popv tg m i xs, .Assign ts e _ => chkMu C fn sc m i xs e && chkOne C fn sc tg ts
  | .cset o k v, .Assign ts e _ => chkCset C fn sc o k v e ts
  | .dput o k v, .Assign ts e _ => chkCset C fn sc o k v e ts && !o.isBor && !k.isBor
  | .ife c a b, .If ce as bs _ => chkE C fn sc c ce && chkSs C fn sc a as && chkSs C fn sc b bs
  | .fors tg it b, .For t i body [] _ => chkT C fn sc tg t && chkI C fn sc it i && (!it.two || tg.isTp) && !it.isBor && chkSs C fn sc b body
  | .whil c b, .While ce body [] _ => chkE C fn sc c ce && chkSs C fn sc b body
  | .par is fl xs, .Assign ts e _ => chkPar C fn sc is fl xs ts e
  | .reto i, .Return (some (.Name id _)) _ => nameB C sc i id
  | .retf x, .Return (some e) _ => chkE C fn sc x e && !x.isBor
  | .ret x, .Return (some e) _ => chkE C fn sc x e && !x.isBor
  | .retn, .Return none _ => true
  | .brk, .Break _ => true
  | .cnt, .Continue _ => true
  | .pas, .Pass _ => true
  | _, _ => false
def chkSs (C : Ck) (fn : Str → Bool) (sc : Scope) : List S → List Stmt → Bool
  | [], [] => true
  | .frz _ :: r, ts => chkSs C fn sc r ts
  | s :: r, t :: ts => chkS C fn sc s t && chkSs C fn sc r ts
  | _, _ => false
end

section
variable {K : PySem.W.Frag}
def EQ (K : PySem.W.Frag) (T B : List Addr) (D : Ends) (f : Fl) (L : List Addr) (h : Hs) (σ : St) (H : Hp) : Prop := match f with
  | .nx => D.nx σ H
  | .bk => D.bk σ H
  | .ct => D.ct σ H
  | .rt d => ∀ v, Rep K (B ++ liveA h L) L H d v → D.rt v H
  | .rf d => ∀ v T0, (∀ a ∈ T0, a ∈ T) → CR K (T0 ++ B) L h H → VF K B T0 L h H d v → D.rt v H
def tRun (K : PySem.W.Frag) (run : Rho → Hs → SR) : TS := fun D σ H => ∃ T B L h ρ f ρ' h', CR K (T ++ B) L h H ∧ SLt K T B L h H ρ σ ∧ run ρ h = some (f, ρ', h') ∧
  ∀ T' σ' H' L', SStp T L h H T' L' h' H' → CR K (T' ++ B) L' h' H' → SLt K T' B L' h' H' ρ' σ' → EQ K T' B D f L' h' σ' H'
theorem SStp.mv {T B L T' L' : List Addr} {h h' : Hs} {H H' : Hp} (s : SStp T L h H T' L' h' H') : Mv ((T ++ B) ++ liveA h L) ((T' ++ B) ++ liveA h' L') L L' H H' where
  at_ := fun a o e n => by
    simp only [List.mem_append, not_or] at n ⊢
    refine ⟨s.keep a o e n.1.1 n.2, ⟨fun q => ?_, n.1.2⟩, fun q => ?_⟩
    · rcases s.tn a q with z | z
      · exact n.1.1 z
      · rw [e] at z; cases z
    · rcases s.live a q with z | z
      · exact n.2 z
      · rw [e] at z; cases z
  ls := s.pre
theorem rep_down {T B L : List Addr} {h : Hs} {H : Hp} {d : D} {v : V} (r : Rep K ((T ++ B) ++ liveA h L) L H d v) : Rep K (B ++ liveA h L) L H d v :=
  Rep.mv (mv_sub fun b m => by
    simp only [List.mem_append] at m ⊢
    rcases m with m | m
    · exact .inl (.inr m)
    · exact .inr m) d v r
end
section
variable {n : Nat} {X' : Cx} {Γ : FT} {pos : Pos} {C : Ck} {fn : Str → Bool}
theorem ps_weak {s : Stmt} {t t' : TS} (p : PS X' s t) (h : ∀ D σ H, t' D σ H → t D σ H) : PS X' s t' := ⟨fun pins s σ H D I q => p.run pins s σ H D I (h D σ H q)⟩
theorem pss_weak {s : List Stmt} {t t' : TS} (p : PSs X' s t) (h : ∀ D σ H, t' D σ H → t D σ H) : PSs X' s t' := ⟨fun pins s σ H D I q => p.run pins s σ H D I (h D σ H q)⟩
theorem run_nil : PSs X' [] (tRun X'.K (evSs Γ [])) := pss_weak pss_nil fun D σ H ⟨T, B, L, h, ρ, f, ρ', h', c, sl, ev, q⟩ => by
  simp only [evSs] at ev
  cases ev
  exact q T σ H L SStp.refl c sl
theorem run_cons {s : S} {ss : List S} {t : Stmt} {ts : List Stmt} (p : PS X' t (tRun X'.K (evS Γ s))) (ps : PSs X' ts (tRun X'.K (evSs Γ ss))) : PSs X' (t :: ts) (tRun X'.K (evSs Γ (s :: ss))) := by
  refine pss_weak (pss_cons p ps) fun D σ H ⟨T, B, L, h, ρ, f, ρ', h', c, sl, ev, q⟩ => ?_
  simp only [evSs] at ev
  obtain ⟨⟨f1, ρ1, h1⟩, e1, ev2⟩ := bs ev
  refine ⟨T, B, L, h, ρ, f1, ρ1, h1, c, sl, e1, fun T1 σ1 H1 L1 st c1 sl1 => ?_⟩
  cases f1 with
  | nx => exact ⟨T1, B, L1, h1, ρ1, f, ρ', h', c1, sl1, ev2, fun T2 σ2 H2 L2 st2 c2 sl2 => q T2 σ2 H2 L2 (st.trans st2) c2 sl2⟩
  | rt d => cases ev2; exact q T1 σ1 H1 L1 st c1 sl1
  | rf d => cases ev2; exact q T1 σ1 H1 L1 st c1 sl1
  | bk => cases ev2; exact q T1 σ1 H1 L1 st c1 sl1
  | ct => cases ev2; exact q T1 σ1 H1 L1 st c1 sl1
theorem run_frz {i : Nat} {ss : List S} {ts : List Stmt} (ps : PSs X' ts (tRun X'.K (evSs Γ ss))) : PSs X' ts (tRun X'.K (evSs Γ (.frz i :: ss))) := by
  refine pss_weak ps fun D σ H ⟨T, B, L, h, ρ, f, ρ', h', c, sl, ev, q⟩ => ?_
  simp only [evSs] at ev
  obtain ⟨⟨f1, ρ1, h1⟩, e1, ev2⟩ := bs ev
  simp only [evS] at e1
  split at e1
  · rename_i xs hx
    cases e1
    obtain ⟨T', sl', c', sub⟩ := sl.frz c hx
    exact ⟨T', B, L, _, _, f, ρ', h', c', sl', ev2, fun T2 σ2 H2 L2 st2 c2 sl2 => q T2 σ2 H2 L2 ⟨st2.pre, fun a o e n m => st2.keep a o e (fun z => n (sub.subset z)) m, st2.live, st2.there, fun a m => (st2.tn a m).imp (fun z => sub.subset z) id⟩ c2 sl2⟩
  · rename_i t ks vs hx
    obtain ⟨ov, e2, ok⟩ := sl.sl.at_ i _ hx
    exact ok.elim
  · cases e1
theorem run_if {c : X} {a b : List S} {ce : Expr} {as bs : List Stmt} (pc : PT X' ce (tT X'.K Γ c)) (pa : PSs X' as (tRun X'.K (evSs Γ a))) (pb : PSs X' bs (tRun X'.K (evSs Γ b))) : PS X' (.If ce as bs pos) (tRun X'.K (evS Γ (.ife c a b))) := by
  refine ps_weak (ps_if pc pa pb) fun D σ H ⟨T, B, L, h, ρ, f, ρ', h', c, sl, ev, q⟩ => ?_
  simp only [evS] at ev
  obtain ⟨⟨x, h1⟩, e1, ev2⟩ := Ev.bs ev
  obtain ⟨k, hk, ev3⟩ := Ev.bs ev2
  have hx := asBl_some hk
  dsimp only at hx ev3
  subst hx
  refine ⟨T ++ B, L, h, ρ, k, h1, c, sl.sl, e1, fun H1 L1 st1 c1 => ?_⟩
  cases k with
  | true =>
    rw [if_pos rfl] at ev3 ⊢
    exact ⟨T, B, L1, h1, ρ, f, ρ', h', c1, sl.stp c st1, ev3, fun T2 σ2 H2 L2 st2 c2 sl2 => q T2 σ2 H2 L2 (st1.ss.trans st2) c2 sl2⟩
  | false =>
    rw [if_neg Bool.false_ne_true] at ev3 ⊢
    exact ⟨T, B, L1, h1, ρ, f, ρ', h', c1, sl.stp c st1, ev3, fun T2 σ2 H2 L2 st2 c2 sl2 => q T2 σ2 H2 L2 (st1.ss.trans st2) c2 sl2⟩
theorem run_ret {x : X} {e : Expr} (nb : x.isBor = false) (p : PE X' e (tX X'.K Γ x)) : PS X' (.Return (some e) pos) (tRun X'.K (evS Γ (.ret x))) := by
  refine ps_weak (ps_ret (toS nb p)) fun D σ H ⟨T, B, L, h, ρ, f, ρ', h', c, sl, ev, q⟩ => ?_
  simp only [evS] at ev
  obtain ⟨⟨d, h1⟩, e1, ev2⟩ := bs ev
  cases ev2
  exact ⟨T ++ B, L, h, ρ, d, _, c, sl.sl, e1, fun v H1 L1 st1 c1 r => q T σ H1 L1 st1.ss c1 (sl.stp c st1) v (rep_down r)⟩
theorem run_retn : PS X' (.Return none pos) (tRun X'.K (evS Γ .retn)) := ps_weak ps_retN fun D σ H ⟨T, B, L, h, ρ, f, ρ', h', c, sl, ev, q⟩ => by
  simp only [evS] at ev
  cases ev
  exact q T σ H L SStp.refl c sl .non rep_non
theorem run_brk : PS X' (.Break pos) (tRun X'.K (evS Γ .brk)) := ps_weak ps_break fun D σ H ⟨T, B, L, h, ρ, f, ρ', h', c, sl, ev, q⟩ => by
  simp only [evS] at ev
  cases ev
  exact q T σ H L SStp.refl c sl
theorem run_cnt : PS X' (.Continue pos) (tRun X'.K (evS Γ .cnt)) := ps_weak ps_continue fun D σ H ⟨T, B, L, h, ρ, f, ρ', h', c, sl, ev, q⟩ => by
  simp only [evS] at ev
  cases ev
  exact q T σ H L SStp.refl c sl
theorem run_pas : PS X' (.Pass pos) (tRun X'.K (evS Γ .pas)) := ps_weak ps_pass fun D σ H ⟨T, B, L, h, ρ, f, ρ', h', c, sl, ev, q⟩ => by
  simp only [evS] at ev
  cases ev
  exact q T σ H L SStp.refl c sl
theorem swapsNone {e : Expr} (h : noLC e = true) (l : Nat) (env : Env) : swapsWith e none l env = pure false := by
  cases e <;> first | (simp [noLC] at h; done) | rfl
theorem run_expr {x : X} {e : Expr} (hl : noLC e = true) (p : PE X' e (tX X'.K Γ x)) : PS X' (.Expr e pos) (tRun X'.K (evS Γ (.expr x))) := by
  refine ps_weak (ps_expr (toB p) (swapsNone hl _ _)) fun D σ H ⟨T, B, L, h, ρ, f, ρ', h', c, sl, ev, q⟩ => ?_
  simp only [evS] at ev
  obtain ⟨⟨d, h1⟩, e1, ev2⟩ := bs ev
  cases ev2
  exact ⟨T ++ B, L, h, ρ, d, _, c, sl.sl, e1, fun v H1 L1 st1 c1 r => q T σ H1 L1 st1.ss c1 (sl.stp c st1)⟩
def gTs (K : PySem.W.Frag) (tg : Tg) : TG := fun v σ H Q => ∃ T B L h ρ d ρ', CR K (T ++ B) L h H ∧ SLt K T B L h H ρ σ ∧ Rep K ((T ++ B) ++ liveA h L) L H d v ∧ bindT tg d ρ = some ρ' ∧ ∀ σ', SLt K T B L h H ρ' σ' → Q σ' H
theorem pg_Ts (hc : X'.calm = true) (hN : X'.N.Nodup) (hC : C.N = X'.N) (hfn : ∀ y, fn y = true → X'.fn y = true) : ∀ {tg : Tg} {e : Expr}, chkT C fn X'.env.scope tg e = true → PG X' e (gTs X'.K tg) := by
  intro tg e h
  unfold chkT at h
  split at h
  · rename_i i id p
    obtain ⟨a, b, c⟩ := stB_of hC hfn h
    refine pg_weak (pg_name hN a b c) fun v σ H Q ⟨T, B, L, hh, ρ, d, ρ', cr, sl, r, e, q⟩ => ?_
    simp only [bindT] at e
    cases e
    exact q _ (sl.set r)
  · rename_i is es k p
    obtain ⟨a, b, c⟩ := pgs_many hN hC hfn h
    refine pg_weak (pg_tup hc a b c) fun v σ H Q ⟨T, B, L, hh, ρ, d, ρ', cr, sl, r, e, q⟩ => ?_
    cases d with
    | tup ds =>
      simp only [bindT] at e
      obtain ⟨a, vs, ev, t, z, r⟩ := rb_tup r.b
      have hl := setMany_len e
      exact ⟨a, vs, ev, t, by rw [r.length, hl], by rw [r.length, hl], q _ (sl.setV r e)⟩
    | _ => simp [bindT] at e
  · cases h
theorem run_for {tg : Tg} {it : It} {b : List S} {t i : Expr} {body : List Stmt} (hx : X'.xe = fun _ _ => False) (hc : X'.calm = true) (nb : it.isBor = false) (pi : PI X' t i (tI X'.K Γ it)) (pg : PG X' t (gTs X'.K tg)) (pb : PSs X' body (tRun X'.K (evSs Γ b)))
    (hs : ∀ x, foldedSetIterable i X'.env x = pure x) : PS X' (.For t i body [] pos) (tRun X'.K (evS Γ (.fors tg it b))) := by
  have hp : PassesOwn (model X'.prog X'.w) X'.A X'.env X'.xe := by rw [hx]; exact PassesOwn.never
  refine ps_weak (ps_for hp hc pi pg pb hs) fun D σ H ⟨T, B, L, h, ρ, f, ρ', h', c, sl, ev, q⟩ => ?_
  simp only [evS] at ev
  obtain ⟨⟨xs, h1⟩, e1, ev2⟩ := bs ev
  refine ⟨T ++ B, L, h, ρ, xs, h1, c, sl.sl, e1, fun J H1 L1 st1 c1 wk zx => ?_⟩
  obtain ⟨Wa, G, Yd, walk, hW, hY⟩ := wk
  have keepW : ∀ {T2 L2 : List Addr} {h2 : Hs} {H2 : Hp}, SStp T L1 h1 H1 T2 L2 h2 H2 → ∀ a ∈ Wa, ∀ o, H1 a = some o → H2 a = some o := fun s2 a ma o e =>
    s2.keep a o e (fun z => (hW a ma).2.2 (by rw [nb]; rfl) (List.mem_append_left _ z)) (hW a ma).2.1
  refine for_it walk (fun i σ2 H2 => ∃ T2 L2 h2 ρ2, SStp T L1 h1 H1 T2 L2 h2 H2 ∧ CR X'.K (T2 ++ B) L2 h2 H2 ∧ SLt X'.K T2 B L2 h2 H2 ρ2 σ2 ∧ forL (bindT tg) (evSs Γ b) (xs.drop i) ρ2 h2 = some (f, ρ', h')) ?_ ?_ ?_ ?_
  · exact ⟨T, L1, h1, ρ, SStp.refl, c1, sl.stp c st1, ev2⟩
  · rintro i σ2 H2 hi ⟨T2, L2, h2, ρ2, s2, c2, sl2, e2⟩
    exact (hY (T2 ++ B) L2 h2 H2 s2.mv c2 (keepW s2)).1
  · rintro i x σ2 H2 H3 hi ⟨T2, L2, h2, ρ2, s2, c2, sl2, e2⟩ yd
    obtain ⟨dx, hdx, st3, c3, rx⟩ := (hY (T2 ++ B) L2 h2 H2 s2.mv c2 (keepW s2)).2 i x H3 hi yd
    have ed : xs.drop i = dx :: xs.drop (i + 1) := by
      rw [List.drop_eq_getElem_cons hi]
      rw [List.getElem?_eq_getElem hi] at hdx
      cases hdx
      rfl
    rw [ed] at e2
    simp only [forL] at e2
    obtain ⟨ρ3, hb, e3⟩ := bs e2
    obtain ⟨⟨fb, ρb, hb2⟩, eb, e4⟩ := bs e3
    refine ⟨T2, B, L2, h2, ρ2, dx, ρ3, c3, sl2.stp c2 st3, rx, hb, fun σ3 sl3 => ⟨T2, B, L2, h2, ρ3, fb, ρb, hb2, c3, sl3, eb, fun T4 σ4 H4 L4 st4 c4 sl4 => ?_⟩⟩
    have tot : SStp T L1 h1 H1 T4 L4 hb2 H4 := (s2.trans st3.ss).trans st4
    cases fb with
    | nx => exact ⟨T4, L4, hb2, ρb, tot, c4, sl4, e4⟩
    | ct => exact ⟨T4, L4, hb2, ρb, tot, c4, sl4, e4⟩
    | bk => cases e4; exact q T4 σ4 H4 L4 (st1.ss.trans tot) c4 sl4
    | rt d => cases e4; exact q T4 σ4 H4 L4 (st1.ss.trans tot) c4 sl4
    | rf d => cases e4; exact q T4 σ4 H4 L4 (st1.ss.trans tot) c4 sl4
  · rintro σ2 H2 ⟨T2, L2, h2, ρ2, s2, c2, sl2, e2⟩
    rw [List.drop_of_length_le (Nat.le_refl _)] at e2
    simp only [forL] at e2
    cases e2
    exact q T2 σ2 H2 L2 (st1.ss.trans s2) c2 sl2
theorem run_while {c : X} {b : List S} {ce : Expr} {body : List Stmt} (hx : X'.xe = fun _ _ => False) (pc : PT X' ce (tT X'.K Γ c)) (pb : PSs X' body (tRun X'.K (evSs Γ b))) : PS X' (.While ce body [] pos) (tRun X'.K (evS Γ (.whil c b))) := by
  have hp : PassesOwn (model X'.prog X'.w) X'.A X'.env X'.xe := by rw [hx]; exact PassesOwn.never
  refine ps_weak (ps_while hp pc pb) fun D σ H ⟨T, B, L, h, ρ, f, ρ', h', cr, sl, ev, q⟩ => ?_
  simp only [evS] at ev
  refine ⟨fun m σ2 H2 => ∃ T2 L2 h2 ρ2, SStp T L h H T2 L2 h2 H2 ∧ CR X'.K (T2 ++ B) L2 h2 H2 ∧ SLt X'.K T2 B L2 h2 H2 ρ2 σ2 ∧ whileL (evE Γ c) (evSs Γ b) m ρ2 h2 = some (f, ρ', h'), ⟨fuel, T, L, h, ρ, SStp.refl, cr, sl, ev⟩, ?_⟩
  rintro m σ2 H2 ⟨T2, L2, h2, ρ2, s2, c2, sl2, e2⟩
  cases m with
  | zero => simp [whileL] at e2
  | succ m =>
    simp only [whileL] at e2
    obtain ⟨⟨x, h3⟩, e3, e4⟩ := bs e2
    obtain ⟨k, hk, e5⟩ := bs e4
    have hxk := asBl_some hk
    dsimp only at hxk e5
    subst hxk
    refine ⟨T2 ++ B, L2, h2, ρ2, k, h3, c2, sl2.sl, e3, fun H3 L3 st3 c3 => ?_⟩
    cases k with
    | false =>
      rw [if_neg Bool.false_ne_true] at e5 ⊢
      cases e5
      exact q T2 σ2 H3 L3 (s2.trans st3.ss) c3 (sl2.stp c2 st3)
    | true =>
      rw [if_pos rfl] at e5 ⊢
      obtain ⟨⟨fb, ρb, hb2⟩, eb, e6⟩ := bs e5
      refine ⟨fun σ4 H4 => ∃ T4 L4 h4 ρ4, SStp T L h H T4 L4 h4 H4 ∧ CR X'.K (T4 ++ B) L4 h4 H4 ∧ SLt X'.K T4 B L4 h4 H4 ρ4 σ4 ∧ whileL (evE Γ c) (evSs Γ b) m ρ4 h4 = some (f, ρ', h'), fun σ4 H4 q4 => ⟨m, Nat.lt_succ_self _, q4⟩,
        T2, B, L3, h3, ρ2, fb, ρb, hb2, c3, sl2.stp c2 st3, eb, fun T4 σ4 H4 L4 st4 c4 sl4 => ?_⟩
      have tot : SStp T L h H T4 L4 hb2 H4 := (s2.trans st3.ss).trans st4
      cases fb with
      | nx => exact ⟨T4, L4, hb2, ρb, tot, c4, sl4, e6⟩
      | ct => exact ⟨T4, L4, hb2, ρb, tot, c4, sl4, e6⟩
      | bk => cases e6; exact q T4 σ4 H4 L4 tot c4 sl4
      | rt d => cases e6; exact q T4 σ4 H4 L4 tot c4 sl4
      | rf d => cases e6; exact q T4 σ4 H4 L4 tot c4 sl4

theorem kindOf_eq (env : Env) (y : Str) : env.kindOf y = env.scope.names.lookup y := rfl
theorem swB_false {e : Expr} {t : Str} {py : Pos} (hs : noSD e = true) (env : Env) (l : Nat) (h : swB env.scope t py.line e = false) : swapsWith e (some (.Name t py)) l env = pure false := by
  cases e with
  | ListComp elt gs scope p =>
    simp only [swB] at h
    unfold swapsWith
    show (pure (env.blockKind == .function && env.kindOf t == some .local && py.line == p.line && !(scope.names.any fun (n, k) => n == t && (k == .local || k == .cell))) : Sem Bool) = pure false
    have hk : (env.kindOf t == some .local) = decide (env.scope.names.lookup t = some .local) := by
      rw [kindOf_eq]
      by_cases q : env.scope.names.lookup t = some .local
      · rw [q]; rfl
      · rw [decide_eq_false q]
        exact beq_eq_false_iff_ne.mpr q
    rw [hk, Bool.and_assoc, Bool.and_assoc, ← Bool.and_assoc (decide _), h, Bool.and_false]
  | SetComp => simp [noSD] at hs
  | DictComp => simp [noSD] at hs
  | _ => rfl
theorem swapsTup {e : Expr} {ts : List Expr} {k : Nat} {p : Pos} (l : Nat) (env : Env) : swapsWith e (some (.Tuple ts k p)) l env = pure false := by
  cases e <;> rfl
theorem swapsSub {e : Expr} {a b : Expr} {p : Pos} (l : Nat) (env : Env) : swapsWith e (some (.Subscript a b p)) l env = pure false := by
  cases e <;> rfl
end
end Ev

namespace Ev
open PySem L2 PySem.Spec PyProof.Rows
theorem swapN_ok {env : Env} (hk : env.scope.kind = .function) {ts vs : List Expr} {k k2 : Nat} {p p2 : Pos} {r : Option (List Str)} (h : swapN env.scope ts vs = some r) :
    swappedStores [.Tuple ts k p] (.Tuple vs k2 p2) env = pure r := by
  have hb : env.blockKind = .function := by unfold Env.blockKind; rw [hk]; rfl
  have e1 : (env.blockKind != ScopeKind.function) = false := by rw [hb]; rfl
  unfold swapN at h
  unfold swappedStores
  simp only [e1, Bool.or_false]
  split at h
  · rename_i q
    cases h
    exact if_pos q
  · rename_i q
    refine (if_neg q).trans ?_
    split at h
    · rename_i q2
      cases h
      exact if_pos q2
    · rename_i q2
      refine (if_neg q2).trans ?_
      dsimp only at h
      split at h
      · rename_i q3
        cases h
        exact if_pos q3
      · rename_i q3
        refine (if_neg q3).trans ?_
        split at h
        · rename_i q4
          cases h
          exact if_pos q4
        · rename_i q4
          refine (if_neg q4).trans ?_
          split at h
          · cases h
          · rename_i q5
            cases h
            exact if_neg q5
theorem swapNo {env : Env} {ts : List Expr} {k : Nat} {p : Pos} {e : Expr} (h : ∀ vs a b, e ≠ .Tuple vs a b) : swappedStores [.Tuple ts k p] e env = pure none := by
  cases e with
  | Tuple vs a b => exact absurd rfl (h vs a b)
  | _ => rfl
section
variable {X : Cx} {pos : Pos}
/-- a, b, c = x, y, z with plain local names -/
def tPar3 (i j l : Nat) (ta : TA) : TS := fun D σ H => ta σ H fun vs H1 => ∃ v w u, vs = [v, w, u] ∧ D.nx (((σ.set i (some v)).set j (some w)).set l (some u)) H1
theorem ps_par3 {i j l : Nat} {x y z : Str} {a b c : Expr} {ta : TA} {px py pz pt : Pos} {kt k2 pt2} (hc : X.calm = true) (hN : X.N.Nodup) (hi : X.N[i]? = some x) (hj : X.N[j]? = some y) (hl : X.N[l]? = some z) (hij : i ≠ j) (hil : i ≠ l) (hjl : j ≠ l)
    (hx : X.env.scope.names.lookup x = some .local) (hy : X.env.scope.names.lookup y = some .local) (hz : X.env.scope.names.lookup z = some .local) (ha : PA X [a, b, c] ta)
    (hw : swappedStores [.Tuple [.Name x px, .Name y py, .Name z pz] kt pt] (.Tuple [a, b, c] k2 pt2) X.env = pure (some [x, y, z]))
    (hs : swapsWithSole [.Tuple [.Name x px, .Name y py, .Name z pz] kt pt] (.Tuple [a, b, c] k2 pt2) pos.line X.env = pure false := by rfl) :
    PS X (.Assign [.Tuple [.Name x px, .Name y py, .Name z pz] kt pt] (.Tuple [a, b, c] k2 pt2) pos) (tPar3 i j l ta) := by
  refine ⟨fun pins s σ H D I h => ?_⟩
  rw [exec_Assign_arm]
  refine wpAny_bind (wpAny_standAt ?_)
  rw [hs]
  refine wpAny_bind (wpAny_pure ?_)
  rw [if_neg (by decide)]
  refine wpAny_bind (PyProof.Rows.Tuple_ (thn (ha.run _ pins s σ H _ I h) fun us s1 ⟨vs, H1, I1, r1, q1⟩ => ?_))
  obtain ⟨v, w, u, e1, q1⟩ := q1
  subst e1
  obtain ⟨u1, u2, u3, rfl, rv, rw', ru⟩ : ∃ u1 u2 u3, us = [u1, u2, u3] ∧ RelV v u1 ∧ RelV w u2 ∧ RelV u u3 := by
    cases r1 with
    | cons p q =>
      cases q with
      | cons p' q' =>
        cases q' with
        | cons p'' q'' =>
          cases q''
          exact ⟨_, _, _, rfl, p, p', p''⟩
  refine wpAny_newObj_type ?_ (by show 3 ≤ sizeLine; decide)
  have I2 : Inv X pins σ H1 { s1 with heap := s1.heap.push { cls := .type "tuple", data := .seq [u1, u2, u3].toArray } } := I1.kept (t' := s1.toks) fun b o e => Heap.get?_push_of_some _ e
  rw [hw]
  refine wpAny_bind (wpAny_pure ?_)
  show wpAny (model X.prog X.w) X.A (do rule "assign.swapped-stores"; let items ← unpackItems (.ref s1.heap.objs.size) 3 none; assignInOrder [fun v => bindName X.env z v, fun v => bindName X.env y v, fun v => bindName X.env x v] items.reverse; pure Flow.next) _ _ _
  refine wpAny_bind (wpAny_rule (wpAny_bind (unpackItems_tuple (items := #[u1, u2, u3]) (I.ok.hd hc) (IsTup.new s1.heap _) fun h' hx' => ?_)))
  have I3 := I2.kept (h' := h') (t' := s1.toks) fun b o e => hx' b o (Nat.ne_of_lt (Heap.lt_size e)) e
  show wpAny _ _ (assignInOrder [fun v => bindName X.env z v, fun v => bindName X.env y v, fun v => bindName X.env x v] [u3, u2, u1] >>= fun _ => pure Flow.next) _ _ _
  refine wpAny_bind (assignInOrder_cons (wpAny_bindName (store_ok I3 hN hl (.inl hz) ru (fun s2 I4 => ?_) (.inr hz))))
  refine assignInOrder_cons (wpAny_bindName (store_ok I4 hN hj (.inl hy) rw' (fun s3 I5 => ?_) (.inr hy)))
  refine assignInOrder_cons (wpAny_bindName (store_ok I5 hN hi (.inl hx) rv (fun s4 I6 => assignInOrder_nil (wpAny_pure ?_)) (.inr hx)))
  have e2 : ((σ.set l (some u)).set j (some w)).set i (some v) = ((σ.set i (some v)).set j (some w)).set l (some u) := by
    rw [List.set_comm _ _ hjl.symm, List.set_comm _ _ hil.symm, List.set_comm _ _ hij.symm]
  rw [e2] at I6
  exact ⟨_, H1, I6, q1⟩
end
section
variable {fns : List (String × Fn)} {cs : List (Str × GD)} {n : Nat} {X' : Cx} {pos : Pos} {fn : Str → Bool}
theorem compX {x : X} (h : x.isComp = true) : ∃ own tg it c e, x = .comp own tg it c e := by
  cases x <;> first | (simp [X.isComp] at h; done) | exact ⟨_, _, _, _, _, rfl⟩
theorem set_ok {i : Nat} {id : Str} {p : Pos} {x : X} {e : Expr} (g : Gd fns cs n X') (hf : ∀ y, fn y = true → X'.fn y = true) (h : setB (ckOf fns cs X') fn X'.env.scope i id p x e = true) :
    PS X' (.Assign [.Name id p] e pos) (tAsg (tX X'.K (callF fns n) x) (gName i)) := by
  unfold setB at h
  simp only [Bool.and_eq_true, Bool.or_eq_true, Bool.not_eq_true', decide_eq_true_eq] at h
  obtain ⟨⟨⟨h1, h2⟩, h3⟩, h4⟩ := h
  obtain ⟨a, b, c⟩ := stB_of (C := ckOf fns cs X') rfl hf h1
  by_cases q : swB X'.env.scope id p.line e = false
  · exact ps_set g.nd a b (e_ok x X' fn e g hf h2).1 (swB_false h3 X'.env pos.line q) c
  · rcases h4 with h4 | ⟨h4, h5⟩
    · exact absurd h4 q
    · obtain ⟨own, tg, it, cc, y, rfl⟩ := compX h4
      obtain ⟨elt, t, it', ifs, scope, pp, rfl, k1, k2, k3, k4, k5, k6, k7, k8, k9⟩ := v_comp h2
      have q' : swB X'.env.scope id p.line (.ListComp elt [⟨t, it', ifs, 0⟩] scope pp) = true := by simpa using q
      simp only [swB, Bool.and_eq_true, decide_eq_true_eq, Bool.not_eq_true'] at q'
      have hi : PI X' t it' (tI X'.K (callF fns n) it) := i_ok it X' fn it' t g hf k5 (fun q => two_form k2 (k6 q))
      have hfb : ∀ (s : Shared) (H : Hp) (D : Addr) (cl : List (Str × Addr)) (fp : List Addr), ∀ y, (fun x => scope.names.lookup x == some .cell) y = true → (X'.blk s H scope (compEnvC scope cl D X'.env) fp).fn y = true := fun s H D cl fp y q => q
      have core := ps_setLc (py := p) (pos := pp) (spos := pos) (elt := elt) (ifs := ifs) (own := ownOf (ckOf fns cs X') own) (tt := tT X'.K (callF fns n) cc) (te := tS X'.K (callF fns n) y) (g := gT X'.K tg) g.calm g.nd a q'.1.1 (sw_true h5 q'.1.1 q'.1.2 q'.2) hi (blkOk_by k1)
        (fun s H D cl fp => pg_T (X' := X'.blk s H scope (compEnvC scope cl D X'.env) fp) (C := ckOf fns cs X') g.calm g.nd rfl (hfb s H D cl fp) k2)
        (fun s H D cl fp => by
          rcases k7 with ⟨rfl, rfl⟩ | ⟨gg, rfl, k7⟩
          · exact ⟨fun pins s' σ H' Q I ⟨O, L, hh, ρ, b, h', cr, sl, ev, q⟩ => pts_nil.run pins s' σ H' Q I (by simp only [evE] at ev; cases ev; exact q H' L Stp.refl cr)⟩
          · exact pts_one (e_ok cc (X'.blk s H scope (compEnvC scope cl D X'.env) fp) _ gg (g.blk s H scope _ fp) (hfb s H D cl fp) k7).2)
        (fun s H D cl fp => toS k9 (e_ok y (X'.blk s H scope (compEnvC scope cl D X'.env) fp) _ elt (g.blk s H scope _ fp) (hfb s H D cl fp) k8).1)
        (fun v => folded_of (formI k5) _ v)
      rw [owns_map] at core
      exact ps_weak core fun D σ H q => tLc_of k3 _ _ _ q
theorem run_set {Γ : FT} {i : Nat} {id : Str} {p : Pos} {x : X} {e : Expr} (nb : x.isBor = false) (ps : PS X' (.Assign [.Name id p] e pos) (tAsg (tX X'.K Γ x) (gName i))) : PS X' (.Assign [.Name id p] e pos) (tRun X'.K (evS Γ (.asg (.nm i) x))) := by
  refine ps_weak ps fun D σ H ⟨T, B, L, h, ρ, f, ρ', h', c, sl, ev, q⟩ => ?_
  simp only [evS] at ev
  obtain ⟨⟨d, h1⟩, e1, ev2⟩ := bs ev
  obtain ⟨ρ1, e2, ev3⟩ := bs ev2
  simp only [bindT] at e2
  cases e2
  cases ev3
  refine ⟨T ++ B, L, h, ρ, d, _, c, sl.sl, e1, fun v H1 L1 T1 st c1 hT r => ?_⟩
  exact q T _ H1 L1 st.ss c1.dropT ((sl.stp c st).set (r.s c1 nb))
theorem run_own {Γ : FT} {i : Nat} {id : Str} {p : Pos} {x : X} {e : Expr} (ps : PS X' (.Assign [.Name id p] e pos) (tAsg (tX X'.K Γ x) (gName i))) : PS X' (.Assign [.Name id p] e pos) (tRun X'.K (evS Γ (.own i x))) := by
  refine ps_weak ps fun D σ H ⟨T, B, L, h, ρ, f, ρ', h', c, sl, ev, q⟩ => ?_
  simp only [evS] at ev
  obtain ⟨⟨d, h1⟩, e1, ev2⟩ := bs ev
  dsimp only at ev2
  split at ev2
  · split at ev2
    · rename_i xs fr
      cases ev2
      refine ⟨T ++ B, L, h, ρ, _, _, c, sl.sl, e1, fun v H1 L1 T1 st c1 hT r => ?_⟩
      unfold VR at r
      rw [if_pos fr] at r
      obtain ⟨a, vs, rfl, rfl, hH, z, r⟩ := r
      have ha : H a = none := hT a (by simp)
      have s1 := sl.stp c st
      refine q (a :: T) _ H1 L1 ⟨st.pre, fun b o e n m => st.keep b o e m, st.live, st.there, fun b m => ?_⟩ c1 (SLt.new c1 s1.sl s1.ow s1.ap (sl.sl.mvD c st ha) hH z r)
      rcases List.mem_cons.mp m with m | m
      · rw [m]; exact .inr ha
      · exact .inl m
    · cases ev2
  · cases ev2
theorem run_tup {Γ : FT} {is : List Nat} {x : X} {t e : Expr} (hs : swapsWithSole [t] e pos.line X'.env = pure false) (hw : swappedStores [t] e X'.env = pure none) (h1 : (assignEach [t] X'.env).map (·.2) = [assign t X'.env]) (nb : x.isBor = false)
    (pe : PE X' e (tX X'.K Γ x)) (pg : PG X' t (gTs X'.K (.tp is))) : PS X' (.Assign [t] e pos) (tRun X'.K (evS Γ (.asg (.tp is) x))) := by
  refine ps_weak (ps_asg (toS nb pe) pg hs hw h1) fun D σ H ⟨T, B, L, h, ρ, f, ρ', h', c, sl, ev, q⟩ => ?_
  simp only [evS] at ev
  obtain ⟨⟨d, h1⟩, e1, ev2⟩ := bs ev
  obtain ⟨ρ1, e2, ev3⟩ := bs ev2
  cases ev3
  exact ⟨T ++ B, L, h, ρ, d, _, c, sl.sl, e1, fun v H1 L1 st c1 r => ⟨T, B, L1, _, ρ, d, _, c1, sl.stp c st, r, e2, fun σ1 sl1 => q T _ H1 L1 st.ss c1 sl1⟩⟩
theorem namesOf_many {C : Ck} {fn : Str → Bool} {sc : Scope} : ∀ {is : List Nat} {ts : List Expr}, stMany C fn sc is ts = true → ts.length = is.length
  | [], [], _ => rfl
  | i :: is, t :: ts, h => by
    cases t <;> first | (simp [stMany] at h; done) | skip
    simp only [stMany, Bool.and_eq_true] at h
    rw [List.length_cons, List.length_cons, namesOf_many h.2]
  | [], _ :: _, h => by simp [stMany] at h
  | _ :: _, [], h => by simp [stMany] at h
theorem stNo {C : Ck} {i : Nat} {id : Str} (hC : C.N = X'.N) (h : stB C (fun _ => false) X'.env.scope i id = true) : X'.N[i]? = some id ∧ X'.env.scope.names.lookup id = some .local := by
  unfold stB at h
  simp only [Bool.and_eq_true, Bool.or_eq_true, decide_eq_true_eq, Bool.false_eq_true, and_false, or_false] at h
  rw [hC] at h
  exact h
theorem run_swap {Γ : FT} {is : List Nat} {xs : List X} {ts vs : List Expr} {k k2 : Nat} {p p2 : Pos} {C : Ck} (hc : X'.calm = true) (hN : X'.N.Nodup) (hC : C.N = X'.N) (hk : X'.env.scope.kind = .function) (hst : stMany C (fun _ => false) X'.env.scope is ts = true)
    (hnd : is.Nodup) (hl : is.length = 2 ∨ is.length = 3) (hsw : swapN X'.env.scope ts vs = some (some (namesOf ts))) (hv : vs.length = xs.length) (pa : PA X' vs (tL X'.K Γ true xs)) :
    PS X' (.Assign [.Tuple ts k p] (.Tuple vs k2 p2) pos) (tRun X'.K (evS Γ (.asg (.tp is) (.tup xs)))) := by
  have hw := swapN_ok (k := k) (p := p) (k2 := k2) (p2 := p2) hk hsw
  have hlen : vs.length = ts.length := by
    rcases Decidable.em (vs.length = ts.length) with q | q
    · exact q
    · exfalso
      unfold swapN at hsw
      rw [if_pos (by simp [q])] at hsw
      cases hsw
  have htl := namesOf_many hst
  have fin : ∀ D σ H, tRun X'.K (evS Γ (.asg (.tp is) (.tup xs))) D σ H → tL X'.K Γ true xs σ H (fun ws H1 => ws.length = is.length ∧ D.nx (setV σ is ws) H1) := fun D σ H ⟨T, B, L, h, ρ, f, ρ', h', c, sl, ev, q⟩ => by
    simp only [evS] at ev
    obtain ⟨⟨d, h1⟩, e1, ev2⟩ := bs ev
    obtain ⟨ρ1, e2, ev3⟩ := bs ev2
    simp only [evE] at e1
    obtain ⟨⟨ds, h2⟩, e3, e4⟩ := bs e1
    dsimp only at e4
    split at e4
    · cases e4
      cases ev3
      simp only [bindT] at e2
      refine ⟨T ++ B, L, h, ρ, ds, _, c, sl.sl, e3, fun ws H1 L1 st c1 r => ?_⟩
      have r := repL_of r
      exact ⟨by rw [r.length]; exact setMany_len e2, q T _ H1 L1 st.ss c1 ((sl.stp c st).setV r e2)⟩
    · cases e4
  have sh : ∀ {m : Nat}, (ts.length = m ∧ vs.length = m) ∨ True := .inr trivial
  rcases hl with hl | hl
  · match is, ts, vs, hl, htl, hlen, hst, hnd, hw, pa, fin with
    | [i, j], [t1, t2], [a, b], _, _, _, hst, hnd, hw, pa, fin =>
      cases t1 <;> first | (simp [stMany] at hst; done) | skip
      cases t2 <;> first | (simp [stMany] at hst; done) | skip
      simp only [stMany, Bool.and_eq_true] at hst
      obtain ⟨a1, b1⟩ := stNo hC hst.1
      obtain ⟨a2, b2⟩ := stNo hC hst.2.1
      have hij : i ≠ j := fun e => by subst e; simp at hnd
      refine ps_weak (ps_par hc hN a1 a2 hij b1 b2 pa (by simpa only [namesOf] using hw) (by rfl)) fun D σ H q => ?_
      obtain ⟨O, L, h, ρ, ds, h', c, sl, ev, q2⟩ := fin D σ H q
      refine ⟨O, L, h, ρ, ds, h', c, sl, ev, fun ws H1 L1 st c1 r => ?_⟩
      obtain ⟨hlw, qq⟩ := q2 ws H1 L1 st c1 r
      match ws, hlw, qq with
      | [v, w], _, qq => exact ⟨v, w, rfl, qq⟩
  · match is, ts, vs, hl, htl, hlen, hst, hnd, hw, pa, fin with
    | [i, j, l], [t1, t2, t3], [a, b, cc], _, _, _, hst, hnd, hw, pa, fin =>
      cases t1 <;> first | (simp [stMany] at hst; done) | skip
      cases t2 <;> first | (simp [stMany] at hst; done) | skip
      cases t3 <;> first | (simp [stMany] at hst; done) | skip
      simp only [stMany, Bool.and_eq_true] at hst
      obtain ⟨a1, b1⟩ := stNo hC hst.1
      obtain ⟨a2, b2⟩ := stNo hC hst.2.1
      obtain ⟨a3, b3⟩ := stNo hC hst.2.2.1
      have hij : i ≠ j := fun e => by subst e; simp at hnd
      have hil : i ≠ l := fun e => by subst e; simp at hnd
      have hjl : j ≠ l := fun e => by subst e; simp at hnd
      refine ps_weak (ps_par3 hc hN a1 a2 a3 hij hil hjl b1 b2 b3 pa (by simpa only [namesOf] using hw) (by rfl)) fun D σ H q => ?_
      obtain ⟨O, L, h, ρ, ds, h', c, sl, ev, q2⟩ := fin D σ H q
      refine ⟨O, L, h, ρ, ds, h', c, sl, ev, fun ws H1 L1 st c1 r => ?_⟩
      obtain ⟨hlw, qq⟩ := q2 ws H1 L1 st c1 r
      match ws, hlw, qq with
      | [v, w, u], _, qq => exact ⟨v, w, u, rfl, qq⟩
def ParR (K : PySem.W.Frag) (M L : List Addr) (H : Hp) : List Addr → List Bool → List D → List V → Prop
  | As, [], [], [] => As = []
  | As, false :: fl, d :: ds, v :: vs => Rep K M L H d v ∧ ParR K M L H As fl ds vs
  | a :: As, true :: fl, .lst es :: ds, v :: vs => v = .ref a ∧ a ∉ As ∧ (∃ us, H a = some (.lst us) ∧ us.length ≤ sizeLine ∧ RepL K M L H es us) ∧ ParR K M L H As fl ds vs
  | _, _, _, _ => False
def flOk : List Bool → List D → Bool
  | [], [] => true
  | false :: fl, _ :: ds => flOk fl ds
  | true :: fl, .lst _ :: ds => flOk fl ds
  | _, _ => false
theorem setPar_fl : ∀ {is : List Nat} {fl : List Bool} {ds : List D} {ρ ρ' : Rho}, setPar ρ is fl ds = some ρ' → flOk fl ds = true ∧ ds.length = is.length
  | [], [], [], _, _, _ => ⟨rfl, rfl⟩
  | i :: is, false :: fl, d :: ds, _, _, e => by
    simp only [setPar] at e
    have := setPar_fl e
    exact ⟨by simpa only [flOk] using this.1, by simp [this.2]⟩
  | i :: is, true :: fl, .lst es :: ds, _, _, e => by
    simp only [setPar] at e
    have := setPar_fl e
    exact ⟨by simpa only [flOk] using this.1, by simp [this.2]⟩
  | [], [], _ :: _, _, _, e => by simp [setPar] at e
  | [], _ :: _, _, _, _, e => by simp [setPar] at e
  | _ :: _, [], _, _, _, e => by simp [setPar] at e
  | _ :: _, false :: _, [], _, _, e => by simp [setPar] at e
  | _ :: _, true :: _, [], _, _, e => by simp [setPar] at e
  | _ :: _, true :: _, .non :: _, _, _, e | _ :: _, true :: _, .bl _ :: _, _, _, e | _ :: _, true :: _, .int _ :: _, _, _, e | _ :: _, true :: _, .str _ :: _, _, _, e | _ :: _, true :: _, .tup _ :: _, _, _, e
  | _ :: _, true :: _, .dct _ _ _ :: _, _, _, e | _ :: _, true :: _, .ref _ :: _, _, _, e | _ :: _, true :: _, .scr _ :: _, _, _, e => by simp [setPar] at e
def tP (K : PySem.W.Frag) (Γ : FT) (xs : List X) (fl : List Bool) : TA := fun σ H Q => ∃ O L h ρ ds h', CR K O L h H ∧ SLs K O L h H ρ σ ∧ evL Γ xs ρ h = some (ds, h') ∧ flOk fl ds = true ∧
  ∀ vs H' L' A As, Stp L h H L' h' H' → CR K (A ++ O) L' h' H' → SLs K (A ++ O) L' h' H' ρ σ → (∀ a ∈ A, H a = none) → (∀ a ∈ As, a ∈ A) → ParR K ((A ++ O) ++ liveA h' L') L' H' As fl ds vs → Q vs H'
theorem mv_more {K : PySem.W.Frag} {A O L L' : List Addr} {h h' : Hs} {H H' : Hp} (s : Stp L h H L' h' H') (hA : ∀ a ∈ A, H a = none) : Mv (O ++ liveA h L) ((A ++ O) ++ liveA h' L') L L' H H' where
  at_ := fun a o e n => by
    have m := (s.mv (O := O)).at_ a o e n
    refine ⟨m.1, fun q => ?_⟩
    rw [List.append_assoc, List.mem_append] at q
    rcases q with q | q
    · rw [hA a q] at e; cases e
    · exact m.2 q
  ls := s.pre
theorem p_nil {X' : Cx} {Γ : FT} {fl : List Bool} : PA X' [] (tP X'.K Γ [] fl) := pa_weak pa_nil fun σ H Q ⟨O, L, h, ρ, ds, h', c, sl, ev, fo, q⟩ => by
  simp only [evL] at ev
  cases ev
  have : fl = [] := by
    rcases fl with _ | ⟨b, _⟩
    · rfl
    · cases b <;> simp [flOk] at fo
  subst this
  exact q [] H L [] [] Stp.refl c sl (fun _ m => nomatch m) (fun _ m => nomatch m) rfl
theorem p_cons {X' : Cx} {Γ : FT} {x : X} {xs : List X} {f : Bool} {fl : List Bool} {e : Expr} {es : List Expr} (he : starEach (e :: es) X'.env = (false, eval e X'.env) :: starEach es X'.env) (nb : x.isBor = false) (hf : f = true → x.fresh = true)
    (px : PE X' e (tX X'.K Γ x)) (pl : PA X' es (tP X'.K Γ xs fl)) : PA X' (e :: es) (tP X'.K Γ (x :: xs) (f :: fl)) := by
  refine pa_weak (pa_cons px pl he) fun σ H Q ⟨O, L, h, ρ, ds, h', c, sl, ev, fo, q⟩ => ?_
  simp only [evL] at ev
  obtain ⟨⟨d, h1⟩, e1, e2⟩ := bs ev
  obtain ⟨⟨dr, h2⟩, e3, e4⟩ := bs e2
  cases e4
  refine ⟨O, L, h, ρ, d, h1, c, sl, e1, fun v H1 L1 T1 st1 c1 hT r => ?_⟩
  cases f with
  | false =>
    have rv := r.s c1 nb
    refine ⟨O, L1, h1, ρ, dr, _, c1.dropT, sl.stp c st1, e3, by simpa only [flOk] using fo, fun vs H2 L2 A As st2 c2 sl2 hA hAs pr => ?_⟩
    exact q (v :: vs) H2 L2 A As (st1.trans st2) c2 sl2 (fun a m => st1.none (hA a m)) hAs ⟨Rep.mv (mv_more (K := X'.K) st2 hA) _ _ rv, pr⟩
  | true =>
    unfold VR at r
    rw [if_pos (hf rfl)] at r
    obtain ⟨es', ed⟩ : ∃ es', d = .lst es' := by
      cases d <;> first | exact ⟨_, rfl⟩ | (simp [flOk] at fo; done)
    subst ed
    obtain ⟨a, us, rfl, rfl, hH, z, rr⟩ := r
    have ha : H a = none := hT a (by simp)
    refine ⟨a :: O, L1, h1, ρ, dr, _, c1, sl.mvD c st1 ha, e3, by simpa only [flOk] using fo, fun vs H2 L2 A As st2 c2 sl2 hA hAs pr => ?_⟩
    have eO : A ++ a :: O = (A ++ [a]) ++ O := by simp
    have hnA : a ∉ A := fun m => by rw [hA a m] at hH; cases hH
    rw [eO] at c2 sl2 pr
    refine q (.ref a :: vs) H2 L2 (A ++ [a]) (a :: As) (st1.trans st2) c2 sl2 (fun b m => ?_) (fun b m => ?_) ⟨rfl, fun m => hnA (hAs a m), ⟨us, st2.keep a _ hH (c1.not_live (by simp)), z, ?_⟩, pr⟩
    · rcases List.mem_append.mp m with m | m
      · exact st1.none (hA b m)
      · rw [List.mem_singleton.mp m]; exact ha
    · rcases List.mem_cons.mp m with m | m
      · rw [m]; simp
      · exact List.mem_append_left _ (hAs b m)
    · have mv := mv_more (K := X'.K) (O := a :: O) st2 hA
      rw [eO] at mv
      exact RepL.mv mv _ _ rr
/-- a list that no name holds yet comes under a name -/
theorem SLt.setOwn {K : PySem.W.Frag} {T B L : List Addr} {h : Hs} {H : Hp} {ρ : Rho} {σ : L2.St} {i : Nat} {ds : List D} {a : Addr} {vs : List V} (s : SLt K T B L h H ρ σ) (ha : a ∈ T) (hn : ∀ (j : Nat) es, ρ[j]? = some (.own es) → σ[j]? ≠ some (some (.ref a)))
    (hH : H a = some (.lst vs)) (z : vs.length ≤ sizeLine) (r : RepL K ((T ++ B) ++ liveA h L) L H ds vs) : SLt K T B L h H (ρ.set i (.own ds)) (σ.set i (some (.ref a))) := by
  refine ⟨⟨by rw [List.length_set, List.length_set, s.sl.len], fun j x e => ?_⟩, fun j es e b e2 => ?_, fun j k es fs b e1 e2 e3 e4 => ?_⟩
  · rcases set_get e with ⟨q, hl, ex⟩ | ⟨q, e⟩
    · subst q ex
      exact ⟨some (.ref a), List.getElem?_set_self (by rw [← s.sl.len]; exact hl), a, vs, rfl, List.mem_append_left _ ha, hH, z, r⟩
    · rw [List.getElem?_set_ne q]
      exact s.sl.at_ j x e
  · rcases set_get e with ⟨q, hl, ex⟩ | ⟨q, e⟩
    · subst q
      rw [List.getElem?_set_self (by rw [← s.sl.len]; exact hl)] at e2
      cases e2
      exact ha
    · rw [List.getElem?_set_ne q] at e2
      exact s.ow j es e b e2
  · rcases set_get e1 with ⟨q, hl, ex⟩ | ⟨q, e1⟩ <;> rcases set_get e2 with ⟨q', hl', ex'⟩ | ⟨q', e2⟩
    · rw [← q, ← q']
    · subst q
      rw [List.getElem?_set_self (by rw [← s.sl.len]; exact hl)] at e3
      cases e3
      rw [List.getElem?_set_ne q'] at e4
      exact absurd e4 (hn k fs e2)
    · subst q'
      rw [List.getElem?_set_self (by rw [← s.sl.len]; exact hl')] at e4
      cases e4
      rw [List.getElem?_set_ne q] at e3
      exact absurd e3 (hn j es e1)
    · rw [List.getElem?_set_ne q] at e3
      rw [List.getElem?_set_ne q'] at e4
      exact s.ap j k es fs b e1 e2 e3 e4
theorem setPar_ok {K : PySem.W.Frag} {T B L : List Addr} {h : Hs} {H : Hp} : ∀ {is : List Nat} {fl : List Bool} {ds : List D} {vs : List V} {As : List Addr} {ρ ρ' : Rho} {σ : L2.St}, SLt K T B L h H ρ σ → ParR K ((T ++ B) ++ liveA h L) L H As fl ds vs → (∀ a ∈ As, a ∈ T) →
    (∀ a ∈ As, ∀ (j : Nat) es, ρ[j]? = some (.own es) → σ[j]? ≠ some (some (.ref a))) → setPar ρ is fl ds = some ρ' → SLt K T B L h H ρ' (Ev.setV σ is vs) ∧ vs.length = is.length
  | [], [], [], vs, As, ρ, ρ', σ, s, pr, hA, hn, e => by
    simp only [setPar] at e
    cases e
    cases vs with
    | nil => exact ⟨s, rfl⟩
    | cons v r => simp [ParR] at pr
  | i :: is, false :: fl, d :: ds, vs, As, ρ, ρ', σ, s, pr, hA, hn, e => by
    simp only [setPar] at e
    cases vs with
    | nil => simp [ParR] at pr
    | cons v r =>
      simp only [ParR] at pr
      have := setPar_ok (is := is) (s.set (i := i) pr.1) pr.2 hA (fun a m j es ej => by
        rcases set_get ej with ⟨_, _, q⟩ | ⟨q, ej⟩
        · cases q
        · rw [List.getElem?_set_ne q]; exact hn a m j es ej) e
      exact ⟨this.1, by simp [this.2]⟩
  | i :: is, true :: fl, .lst es :: ds, vs, As, ρ, ρ', σ, s, pr, hA, hn, e => by
    simp only [setPar] at e
    cases vs with
    | nil => cases As <;> simp [ParR] at pr
    | cons v r =>
      cases As with
      | nil => simp [ParR] at pr
      | cons a As =>
        simp only [ParR] at pr
        obtain ⟨rfl, na, ⟨us, hH, z, rr⟩, pr⟩ := pr
        have := setPar_ok (is := is) (s.setOwn (i := i) (hA a List.mem_cons_self) (hn a List.mem_cons_self) hH z rr) pr (fun b m => hA b (List.mem_cons_of_mem _ m)) (fun b m j es' ej => by
          rcases set_get ej with ⟨q, hl, _⟩ | ⟨q, ej⟩
          · subst q
            rw [List.getElem?_set_self (by rw [← s.sl.len]; exact hl)]
            intro q
            cases q
            exact na m
          · rw [List.getElem?_set_ne q]; exact hn b (List.mem_cons_of_mem _ m) j es' ej) e
        exact ⟨this.1, by simp [this.2]⟩
  | [], [], _ :: _, _, _, _, _, _, _, _, _, _, e => by simp [setPar] at e
  | [], _ :: _, _, _, _, _, _, _, _, _, _, _, e => by simp [setPar] at e
  | _ :: _, [], _, _, _, _, _, _, _, _, _, _, e => by simp [setPar] at e
  | _ :: _, false :: _, [], _, _, _, _, _, _, _, _, _, e => by simp [setPar] at e
  | _ :: _, true :: _, [], _, _, _, _, _, _, _, _, _, e => by simp [setPar] at e
  | _ :: _, true :: _, .non :: _, _, _, _, _, _, _, _, _, _, e | _ :: _, true :: _, .bl _ :: _, _, _, _, _, _, _, _, _, _, e | _ :: _, true :: _, .int _ :: _, _, _, _, _, _, _, _, _, _, e | _ :: _, true :: _, .str _ :: _, _, _, _, _, _, _, _, _, _, e
  | _ :: _, true :: _, .tup _ :: _, _, _, _, _, _, _, _, _, _, e | _ :: _, true :: _, .dct _ _ _ :: _, _, _, _, _, _, _, _, _, _, e | _ :: _, true :: _, .ref _ :: _, _, _, _, _, _, _, _, _, _, e | _ :: _, true :: _, .scr _ :: _, _, _, _, _, _, _, _, _, _, e => by simp [setPar] at e
theorem run_par {Γ : FT} {is : List Nat} {fl : List Bool} {xs : List X} {ts vs : List Expr} {k k2 : Nat} {p p2 : Pos} {C : Ck} (hc : X'.calm = true) (hN : X'.N.Nodup) (hC : C.N = X'.N) (hk : X'.env.scope.kind = .function) (hst : stMany C (fun _ => false) X'.env.scope is ts = true) (hnd : is.Nodup)
    (hl : is.length = 2 ∨ is.length = 3) (hsw : swapN X'.env.scope ts vs = some (some (namesOf ts))) (pa : PA X' vs (tP X'.K Γ xs fl)) : PS X' (.Assign [.Tuple ts k p] (.Tuple vs k2 p2) pos) (tRun X'.K (evS Γ (.par is fl xs))) := by
  have hw := swapN_ok hk hsw (k := k) (k2 := k2) (p := p) (p2 := p2)
  have hlen : vs.length = ts.length := by
    rcases Decidable.em (vs.length = ts.length) with q | q
    · exact q
    · exfalso
      unfold swapN at hsw
      rw [if_pos (by simp [q])] at hsw
      cases hsw
  have htl := namesOf_many hst
  have fin : ∀ D σ H, tRun X'.K (evS Γ (.par is fl xs)) D σ H → tP X'.K Γ xs fl σ H fun ws H1 => ws.length = is.length ∧ D.nx (Ev.setV σ is ws) H1 := by
    intro D σ H ⟨T, B, L, h, ρ, f, ρ', h', c, sl, ev, q⟩
    simp only [evS] at ev
    obtain ⟨⟨ds, h1⟩, e1, e2⟩ := bs ev
    obtain ⟨ρ1, e3, e4⟩ := bs e2
    cases e4
    have fo := setPar_fl e3
    refine ⟨T ++ B, L, h, ρ, ds, _, c, sl.sl, e1, fo.1, fun ws H1 L1 A As st c1 sl1 hA hAs pr => ?_⟩
    rw [← List.append_assoc] at c1 sl1 pr
    have s1 : SLt X'.K (A ++ T) B L1 h1 H1 ρ σ := ⟨sl1, fun i es ei a ea => List.mem_append_right _ (sl.ow i es ei a ea), sl.ap⟩
    have hn : ∀ a ∈ As, ∀ (j : Nat) es, ρ[j]? = some (.own es) → σ[j]? ≠ some (some (.ref a)) := fun a m j es ej ea => by
      obtain ⟨b, us, eb, hb, hHb, _⟩ := sl.own ej
      rw [ea] at eb
      cases eb
      rw [hA a (hAs a m)] at hHb; cases hHb
    obtain ⟨s2, hlw⟩ := setPar_ok s1 pr (fun a m => List.mem_append_left _ (hAs a m)) hn e3
    refine ⟨hlw, q (A ++ T) _ H1 L1 ⟨st.pre, fun a o e n m => st.keep a o e m, st.live, st.there, fun a m => ?_⟩ c1 s2⟩
    rcases List.mem_append.mp m with m | m
    · exact .inr (hA a m)
    · exact .inl m
  rcases hl with hl | hl
  · match is, ts, vs, hl, htl, hlen, hst, hnd, hw, pa, fin with
    | [i, j], [t1, t2], [a, b], _, _, _, hst, hnd, hw, pa, fin =>
      cases t1 <;> first | (simp [stMany] at hst; done) | skip
      cases t2 <;> first | (simp [stMany] at hst; done) | skip
      simp only [stMany, Bool.and_eq_true] at hst
      obtain ⟨a1, b1⟩ := stNo hC hst.1
      obtain ⟨a2, b2⟩ := stNo hC hst.2.1
      have hij : i ≠ j := fun e => by subst e; simp at hnd
      refine ps_weak (ps_par hc hN a1 a2 hij b1 b2 pa (by simpa only [namesOf] using hw) (by rfl)) fun D σ H q => ?_
      obtain ⟨O, L, h, ρ, ds, h', c, sl, ev, fo, q2⟩ := fin D σ H q
      refine ⟨O, L, h, ρ, ds, h', c, sl, ev, fo, fun ws H1 L1 A As st c1 sl1 hA hAs r => ?_⟩
      obtain ⟨hlw, qq⟩ := q2 ws H1 L1 A As st c1 sl1 hA hAs r
      match ws, hlw, qq with
      | [v, w], _, qq => exact ⟨v, w, rfl, qq⟩
  · match is, ts, vs, hl, htl, hlen, hst, hnd, hw, pa, fin with
    | [i, j, l], [t1, t2, t3], [a, b, cc], _, _, _, hst, hnd, hw, pa, fin =>
      cases t1 <;> first | (simp [stMany] at hst; done) | skip
      cases t2 <;> first | (simp [stMany] at hst; done) | skip
      cases t3 <;> first | (simp [stMany] at hst; done) | skip
      simp only [stMany, Bool.and_eq_true] at hst
      obtain ⟨a1, b1⟩ := stNo hC hst.1
      obtain ⟨a2, b2⟩ := stNo hC hst.2.1
      obtain ⟨a3, b3⟩ := stNo hC hst.2.2.1
      have hij : i ≠ j := fun e => by subst e; simp at hnd
      have hil : i ≠ l := fun e => by subst e; simp at hnd
      have hjl : j ≠ l := fun e => by subst e; simp at hnd
      refine ps_weak (ps_par3 hc hN a1 a2 a3 hij hil hjl b1 b2 b3 pa (by simpa only [namesOf] using hw) (by rfl)) fun D σ H q => ?_
      obtain ⟨O, L, h, ρ, ds, h', c, sl, ev, fo, q2⟩ := fin D σ H q
      refine ⟨O, L, h, ρ, ds, h', c, sl, ev, fo, fun ws H1 L1 A As st c1 sl1 hA hAs r => ?_⟩
      obtain ⟨hlw, qq⟩ := q2 ws H1 L1 A As st c1 sl1 hA hAs r
      match ws, hlw, qq with
      | [v, w, u], _, qq => exact ⟨v, w, u, rfl, qq⟩
theorem vf_down {K : PySem.W.Frag} {T B T0 L : List Addr} {h : Hs} {H : Hp} {d : D} {v : V} (f : VF K (T ++ B) T0 L h H d v) : VF K B T0 L h H d v := by
  have sub : ∀ b ∈ B ++ liveA h L, b ∈ (T ++ B) ++ liveA h L := fun b m => by
    simp only [List.mem_append] at m ⊢
    rcases m with m | m
    · exact .inl (.inr m)
    · exact .inr m
  cases d with
  | lst ds =>
    obtain ⟨a, vs, e, e2, q, z, r⟩ := f
    refine ⟨a, vs, e, e2, q, z, RepL.mv (mv_sub fun b m => ?_) ds vs r⟩
    rcases List.mem_cons.mp m with m | m
    · rw [m]; exact List.mem_cons_self
    · exact List.mem_cons_of_mem _ (sub b m)
  | dct t ks vs => exact f.elim
  | _ => exact ⟨f.1, Rep.mv (mv_sub sub) _ _ f.2⟩
theorem run_reto {Γ : FT} {C : Ck} {i : Nat} {id : Str} {p : Pos} (hb : nameB C X'.env.scope i id = true) (hC : C.N = X'.N) : PS X' (.Return (some (.Name id p)) pos) (tRun X'.K (evS Γ (.reto i))) := by
  unfold nameB at hb
  simp only [Bool.and_eq_true, decide_eq_true_eq] at hb
  rw [hC] at hb
  obtain ⟨p1, p2, p3⟩ := plainId_of hb.2
  have po : PE X' (.Name id p) (fun σ H Q => ∃ v, σ[i]? = some (some v) ∧ Q v H) := pe_weak (pe_var hb.1.1 (vis_of hb.1.2) p1 p2) fun σ H Q q => q
  refine ps_weak (ps_ret po) fun D σ H ⟨T, B, L, h, ρ, f, ρ', h', c, sl, ev, q⟩ => ?_
  simp only [evS] at ev
  split at ev
  · rename_i xs hx
    cases ev
    obtain ⟨a, vs, ea, ha, hH, z, r⟩ := sl.own hx
    refine ⟨.ref a, ea, q T σ H L SStp.refl c sl (.ref a) [a] (fun b m => by rw [List.mem_singleton.mp m]; exact ha) (c.less (List.Sublist.append (List.singleton_sublist.mpr ha) (List.Sublist.refl _))) ⟨a, vs, rfl, rfl, hH, z, RepL.mv (mv_sub fun b m => ?_) _ _ r⟩⟩
    simp only [List.mem_cons, List.mem_append] at m ⊢
    rcases m with m | m | m
    · rw [m]; exact .inl (.inl ha)
    · exact .inl (.inr m)
    · exact .inr m
  · cases ev
theorem run_retf {Γ : FT} {x : X} {e : Expr} (nb : x.isBor = false) (p : PE X' e (tX X'.K Γ x)) : PS X' (.Return (some e) pos) (tRun X'.K (evS Γ (.retf x))) := by
  refine ps_weak (ps_ret p) fun D σ H ⟨T, B, L, h, ρ, f, ρ', h', c, sl, ev, q⟩ => ?_
  simp only [evS] at ev
  obtain ⟨⟨d, h1⟩, e1, ev2⟩ := bs ev
  dsimp only at ev2
  split at ev2
  · rename_i g
    cases ev2
    refine ⟨T ++ B, L, h, ρ, d, _, c, sl.sl, e1, fun v H1 L1 T1 st c1 hT r => ?_⟩
    have vf : VF X'.K (T ++ B) T1 L1 h' H1 d v := by
      unfold VR at r
      split at r
      · exact r
      · rename_i nf
        rcases g with g | g
        · exact absurd g nf
        · rw [if_neg (by rw [nb]; exact Bool.false_ne_true)] at r
          cases d <;> first | (simp [isSeqD] at g; done) | exact r
    have e2 : (T1 ++ T) ++ B = T1 ++ (T ++ B) := by simp
    have s1 : SLt X'.K (T1 ++ T) B L1 h' H1 ρ σ := by
      refine ⟨?_, fun i es ei a ea => List.mem_append_right _ (sl.ow i es ei a ea), sl.ap⟩
      rw [e2]
      cases d with
      | lst ds =>
        obtain ⟨a, vs, e, _⟩ := vf
        subst e
        exact sl.sl.mvD c st (hT a (by simp))
      | dct t ks vs => exact vf.elim
      | _ => rw [vf.1]; exact (sl.stp c st).sl
    refine q (T1 ++ T) σ H1 L1 ⟨st.pre, fun b o e n m => st.keep b o e m, st.live, st.there, fun b m => ?_⟩ (by rw [e2]; exact c1) s1 v T1 (fun a m => List.mem_append_left _ m) (c1.less (List.Sublist.append (List.Sublist.refl _) (List.sublist_append_right _ _))) (vf_down vf)
    rcases List.mem_append.mp m with m | m
    · exact .inr (hT b m)
    · exact .inl m
  · cases ev2
def tMu (K : PySem.W.Frag) (Γ : FT) (m : Mu) (i : Nat) (xs : List X) : TE := fun σ H Q => ∃ T B L h ρ ds h1 ys r, CR K (T ++ B) L h H ∧ SLt K T B L h H ρ σ ∧ evL Γ xs ρ h = some (ds, h1) ∧ ρ[i]? = some (.own ys) ∧ muL m ys ds = some r ∧
  ∀ v H' L', SStp T L h H T L' h1 H' → CR K (T ++ B) L' h1 H' → SLt K T B L' h1 H' (ρ.set i (.own r.1)) σ → Rep K ((T ++ B) ++ liveA h1 L') L' H' r.2 v → Q v H'
def tSlot (i : Nat) : TE := fun σ H Q => ∃ v, σ[i]? = some (some v) ∧ Q v H
theorem pe_mu {Γ : FT} {C : Ck} {m : Mu} {i : Nat} {xs : List X} {es : List Expr} {id nm : Str} {p ap cp : Pos} (hb : nameB C X'.env.scope i id = true) (hC : C.N = X'.N) (hn : nm = muName m) (hm : m ≠ .setix) (hl : ap.endLine = cp.line) (h8 : xs.length ≤ 8)
    (hx : chkL C fn X'.env.scope (muSt m) xs es = true) (pa : PA X' es (tL X'.K Γ (muSt m) xs)) : PE X' (.Call (.Attribute (.Name id p) nm ap) es [] cp) (tMu X'.K Γ m i xs) := by
  unfold nameB at hb
  simp only [Bool.and_eq_true, decide_eq_true_eq] at hb
  rw [hC] at hb
  obtain ⟨p1, p2, p3⟩ := plainId_of hb.2
  have po : PE X' (.Name id p) (tSlot i) := pe_weak (pe_var hb.1.1 (vis_of hb.1.2) p1 p2) fun σ H Q q => q
  have line : (ap.endLine == cp.line) = true := by rw [hl]; exact beq_self_eq_true _
  have fin : ∀ σ H Q, tMu X'.K Γ m i xs σ H Q → tSlot i σ H fun x H1 => tyV X'.K "list" x H1 ∧ tL X'.K Γ (muSt m) xs σ H1 fun vs H2 => rMu X'.K m x vs H2 Q := by
    intro σ H Q ⟨T, B, L, h, ρ, ds, h1, ys, r, c, sl, ev, hy, e, q⟩
    obtain ⟨a, us, ea, ha, hH, z, ry⟩ := sl.own hy
    refine ⟨.ref a, ea, .inl ⟨rfl, us, SqL.of hH⟩, T ++ B, L, h, ρ, ds, h1, c, sl.sl, ev, fun vs H1 L1 st c1 rd => ?_⟩
    have hH1 : H1 a = some (.lst us) := st.keep a _ hH (c.not_live (List.mem_append_left _ ha))
    have ry1 := RepL.mv (st.mv (O := T ++ B)) _ _ ry
    refine muL_run hH1 z ry1 rd e hm fun v us' z' ry' rv => ?_
    have hM : a ∈ (T ++ B) ++ liveA h1 L1 := List.mem_append_left _ (List.mem_append_left _ ha)
    exact q v _ L1 (st.ss.mutT ha) (c1.mut (List.mem_append_left _ ha)) ((sl.stp c st).mut hy ea ha z' ry') (Rep.mv (mv_mut hM) _ _ rv)
  cases es with
  | nil =>
    have hx0 : xs = [] := by
      cases xs with
      | nil => rfl
      | cons x xs => simp [chkL] at hx
    subst hx0
    have core : PE X' (.Call (.Attribute (.Name id p) nm ap) [] [] cp) (tBM0 X'.K "list" (rMu X'.K m) (tSlot i)) := by
      subst hn
      cases m <;> first
        | exact absurd rfl hm
        | exact pe_bm0 F.plainAttrs_list F.slot_list_append F.type_list_append (mt_mu .append) po rfl line
        | exact pe_bm0 F.plainAttrs_list F.slot_list_extend F.type_list_extend (mt_mu .extend) po rfl line
        | exact pe_bm0 F.plainAttrs_list F.slot_list_pop F.type_list_pop (mt_mu .pop) po rfl line
        | exact pe_bm0 F.plainAttrs_list F.slot_list_pop F.type_list_pop (mt_mu .popat) po rfl line
        | exact pe_bm0 F.plainAttrs_list F.slot_list_reverse F.type_list_reverse (mt_mu .reverse) po rfl line
        | exact pe_bm0 F.plainAttrs_list F.slot_list_insert F.type_list_insert (mt_mu .insert) po rfl line
        | exact pe_bm0 F.plainAttrs_list F.slot_list_remove F.type_list_remove (mt_mu .remove) po rfl line
    refine pe_weak core fun σ H Q q => ?_
    obtain ⟨x, ex, ty, O, L, h, ρ, ds, h', c, sl, ev, q2⟩ := fin σ H Q q
    simp only [evL] at ev
    cases ev
    exact ⟨x, ex, ty, q2 [] H L Stp.refl c .nil⟩
  | cons e es =>
    have few : ((backTo cp (starEach (e :: es) X'.env)).all (fun x => !x.1) && (backToKw cp (keywordEach [] X'.env)).all (fun x => x.1.isSome)
        && decide ((e :: es).length + ([] : List Keyword).length + (if ([] : List Keyword).isEmpty then 0 else 1) < 30)) = true := by
      rw [allNot hx X'.env cp, Bool.true_and]
      have e1 : (backToKw cp (keywordEach [] X'.env)).all (fun x => x.1.isSome) = true := rfl
      rw [e1, Bool.true_and, decide_eq_true_eq]
      have := chkL_len hx
      simp only [List.length_nil, List.isEmpty_nil, if_true]
      omega
    have hs : starEach (e :: es) X'.env = (false, eval e X'.env) :: starEach es X'.env ∧ (backTo cp (starEach es X'.env)).any (·.1) = false := by
      cases xs with
      | nil => simp [chkL] at hx
      | cons x xs =>
        simp only [chkL, Bool.and_eq_true] at hx
        exact ⟨notStar x C fn _ hx.1.1 es _, starL hx.2 _ _⟩
    have core : PE X' (.Call (.Attribute (.Name id p) nm ap) (e :: es) [] cp) (tBM X'.K "list" (rMu X'.K m) (tSlot i) (tL X'.K Γ (muSt m) xs)) := by
      subst hn
      cases m <;> first
        | exact absurd rfl hm
        | exact pe_bm F.plainAttrs_list F.slot_list_append F.type_list_append (mt_mu .append) po pa rfl few line hs.1 hs.2
        | exact pe_bm F.plainAttrs_list F.slot_list_extend F.type_list_extend (mt_mu .extend) po pa rfl few line hs.1 hs.2
        | exact pe_bm F.plainAttrs_list F.slot_list_pop F.type_list_pop (mt_mu .pop) po pa rfl few line hs.1 hs.2
        | exact pe_bm F.plainAttrs_list F.slot_list_pop F.type_list_pop (mt_mu .popat) po pa rfl few line hs.1 hs.2
        | exact pe_bm F.plainAttrs_list F.slot_list_reverse F.type_list_reverse (mt_mu .reverse) po pa rfl few line hs.1 hs.2
        | exact pe_bm F.plainAttrs_list F.slot_list_insert F.type_list_insert (mt_mu .insert) po pa rfl few line hs.1 hs.2
        | exact pe_bm F.plainAttrs_list F.slot_list_remove F.type_list_remove (mt_mu .remove) po pa rfl few line hs.1 hs.2
    exact pe_weak core fin
theorem run_mut {Γ : FT} {m : Mu} {i : Nat} {xs : List X} {f : Expr} {es : List Expr} {cp : Pos} (p : PE X' (.Call f es [] cp) (tMu X'.K Γ m i xs)) : PS X' (.Expr (.Call f es [] cp) pos) (tRun X'.K (evS Γ (.mut m i xs))) := by
  refine ps_weak (ps_expr p rfl) fun D σ H ⟨T, B, L, h, ρ, f, ρ', h', c, sl, ev, q⟩ => ?_
  simp only [evS] at ev
  obtain ⟨⟨ds, h1⟩, e1, ev2⟩ := bs ev
  dsimp only at ev2
  split at ev2
  · rename_i ys hy
    obtain ⟨r, hr, e3⟩ := ms ev2
    cases e3
    exact ⟨T, B, L, h, ρ, ds, _, ys, r, c, sl, e1, hy, hr, fun v H' L' st c' sl' rv => q T σ H' L' st c' sl'⟩
  · cases ev2
theorem run_popv {Γ : FT} {m : Mu} {tg : Tg} {i : Nat} {xs : List X} {f t : Expr} {es : List Expr} {cp : Pos} (p : PE X' (.Call f es [] cp) (tMu X'.K Γ m i xs)) (pg : PG X' t (gTs X'.K tg)) (hw : swappedStores [t] (.Call f es [] cp) X'.env = pure none) (h1 : (assignEach [t] X'.env).map (·.2) = [assign t X'.env]) :
    PS X' (.Assign [t] (.Call f es [] cp) pos) (tRun X'.K (evS Γ (.popv tg m i xs))) := by
  refine ps_weak (ps_asg p pg rfl hw h1) fun D σ H ⟨T, B, L, h, ρ, f, ρ', h', c, sl, ev, q⟩ => ?_
  simp only [evS] at ev
  obtain ⟨⟨ds, h1⟩, e1, ev2⟩ := bs ev
  dsimp only at ev2
  split at ev2
  · rename_i ys hy
    obtain ⟨r, hr, e3⟩ := bs ev2
    obtain ⟨ρ1, hb, e4⟩ := bs e3
    cases e4
    exact ⟨T, B, L, h, ρ, ds, _, ys, r, c, sl, e1, hy, hr, fun v H' L' st c' sl' rv => ⟨T, B, L', _, _, r.2, _, c', sl', rv, hb, fun σ1 sl1 => q T σ1 H' L' st c' sl1⟩⟩
  · cases ev2
theorem subPlain {o ke : Expr} {p : Pos} {env : Env} (h : ∀ l u s p, ke ≠ .Slice l u s p) : ∀ v, assign (.Subscript o ke p) env v = (do
      let ov ← holding [v] (eval o env)
      let iv ← holding [v, ov] (eval ke env)
      standAt p
      holding [v, ov, iv] (setItem ov iv v)
      release [v, ov, iv] []) := by
  intro v
  cases ke with
  | Slice l u s p => exact absurd rfl (h l u s p)
  | _ => rfl
theorem run_setix {Γ : FT} {C : Ck} {i : Nat} {v k : X} {id : Str} {p0 p1 : Pos} {ke e : Expr} (hns : ∀ l u s p, ke ≠ .Slice l u s p) (hb : nameB C X'.env.scope i id = true) (hC : C.N = X'.N) (nb : v.isBor = false) (pv : PE X' e (tX X'.K Γ v)) (pk : PE X' ke (tX X'.K Γ k)) :
    PS X' (.Assign [.Subscript (.Name id p0) ke p1] e pos) (tRun X'.K (evS Γ (.mut .setix i [v, k]))) := by
  unfold nameB at hb
  simp only [Bool.and_eq_true, decide_eq_true_eq] at hb
  rw [hC] at hb
  obtain ⟨q1, q2, q3⟩ := plainId_of hb.2
  have po : PE X' (.Name id p0) (tSlot i) := pe_weak (pe_var hb.1.1 (vis_of hb.1.2) q1 q2) fun σ H Q q => q
  refine ps_weak (ps_asg (toS nb pv) (pg_sub po (toB pk) set_list (subPlain hns)) (swapsSub (a := .Name id p0) (b := ke) (p := p1) (e := e) pos.line X'.env) (by cases e <;> rfl) rfl) fun D σ H ⟨T, B, L, h, ρ, f, ρ', h', c, sl, ev, q⟩ => ?_
  simp only [evS] at ev
  obtain ⟨⟨ds, h1⟩, e1, ev2⟩ := bs ev
  simp only [evL] at e1
  obtain ⟨⟨d1, h2⟩, e2, e3⟩ := bs e1
  obtain ⟨⟨dr, h3⟩, e4, e5⟩ := bs e3
  obtain ⟨⟨d2, h4⟩, e6, e7⟩ := bs e4
  cases e7
  cases e5
  dsimp only at ev2
  split at ev2
  · rename_i ys hy
    obtain ⟨r, hr, e8⟩ := ms ev2
    cases e8
    refine ⟨T ++ B, L, h, ρ, d1, h2, c, sl.sl, e2, fun vv H1 L1 st c1 rv => ?_⟩
    have sl1 := sl.stp c st
    obtain ⟨a, us, ea, ha, hH, z, ry⟩ := sl1.own hy
    refine ⟨.ref a, ea, T ++ B, L1, h2, ρ, d2, _, c1, sl1.sl, e6, fun kk H2 L2 st2 c2 rk => ?_⟩
    have key : ∃ j kk', d2 = .int kk' ∧ ixN ys.length kk' = some j ∧ r = (ys.set j d1, .non) := by
      cases d2 with
      | int i2 =>
        simp only [muL] at hr
        split at hr
        · rename_i j hj
          cases hr
          exact ⟨j, i2, rfl, hj, rfl⟩
        · cases hr
      | _ => simp [muL] at hr
    obtain ⟨j, kk', rfl, hj, rfl⟩ := key
    have ry2 := RepL.mv (st2.mv (O := T ++ B)) _ _ ry
    have hH2 : H2 a = some (.lst us) := st2.keep a _ hH (c1.not_live (List.mem_append_left _ ha))
    refine ⟨a, us, kk', j, rfl, rb_int rk, hH2, by rw [ry.length]; exact hj, ?_⟩
    have rv2 := Rep.mv (st2.mv (O := T ++ B)) _ _ rv
    exact q T σ _ L2 ((st.ss.trans st2.ss).mutT ha) (c2.mut (List.mem_append_left _ ha)) ((sl1.stp c1 st2).mut hy ea ha (by rw [List.length_set]; exact z) (ry2.set rv2))
  · cases ev2
theorem run_cset {Γ : FT} {o k v : X} {p1 : Pos} {oe ke e : Expr} (hns : ∀ l u s p, ke ≠ .Slice l u s p) (nb : v.isBor = false) (pv : PE X' e (tX X'.K Γ v)) (po : PE X' oe (tX X'.K Γ o)) (pk : PE X' ke (tX X'.K Γ k)) :
    PS X' (.Assign [.Subscript oe ke p1] e pos) (tRun X'.K (evS Γ (.cset o k v))) := by
  refine ps_weak (ps_asg (toS nb pv) (pg_sub (toB po) (toB pk) set_list (subPlain hns)) (swapsSub (a := oe) (b := ke) (p := p1) (e := e) pos.line X'.env) (by cases e <;> rfl) rfl) fun D σ H ⟨T, B, L, h, ρ, f, ρ', h', c, sl, ev, q⟩ => ?_
  simp only [evS] at ev
  obtain ⟨⟨z, h1⟩, e1, ev2⟩ := bs ev
  obtain ⟨⟨x, h2⟩, e2, ev3⟩ := bs ev2
  obtain ⟨⟨y, h3⟩, e3, ev4⟩ := bs ev3
  obtain ⟨h4, e4, e5⟩ := ms ev4
  cases e5
  refine ⟨T ++ B, L, h, ρ, z, h1, c, sl.sl, e1, fun vv H1 L1 st1 c1 rv => ⟨T ++ B, L1, h1, ρ, x, h2, c1, (sl.stp c st1).sl, e2, fun vo H2 L2 st2 c2 ro => ⟨T ++ B, L2, h2, ρ, y, h3, c2, ((sl.stp c st1).stp c1 st2).sl, e3, fun vk H3 L3 st3 c3 rk => ?_⟩⟩⟩
  dsimp only at e4
  unfold csetD at e4
  split at e4
  · rename_i nn ii
    split at e4
    · rename_i xs hx
      split at e4
      · rename_i j hj
        cases e4
        have ro3 := ro.stp st3
        simp only [RepB, Rep] at ro3
        obtain ⟨a, rfl, ha⟩ := ro3
        obtain ⟨a', ha', ok⟩ := c3.ce nn _ hx
        rw [ha] at ha'
        cases ha'
        obtain ⟨us, hu, zz, ru⟩ := ok
        have rv3 := Rep.mv ((st2.trans st3).mv (O := T ++ B)) _ _ rv
        obtain ⟨c4, st4⟩ := cr_setc (ys := xs.set j z) (vs := us.set j vv) c3 hx ha (by rw [List.length_set]; exact zz) (ru.set rv3)
        refine ⟨a, us, ii, j, rfl, rb_int rk, hu, by rw [ru.length]; exact hj, ?_⟩
        have tot := ((st1.trans st2).trans st3).trans st4
        exact q T σ _ L3 tot.ss c4 (sl.stp c tot)
      · cases e4
    · cases e4
  · cases e4

theorem run_dput {n : Nat} {Γ : FT} {o k v : X} {p1 : Pos} {oe ke e : Expr} (hr : Room n X'.A) (nb : v.isBor = false) (no : o.isBor = false) (nk : k.isBor = false) (pv : PE X' e (tX X'.K Γ v)) (po : PE X' oe (tX X'.K Γ o)) (pk : PE X' ke (tX X'.K Γ k)) :
    PS X' (.Assign [.Subscript oe ke p1] e pos) (tRun X'.K (evS Γ (.dput o k v))) := by
  have hu : X'.A.units + 1 < cLine := by have := room65 hr; omega
  refine ps_weak (ps_dput hu (toS no po) (toS nk pk) (toS nb pv) (swapsSub (a := oe) (b := ke) (p := p1) (e := e) pos.line X'.env)) fun D σ H ⟨T, B, L, h, ρ, f, ρ', h', c, sl, ev, q⟩ => ?_
  simp only [evS] at ev
  obtain ⟨⟨z, h1⟩, e1, ev2⟩ := bs ev
  obtain ⟨⟨x, h2⟩, e2, ev3⟩ := bs ev2
  obtain ⟨⟨y, h3⟩, e3, ev4⟩ := bs ev3
  obtain ⟨h4, e4, e5⟩ := ms ev4
  cases e5
  refine ⟨T ++ B, L, h, ρ, z, h1, c, sl.sl, e1, fun vv H1 L1 st1 c1 rv => ⟨T ++ B, L1, h1, ρ, x, h2, c1, (sl.stp c st1).sl, e2, fun vo H2 L2 st2 c2 ro => ⟨T ++ B, L2, h2, ρ, y, h3, c2, ((sl.stp c st1).stp c1 st2).sl, e3, fun vk H3 L3 st3 c3 rk => ?_⟩⟩⟩
  dsimp only at e4
  unfold dputH at e4
  split at e4
  · rename_i nn ks ds kq hk hc
    split at e4
    · rename_i hlt
      cases e4
      obtain ⟨m, ad, kvs, em, rfl, hL, hh, hH, hz, rfl, rr⟩ := dcell_ok c3 hc (Rep.mv (st3.mv (O := T ++ B)) _ _ ro)
      cases em
      obtain ⟨rfl, rfl⟩ := dkey_rep hk rk
      rw [List.length_map] at hlt
      have rv3 := Rep.mv ((st2.trans st3).mv (O := T ++ B)) _ _ rv
      have hl : ad ∈ liveA h3 L3 := mem_live hh hL (by simp)
      have hM : ad ∈ (T ++ B) ++ liveA h3 L3 := List.mem_append_right _ hl
      have hll : lim ≤ sizeLine := lim_le
      have ok := put_ok (a := ad) (H' := upd H3 ad (.dK (putK kvs kq vv))) rv3 rr hlt (mv_mut hM) upd_same
      obtain ⟨c4, st4⟩ := cr_setC c3 (by simp) (dputC_nd _ _ _ _ _) hh hL ok
      refine ⟨ad, _, rfl, DPut.k hH (by omega), ?_⟩
      have tot := ((st1.trans st2).trans st3).trans st4
      exact q T σ _ L3 tot.ss c4 (sl.stp c tot)
    · cases e4
  · cases e4

section
variable {C : Ck} {sc : Scope} {t : Stmt}
theorem v_expr {x : X} (h : chkS C fn sc (.expr x) t = true) : ∃ e p, t = .Expr e p ∧ chkE C fn sc x e = true ∧ noLC e = true := by
  cases t <;> (try (simp [chkS] at h; done))
  simp only [chkS, Bool.and_eq_true] at h
  exact ⟨_, _, rfl, h.1, h.2⟩
theorem v_set {i : Nat} {x : X} (h : chkS C fn sc (.asg (.nm i) x) t = true) : ∃ id p e q, t = .Assign [.Name id p] e q ∧ setB C fn sc i id p x e = true ∧ x.isBor = false := by
  cases t <;> (try (simp [chkS] at h; done))
  simp only [chkS, Bool.and_eq_true, Bool.not_eq_true'] at h
  obtain ⟨h, h2⟩ := h
  unfold chkSet at h
  split at h
  · exact ⟨_, _, _, _, rfl, h, h2⟩
  · cases h
theorem v_tupS {is : List Nat} {x : X} (h : chkS C fn sc (.asg (.tp is) x) t = true) : ∃ ts k p e q, t = .Assign [.Tuple ts k p] e q ∧ chkT C fn sc (.tp is) (.Tuple ts k p) = true ∧ chkE C fn sc x e = true ∧ x.isBor = false ∧ storesB C sc is x ts e = true ∧ sc.kind = .function := by
  cases t <;> (try (simp [chkS] at h; done))
  simp only [chkS] at h
  unfold chkTup at h
  split at h
  · simp only [Bool.and_eq_true, Bool.not_eq_true', decide_eq_true_eq] at h
    obtain ⟨⟨⟨⟨h1, h2⟩, h3⟩, h4⟩, h5⟩ := h
    exact ⟨_, _, _, _, _, rfl, h1, h2, h3, h4, h5⟩
  · cases h
theorem v_own {i : Nat} {x : X} (h : chkS C fn sc (.own i x) t = true) : ∃ id p e q, t = .Assign [.Name id p] e q ∧ setB C fn sc i id p x e = true := by
  cases t <;> (try (simp [chkS] at h; done))
  simp only [chkS, Bool.and_eq_true] at h
  obtain ⟨h, _⟩ := h
  unfold chkSet at h
  split at h
  · exact ⟨_, _, _, _, rfl, h⟩
  · cases h
theorem v_mu {m : Mu} {i : Nat} {xs : List X} {e : Expr} (h : chkMu C fn sc m i xs e = true) :
    ∃ id p nm ap es cp, e = .Call (.Attribute (.Name id p) nm ap) es [] cp ∧ nameB C sc i id = true ∧ nm = muName m ∧ m ≠ .setix ∧ ap.endLine = cp.line ∧ xs.length ≤ 8 ∧ chkL C fn sc (muSt m) xs es = true := by
  unfold chkMu at h
  split at h
  · simp only [Bool.and_eq_true, decide_eq_true_eq] at h
    obtain ⟨⟨⟨⟨⟨h1, h2⟩, h3⟩, h4⟩, h5⟩, h6⟩ := h
    exact ⟨_, _, _, _, _, _, rfl, h1, h2, h3, h4, h5, h6⟩
  · cases h
theorem v_mut {m : Mu} {i : Nat} {xs : List X} (h : chkS C fn sc (.mut m i xs) t = true) :
    (∃ id p nm ap es cp q, t = .Expr (.Call (.Attribute (.Name id p) nm ap) es [] cp) q ∧ nameB C sc i id = true ∧ nm = muName m ∧ m ≠ .setix ∧ ap.endLine = cp.line ∧ xs.length ≤ 8 ∧ chkL C fn sc (muSt m) xs es = true) ∨
    ∃ v k id p ke p1 e q, m = .setix ∧ xs = [v, k] ∧ t = .Assign [.Subscript (.Name id p) ke p1] e q ∧ nameB C sc i id = true ∧ chkE C fn sc v e = true ∧ v.isBor = false ∧ chkE C fn sc k ke = true := by
  cases t <;> (try (simp [chkS] at h; done))
  · simp only [chkS] at h
    unfold chkSetix at h
    split at h
    · simp only [Bool.and_eq_true, Bool.not_eq_true', decide_eq_true_eq] at h
      obtain ⟨⟨⟨⟨h0, h1⟩, h2⟩, h3⟩, h4⟩ := h
      exact .inr ⟨_, _, _, _, _, _, _, _, h0, rfl, rfl, h1, h2, h3, h4⟩
    · cases h
  · simp only [chkS] at h
    obtain ⟨id, p, nm, ap, es, cp, rfl, h1⟩ := v_mu h
    exact .inl ⟨id, p, nm, ap, es, cp, _, rfl, h1⟩
theorem v_popv {tg : Tg} {m : Mu} {i : Nat} {xs : List X} (h : chkS C fn sc (.popv tg m i xs) t = true) : ∃ t1 id p nm ap es cp q, t = .Assign [t1] (.Call (.Attribute (.Name id p) nm ap) es [] cp) q ∧ nameB C sc i id = true ∧ nm = muName m ∧ m ≠ .setix ∧ ap.endLine = cp.line ∧ xs.length ≤ 8 ∧
    chkL C fn sc (muSt m) xs es = true ∧ chkT C fn sc tg t1 = true := by
  cases t <;> (try (simp [chkS] at h; done))
  simp only [chkS, Bool.and_eq_true] at h
  obtain ⟨h, h7⟩ := h
  obtain ⟨id, p, nm, ap, es, cp, rfl, h1, h2, h3, h4, h5, h6⟩ := v_mu h
  unfold chkOne at h7
  split at h7
  · exact ⟨_, id, p, nm, ap, es, cp, _, rfl, h1, h2, h3, h4, h5, h6, h7⟩
  · cases h7
theorem v_cset {o k v : X} (h : chkS C fn sc (.cset o k v) t = true) : ∃ oe ke p e q, t = .Assign [.Subscript oe ke p] e q ∧ chkE C fn sc v e = true ∧ v.isBor = false ∧ chkE C fn sc o oe = true ∧ chkE C fn sc k ke = true := by
  cases t <;> (try (simp [chkS] at h; done))
  simp only [chkS] at h
  unfold chkCset at h
  split at h
  · simp only [Bool.and_eq_true, Bool.not_eq_true'] at h
    obtain ⟨⟨⟨h1, h2⟩, h3⟩, h4⟩ := h
    exact ⟨_, _, _, _, _, rfl, h1, h2, h3, h4⟩
  · cases h
theorem v_dput {o k v : X} (h : chkS C fn sc (.dput o k v) t = true) : ∃ oe ke p e q, t = .Assign [.Subscript oe ke p] e q ∧ chkE C fn sc v e = true ∧ v.isBor = false ∧ chkE C fn sc o oe = true ∧ chkE C fn sc k ke = true ∧ o.isBor = false ∧ k.isBor = false := by
  cases t <;> (try (simp [chkS] at h; done))
  simp only [chkS, Bool.and_eq_true, Bool.not_eq_true'] at h
  obtain ⟨⟨h, h1⟩, h2⟩ := h
  obtain ⟨oe, ke, p, e, q, a, b, c, d, f⟩ := v_cset (C := C) (sc := sc) (fn := fn) (o := o) (k := k) (v := v) (t := .Assign _ _ _) (by simp only [chkS]; exact h)
  exact ⟨oe, ke, p, e, q, a, b, c, d, f, h1, h2⟩
theorem v_if {c : X} {a b : List S} (h : chkS C fn sc (.ife c a b) t = true) : ∃ ce as bs p, t = .If ce as bs p ∧ chkE C fn sc c ce = true ∧ chkSs C fn sc a as = true ∧ chkSs C fn sc b bs = true := by
  cases t <;> (try (simp [chkS] at h; done))
  simp only [chkS, Bool.and_eq_true] at h
  exact ⟨_, _, _, _, rfl, h.1.1, h.1.2, h.2⟩
theorem v_for {tg : Tg} {it : It} {b : List S} (h : chkS C fn sc (.fors tg it b) t = true) : ∃ t1 i body p, t = .For t1 i body [] p ∧ chkT C fn sc tg t1 = true ∧ chkI C fn sc it i = true ∧ (it.two = true → tg.isTp = true) ∧ it.isBor = false ∧ chkSs C fn sc b body = true := by
  cases t <;> (try (simp [chkS] at h; done))
  rename_i t i body els pos
  cases els <;> (try (simp [chkS] at h; done))
  simp only [chkS, Bool.and_eq_true, Bool.or_eq_true, Bool.not_eq_true'] at h
  obtain ⟨⟨⟨⟨h1, h2⟩, h3⟩, h4⟩, h5⟩ := h
  refine ⟨_, _, _, _, rfl, h1, h2, fun q => ?_, h4, h5⟩
  rcases h3 with z | z
  · rw [q] at z; cases z
  · exact z
theorem v_while {c : X} {b : List S} (h : chkS C fn sc (.whil c b) t = true) : ∃ ce body p, t = .While ce body [] p ∧ chkE C fn sc c ce = true ∧ chkSs C fn sc b body = true := by
  cases t <;> (try (simp [chkS] at h; done))
  rename_i ce body els pos
  cases els <;> (try (simp [chkS] at h; done))
  simp only [chkS, Bool.and_eq_true] at h
  exact ⟨_, _, _, rfl, h.1, h.2⟩
theorem v_par {is : List Nat} {fl : List Bool} {xs : List X} (h : chkS C fn sc (.par is fl xs) t = true) : ∃ ts k p vs k2 p2 q, t = .Assign [.Tuple ts k p] (.Tuple vs k2 p2) q ∧ swapN sc ts vs = some (some (namesOf ts)) ∧ stMany C (fun _ => false) sc is ts = true ∧ is.Nodup ∧ (is.length = 2 ∨ is.length = 3) ∧
    sc.kind = .function ∧ chkL C fn sc true xs vs = true ∧ flB fl xs = true := by
  cases t <;> (try (simp [chkS] at h; done))
  simp only [chkS] at h
  unfold chkPar at h
  split at h
  · simp only [Bool.and_eq_true, decide_eq_true_eq] at h
    obtain ⟨⟨⟨⟨⟨⟨h1, h2⟩, h3⟩, h4⟩, h5⟩, h6⟩, h7⟩ := h
    exact ⟨_, _, _, _, _, _, _, rfl, h1, h2, h3, h4, h5, h6, h7⟩
  · cases h
theorem v_reto {i : Nat} (h : chkS C fn sc (.reto i) t = true) : ∃ id p q, t = .Return (some (.Name id p)) q ∧ nameB C sc i id = true := by
  cases t <;> (try (simp [chkS] at h; done))
  rename_i e pos
  rcases e with _ | e <;> (try (simp [chkS] at h; done))
  cases e <;> (try (simp [chkS] at h; done))
  exact ⟨_, _, _, rfl, by simpa only [chkS] using h⟩
theorem v_retf {x : X} (h : chkS C fn sc (.retf x) t = true) : ∃ e p, t = .Return (some e) p ∧ chkE C fn sc x e = true ∧ x.isBor = false := by
  cases t <;> (try (simp [chkS] at h; done))
  rename_i e pos
  cases e <;> (try (simp [chkS] at h; done))
  simp only [chkS, Bool.and_eq_true, Bool.not_eq_true'] at h
  exact ⟨_, _, rfl, h.1, h.2⟩
theorem v_ret {x : X} (h : chkS C fn sc (.ret x) t = true) : ∃ e p, t = .Return (some e) p ∧ chkE C fn sc x e = true ∧ x.isBor = false := by
  cases t <;> (try (simp [chkS] at h; done))
  rename_i e pos
  cases e <;> (try (simp [chkS] at h; done))
  simp only [chkS, Bool.and_eq_true, Bool.not_eq_true'] at h
  exact ⟨_, _, rfl, h.1, h.2⟩
theorem v_retn (h : chkS C fn sc .retn t = true) : ∃ p, t = .Return none p := by
  cases t <;> (try (simp [chkS] at h; done))
  rename_i e pos
  cases e <;> (try (simp [chkS] at h; done))
  exact ⟨_, rfl⟩
theorem v_brk (h : chkS C fn sc .brk t = true) : ∃ p, t = .Break p := by
  cases t <;> first | exact ⟨_, rfl⟩ | (simp [chkS] at h; done)
theorem v_cnt (h : chkS C fn sc .cnt t = true) : ∃ p, t = .Continue p := by
  cases t <;> first | exact ⟨_, rfl⟩ | (simp [chkS] at h; done)
theorem v_pas (h : chkS C fn sc .pas t = true) : ∃ p, t = .Pass p := by
  cases t <;> first | exact ⟨_, rfl⟩ | (simp [chkS] at h; done)
theorem v_frz {i : Nat} : chkS C fn sc (.frz i) t = false := by
  cases t <;> rfl
theorem one_store {tg : Tg} {t1 : Expr} (h : chkT C fn sc tg t1 = true) (env : Env) {f : Expr} {es : List Expr} {cp : Pos} : swappedStores [t1] (.Call f es [] cp) env = pure none ∧ (assignEach [t1] env).map (·.2) = [assign t1 env] := by
  unfold chkT at h
  split at h
  · exact ⟨rfl, rfl⟩
  · exact ⟨rfl, rfl⟩
  · cases h
end
theorem tup_ok {is : List Nat} {x : X} {ts : List Expr} {k : Nat} {p : Pos} {e : Expr} (g : Gd fns cs n X') (hf : ∀ y, fn y = true → X'.fn y = true) (h1 : chkT (ckOf fns cs X') fn X'.env.scope (.tp is) (.Tuple ts k p) = true) (h2 : chkE (ckOf fns cs X') fn X'.env.scope x e = true)
    (h3 : x.isBor = false) (h4 : storesB (ckOf fns cs X') X'.env.scope is x ts e = true) (h5 : X'.env.scope.kind = .function) : PS X' (.Assign [.Tuple ts k p] e pos) (tRun X'.K (evS (callF fns n) (.asg (.tp is) x))) := by
  have pe := (e_ok x X' fn e g hf h2).1
  have pg : PG X' (.Tuple ts k p) (gTs X'.K (.tp is)) := pg_Ts (C := ckOf fns cs X') g.calm g.nd rfl hf h1
  by_cases q : ∃ vs a b, e = .Tuple vs a b
  · obtain ⟨vs, a, b, rfl⟩ := q
    simp only [storesB, Bool.or_eq_true, Bool.and_eq_true, decide_eq_true_eq] at h4
    rcases h4 with h4 | ⟨⟨⟨⟨⟨k1, k2⟩, k3⟩, k4⟩, k5⟩, k6⟩
    · exact run_tup (swapsTup (e := .Tuple vs a b) (ts := ts) (k := k) (p := p) pos.line X'.env) (swapN_ok h5 h4) rfl h3 pe pg
    · cases x <;> (try (simp at k6; done))
      rename_i xs
      obtain ⟨es, k', p', ee, hl⟩ := v_tup h2
      cases ee
      exact run_swap g.calm g.nd (C := ckOf fns cs X') rfl h5 k2 k3 k4 k1 (chkL_len hl) (l_ok xs X' fn _ true g hf hl)
  · exact run_tup (swapsTup (e := e) (ts := ts) (k := k) (p := p) pos.line X'.env) (swapNo fun vs a b w => q ⟨vs, a, b, w⟩) rfl h3 pe pg
theorem chkSs_cons {C : Ck} {sc : Scope} {s : S} {r : List S} {t : Stmt} {ts : List Stmt} (hs : ∀ i, s ≠ .frz i) : chkSs C fn sc (s :: r) (t :: ts) = (chkS C fn sc s t && chkSs C fn sc r ts) := by
  cases s <;> first | exact absurd rfl (hs _) | rfl
theorem chkSs_frz {C : Ck} {sc : Scope} {i : Nat} {r : List S} {ts : List Stmt} : chkSs C fn sc (.frz i :: r) ts = chkSs C fn sc r ts := by
  cases ts <;> rfl
theorem chkSs_no {C : Ck} {sc : Scope} {s : S} {r : List S} (hs : ∀ i, s ≠ .frz i) : chkSs C fn sc (s :: r) [] = false := by
  cases s <;> first | exact absurd rfl (hs _) | rfl
theorem pl_ok : ∀ (xs : List X) (fl : List Bool) (X' : Cx) (fn : Str → Bool) (es : List Expr), Gd fns cs n X' → (∀ y, fn y = true → X'.fn y = true) → chkL (ckOf fns cs X') fn X'.env.scope true xs es = true → flB fl xs = true → PA X' es (tP X'.K (callF fns n) xs fl)
  | [], fl, X', fn, [], g, hf, h, hb => p_nil
  | x :: xs, f :: fl, X', fn, e :: es, g, hf, h, hb => by
    simp only [chkL, Bool.and_eq_true] at h
    simp only [flB, Bool.and_eq_true, Bool.or_eq_true, Bool.not_eq_true'] at hb
    have nb : x.isBor = false := by
      have := h.1.2
      simpa using this
    exact p_cons (notStar x _ _ _ h.1.1 es _) nb (fun q => by
      rcases hb.1 with z | z
      · rw [q] at z; cases z
      · exact z) (e_ok x X' fn e g hf h.1.1).1 (pl_ok xs fl X' fn es g hf h.2 hb.2)
  | [], _, _, _, _ :: _, _, _, h, _ => by simp [chkL] at h
  | _ :: _, _, _, _, [], _, _, h, _ => by simp [chkL] at h
  | _ :: _, [], _, _, _ :: _, _, _, _, hb => by simp [flB] at hb
theorem flB_len : ∀ {fl : List Bool} {xs : List X}, flB fl xs = true → fl.length = xs.length
  | [], [], _ => rfl
  | _ :: _, _ :: _, h => by
    simp only [flB, Bool.and_eq_true] at h
    simp [flB_len h.2]
  | [], _ :: _, h => by simp [flB] at h
  | _ :: _, [], h => by simp [flB] at h
mutual
theorem s_ok : ∀ (s : S) (X' : Cx) (fn : Str → Bool) (t : Stmt), Gd fns cs n X' → X'.xe = (fun _ _ => False) → (∀ y, fn y = true → X'.fn y = true) → chkS (ckOf fns cs X') fn X'.env.scope s t = true →
    PS X' t (tRun X'.K (evS (callF fns n) s))
  | .expr x, X', fn, t, g, hx, hf, h => by
    obtain ⟨e, p, rfl, h1, h2⟩ := v_expr h
    exact run_expr h2 (e_ok x X' fn _ g hf h1).1
  | .asg (.nm i) x, X', fn, t, g, hx, hf, h => by
    obtain ⟨id, p, e, q, rfl, h1, h2⟩ := v_set h
    exact run_set h2 (set_ok g hf h1)
  | .asg (.tp is) x, X', fn, t, g, hx, hf, h => by
    obtain ⟨ts, k, p, e, q, rfl, h1, h2, h3, h4, h5⟩ := v_tupS h
    exact tup_ok g hf h1 h2 h3 h4 h5
  | .own i x, X', fn, t, g, hx, hf, h => by
    obtain ⟨id, p, e, q, rfl, h1⟩ := v_own h
    exact run_own (set_ok g hf h1)
  | .mut m i xs, X', fn, t, g, hx, hf, h => by
    rcases v_mut h with ⟨id, p, nm, ap, es, cp, q, rfl, h1, h2, h3, h4, h5, h6⟩ | ⟨v, k, id, p, ke, p1, e, q, rfl, rfl, rfl, h1, h2, h3, h4⟩
    · exact run_mut (pe_mu (C := ckOf fns cs X') h1 rfl h2 h3 h4 h5 h6 (l_ok xs X' fn es _ g hf h6))
    · exact run_setix (C := ckOf fns cs X') (formE _ _ _ k ke h4).2.1 h1 rfl h3 (e_ok v X' fn e g hf h2).1 (e_ok k X' fn ke g hf h4).1
  | .popv tg m i xs, X', fn, t, g, hx, hf, h => by
    obtain ⟨t1, id, p, nm, ap, es, cp, q, rfl, h1, h2, h3, h4, h5, h6, h7⟩ := v_popv h
    exact run_popv (pe_mu (C := ckOf fns cs X') h1 rfl h2 h3 h4 h5 h6 (l_ok xs X' fn es _ g hf h6)) (pg_Ts (C := ckOf fns cs X') g.calm g.nd rfl hf h7) (one_store h7 X'.env).1 (one_store h7 X'.env (f := .Attribute (.Name id p) nm ap) (es := es) (cp := cp)).2
  | .dput o k v, X', fn, t, g, hx, hf, h => by
    obtain ⟨oe, ke, p, e, q, rfl, h1, h2, h3, h4, h5, h6⟩ := v_dput h
    exact run_dput g.room h2 h5 h6 (e_ok v X' fn e g hf h1).1 (e_ok o X' fn _ g hf h3).1 (e_ok k X' fn _ g hf h4).1
  | .cset o k v, X', fn, t, g, hx, hf, h => by
    obtain ⟨oe, ke, p, e, q, rfl, h1, h2, h3, h4⟩ := v_cset h
    exact run_cset (formE _ _ _ k _ h4).2.1 h2 (e_ok v X' fn e g hf h1).1 (e_ok o X' fn _ g hf h3).1 (e_ok k X' fn _ g hf h4).1
  | .ife c a b, X', fn, t, g, hx, hf, h => by
    obtain ⟨ce, as, bs, p, rfl, h1, h2, h3⟩ := v_if h
    exact run_if (e_ok c X' fn _ g hf h1).2 (ss_ok a X' fn _ g hx hf h2) (ss_ok b X' fn _ g hx hf h3)
  | .fors tg it b, X', fn, t, g, hx, hf, h => by
    obtain ⟨t1, i, body, p, rfl, h1, h2, h3, h4, h5⟩ := v_for h
    exact run_for hx g.calm h4 (i_ok it X' fn i t1 g hf h2 fun q => two_form h1 (h3 q)) (pg_Ts (C := ckOf fns cs X') g.calm g.nd rfl hf h1) (ss_ok b X' fn body g hx hf h5) (fun v => folded_of (formI h2) _ v)
  | .whil c b, X', fn, t, g, hx, hf, h => by
    obtain ⟨ce, body, p, rfl, h1, h2⟩ := v_while h
    exact run_while hx (e_ok c X' fn _ g hf h1).2 (ss_ok b X' fn _ g hx hf h2)
  | .par is fl xs, X', fn, t, g, hx, hf, h => by
    obtain ⟨ts, k, p, vs, k2, p2, q, rfl, h1, h2, h3, h4, h5, h6, h7⟩ := v_par h
    exact run_par (C := ckOf fns cs X') g.calm g.nd rfl h5 h2 h3 h4 h1 (pl_ok xs fl X' fn vs g hf h6 h7)
  | .reto i, X', fn, t, g, hx, hf, h => by
    obtain ⟨id, p, q, rfl, h1⟩ := v_reto h
    exact run_reto (C := ckOf fns cs X') h1 rfl
  | .retf x, X', fn, t, g, hx, hf, h => by
    obtain ⟨e, p, rfl, h1, h2⟩ := v_retf h
    exact run_retf h2 (e_ok x X' fn e g hf h1).1
  | .ret x, X', fn, t, g, hx, hf, h => by
    obtain ⟨e, p, rfl, h1, h2⟩ := v_ret h
    exact run_ret h2 (e_ok x X' fn _ g hf h1).1
  | .retn, X', fn, t, g, hx, hf, h => by
    obtain ⟨p, rfl⟩ := v_retn h
    exact run_retn
  | .brk, X', fn, t, g, hx, hf, h => by
    obtain ⟨p, rfl⟩ := v_brk h
    exact run_brk
  | .cnt, X', fn, t, g, hx, hf, h => by
    obtain ⟨p, rfl⟩ := v_cnt h
    exact run_cnt
  | .pas, X', fn, t, g, hx, hf, h => by
    obtain ⟨p, rfl⟩ := v_pas h
    exact run_pas
  | .frz i, X', fn, t, g, hx, hf, h => by
    rw [v_frz] at h
    cases h
theorem ss_ok : ∀ (ss : List S) (X' : Cx) (fn : Str → Bool) (ts : List Stmt), Gd fns cs n X' → X'.xe = (fun _ _ => False) → (∀ y, fn y = true → X'.fn y = true) → chkSs (ckOf fns cs X') fn X'.env.scope ss ts = true →
    PSs X' ts (tRun X'.K (evSs (callF fns n) ss))
  | [], X', fn, [], g, hx, hf, h => run_nil
  | [], _, _, _ :: _, _, _, _, h => by simp [chkSs] at h
  | s :: r, X', fn, ts, g, hx, hf, h => by
    by_cases q : ∃ i, s = .frz i
    · obtain ⟨i, rfl⟩ := q
      rw [chkSs_frz] at h
      exact run_frz (ss_ok r X' fn ts g hx hf h)
    · have q' : ∀ i, s ≠ .frz i := fun i e => q ⟨i, e⟩
      cases ts with
      | nil => rw [chkSs_no q'] at h; cases h
      | cons t ts =>
        rw [chkSs_cons q', Bool.and_eq_true] at h
        exact run_cons (s_ok s X' fn t g hx hf h.1) (ss_ok r X' fn ts g hx hf h.2)
end
end
end Ev


namespace Ev
open PySem L2 PySem.Spec PyProof.Rows

theorem fn_ofG {P : Program} {w : World} {K : PySem.W.Frag} {mg : Str → Option Value} {base : Heap} {k : Nat} {x qual : Str} {st : Stmt} {f : Addr} {fd : FuncData} {N ps : List Str} {sp : Sp} (F : Fun K x qual st f fd) (S : FnScope N ps (defScope st))
    (len : ∀ vs H Q E, sp vs H Q E → vs.length = ps.length)
    (hbody : ∀ (cdv : Value) (A : Around) (outer : List Env) (s : Shared) (H : Hp) (vs : List V) (Q : VK), Room k (A.deeper (envOfC qual (defScope st) s.heap.objs.size f cdv)) → (A.deeper (envOfC qual (defScope st) s.heap.objs.size f cdv)).guards = some [] → sp vs H Q (fun _ _ _ => False) →
      ∃ t, PSs (cxOf CX0 P w K mg base N qual (defScope st) f cdv A outer s H (fun _ _ _ => False)).nox (defBody st) t ∧ t { nx := fun _ H' => Q .non H', rt := Q } (L2.start N vs) H) :
    FnG P w K mg base (k + 1) f fd ps sp := by
  obtain ⟨oc, od, kV, doc, pm, an, cdv, ct, osl, rfl, lk, hcd⟩ := F.ex
  refine ⟨len, fun A outer s H args us vs Q hr hg e0 hb r hsp => ?_⟩
  have hl := len _ _ _ _ hsp
  have KX : K.In s.heap := e0.mod.kin.keeps fun b o e => (e0.bs b o e).1
  have lim : s.heap.NoLimit := e0.mod.nolimit.keeps fun b o e => (e0.bs b o e).1
  have hkind : ∀ y ∈ ps.zip us, (defScope st).names.lookup y.1 = some .local ∨ ((defScope st).names.lookup y.1 = some .cell ∧ ((cellsFrom (s.heap.objs.size + 1) (defScope st).names []).lookup y.1).isSome = true) := fun ⟨n, v⟩ hy => by
    rcases S.par n (List.of_mem_zip hy).1 with q | q
    · exact .inl q
    · exact .inr ⟨q, PySem.W.cellsFrom_some _ _ _ (.inl q)⟩
  refine codeAny_call_function hr.depth (KX _ _ lk) rfl S.co S.gen rfl (PySem.W.codeRec_of KX hcd) (hb _ _ _ _ ?_)
  refine wpAny_newFunctionEnv_cells S.kind hkind fun env he s1 x => ?_
  subst he
  refine ⟨lim.keeps x.toInCall.keep, codeAny_func ?_⟩
  obtain ⟨t, ht, hq⟩ := hbody cdv A outer s H vs Q (hr.deeper _) hg hsp
  have I : Inv (cxOf CX0 P w K mg base N qual (defScope st) f cdv A outer s H (fun _ _ _ => False)) [] (L2.start N vs) H s1 := inv_start S hr.hd e0 hl r x
  refine wpAny_mono (ht.nox.run [] s1 (L2.start N vs) H _ I hq) (fun fl s' hs => ?_) fun e s' hs => hs
  have fin : ∀ {σ' : L2.St} {H' : Hp} {v : V} {u : Value}, Inv (cxOf CX0 P w K mg base N qual (defScope st) f cdv A outer s H (fun _ _ _ => False)) [] σ' H' s' → RelV v u → Q v H' → CE outer P w H s Q u s' :=
    fun {σ' H' v u} J rv q => ⟨v, H', J.os, J.bare, J.base, J.hok, rv, q⟩
  cases fl with
  | ret u =>
    obtain ⟨v, σ', H', J, rv, q⟩ := hs
    exact fin J rv q
  | next =>
    obtain ⟨σ', H', J, q⟩ := hs
    exact fin (v := V.non) (u := Value.none) J rfl q
  | brk =>
    obtain ⟨_, _, _, q⟩ := hs
    exact False.elim q
  | cont =>
    obtain ⟨_, _, _, q⟩ := hs
    exact False.elim q

/-- what is known of a def's text -/
structure DefOk (K : PySem.W.Frag) (mg : Str → Option Value) (cs : List (Str × GD)) (names frs : List String) (f : String) (fn : Fn) : Prop where
  ex : ∃ (qual : Str) (st : Stmt) (N ps : List Str) (fa : Addr) (fd : FuncData), Fun K (Str.ofString f) qual st fa fd ∧ FnScope N ps (defScope st) ∧ Binds K fd ps [] ∧ mg (Str.ofString f) = some (.ref fa) ∧ N.length = fn.nl ∧ ps.length = fn.np ∧
    chkSs ⟨N, cs, names, frs⟩ (fun _ => true) (defScope st) fn.body (defBody st) = true
section
variable {P : Program} {w : World} {K : PySem.W.Frag} {mg : Str → Option Value} {base : Heap} {fns : List (String × Fn)} {cs : List (Str × GD)}
theorem sls_start {O L : List Addr} {h : Hs} {H : Hp} {ds : List D} {vs : List V} {N : List Str} {nl : Nat} (r : RepL K (O ++ liveA h L) L H ds vs) (hN : N.length = nl) (hl : vs.length ≤ N.length) :
    SLt K [] O L h H (ds.map .val ++ List.replicate (nl - ds.length) .un) (L2.start N vs) := by
  have hd := r.length
  have own : ∀ (i : Nat) es, (ds.map Sl.val ++ List.replicate (nl - ds.length) Sl.un)[i]? ≠ some (.own es) := fun i es e => by
    rcases Nat.lt_or_ge i (ds.map Sl.val).length with q | q
    · rw [List.getElem?_append_left q, List.getElem?_map] at e
      cases w : ds[i]? <;> rw [w] at e <;> cases e
    · rw [List.getElem?_append_right q, List.getElem?_replicate] at e
      split at e <;> cases e
  refine ⟨⟨?_, fun i s e => ?_⟩, fun i es e => absurd e (own i es), fun i j es _ _ e => absurd e (own i es)⟩
  · unfold L2.start
    simp only [List.length_append, List.length_map, List.length_replicate]
    omega
  · unfold L2.start
    rcases Nat.lt_or_ge i ds.length with q | q
    · rw [List.getElem?_append_left (by simpa using q), List.getElem?_map] at e
      cases w : ds[i]? with
      | none => rw [w] at e; cases e
      | some d =>
        rw [w] at e
        cases e
        obtain ⟨v, hv, rv⟩ := r.get w
        refine ⟨some v, ?_, v, rfl, rv⟩
        rw [List.getElem?_append_left (by simp; omega), List.getElem?_map, hv]
        rfl
    · rw [List.getElem?_append_right (by simpa using q), List.getElem?_replicate] at e
      split at e
      · rename_i q2
        cases e
        simp only [List.length_map] at q2
        have hl2 : i < (vs.map some ++ List.replicate (N.length - vs.length) (none : Option V)).length := by
          simp only [List.length_append, List.length_map, List.length_replicate]
          omega
        exact ⟨_, List.getElem?_eq_getElem hl2, trivial⟩
      · cases e
theorem one_av {f : String} {fn : Fn} {n : Nat} {qual : Str} {st : Stmt} {N ps : List Str} {fa : Addr} {fd : FuncData} (F : Fun K (Str.ofString f) qual st fa fd) (S : FnScope N ps (defScope st)) (hN : N.length = fn.nl) (hp : ps.length = fn.np)
    (hck : chkSs ⟨N, cs, fns.map (·.1), frsOf fns⟩ (fun _ => true) (defScope st) fn.body (defBody st) = true) (hb : ∀ x ∈ bltNames, mg x = none)
    (hc : ∀ x g, cs.lookup x = some g → ∃ u v, mg x = some u ∧ RelV v u ∧ ∀ M L H, Rep K M L H g.d v) (hfr : FrOk fns) (hf : fns.lookup f = some fn) (ih : ∀ f fn, fns.lookup f = some fn → FnAv P w K mg base fns n f fn) :
    FnG P w K mg base (n + 1) fa fd ps (spF K (callF fns (n + 1)) fn.np f fn.fr) := by
  refine fn_ofG (N := N) F S (fun vs H Q E h => by rw [h.1, hp]) fun cdv A outer s H vs Q hr hg h => ?_
  have G : Gd fns cs n (cxOf CX0 P w K mg base N qual (defScope st) fa cdv A outer s H (fun _ _ _ => False)).nox :=
    ⟨rfl, hr, hg, S.nd, hb, hc, hfr, ih⟩
  refine ⟨_, ss_ok fn.body _ (fun _ => true) (defBody st) G rfl (fun _ _ => rfl) hck, ?_⟩
  obtain ⟨hv, O, L, hh, ds, r, h', c, rl, ev, q⟩ := h
  have hpl : ps.length ≤ N.length := by
    have := congrArg List.length S.pre
    rw [List.length_take] at this
    omega
  simp only [callF, hf] at ev
  split at ev
  · rename_i hdn
    split at ev
    · rename_i ρ' h1 e1
      cases ev
      refine ⟨[], O, L, hh, _, _, ρ', _, c, sls_start (nl := fn.nl) rl hN (by omega), by rw [hdn]; exact e1, fun T' σ' H' L' st' c' sl' => ?_⟩
      exact q .non H' L' [] st'.st c'.dropT nT (by split <;> exact ⟨rfl, rep_non⟩)
    · rename_i d ρ' h1 e1
      split at ev
      · cases ev
      · rename_i nfr
        cases ev
        refine ⟨[], O, L, hh, _, _, ρ', _, c, sls_start (nl := fn.nl) rl hN (by omega), by rw [hdn]; exact e1, fun T' σ' H' L' st' c' sl' => ?_⟩
        exact fun v rv => q v H' L' [] st'.st c'.dropT nT (by rw [if_neg nfr]; exact ⟨rfl, rv⟩)
    · rename_i d ρ' h1 e1
      cases ev
      refine ⟨[], O, L, hh, _, _, ρ', _, c, sls_start (nl := fn.nl) rl hN (by omega), by rw [hdn]; exact e1, fun T' σ' H' L' st' c' sl' => ?_⟩
      intro v T0 sub c0 vf
      by_cases b : fn.fr = true
      · refine q v H' L' T0 st'.st c0 (fun a m => ?_) (by rw [if_pos b]; exact vf)
        rcases st'.tn a (sub a m) with z | z
        · cases z
        · exact z
      · exact q v H' L' [] st'.st c0.dropT nT (by rw [if_neg b]; exact ⟨rfl, vf.rep c0⟩)
    · cases ev
  · cases ev
theorem all_av (hD : ∀ f fn, fns.lookup f = some fn → DefOk K mg cs (fns.map (·.1)) (frsOf fns) f fn) (hb : ∀ x ∈ bltNames, mg x = none)
    (hc : ∀ x g, cs.lookup x = some g → ∃ u v, mg x = some u ∧ RelV v u ∧ ∀ M L H, Rep K M L H g.d v) (hfr : FrOk fns) : ∀ n f fn, fns.lookup f = some fn → FnAv P w K mg base fns n f fn
  | 0, f, fn, hf => by
    obtain ⟨qual, st, N, ps, fa, fd, F, S, B, hm, hN, hp, hck⟩ := (hD f fn hf).ex
    refine ⟨fa, fd, ps, hm, F.kp, B, hp, ⟨fun vs H Q E h => by rw [h.1, hp], fun A outer s H args us vs Q _ _ _ _ _ h => ?_⟩⟩
    obtain ⟨_, O, L, hh, ds, r, h', c, rl, ev, q⟩ := h
    simp [callF] at ev
  | n + 1, f, fn, hf => by
    obtain ⟨qual, st, N, ps, fa, fd, F, S, B, hm, hN, hp, hck⟩ := (hD f fn hf).ex
    exact ⟨fa, fd, ps, hm, F.kp, B, hp, one_av F S hN hp hck hb hc hfr hf (all_av hD hb hc hfr n)⟩
theorem dmap_one {f : String} {fn : Fn} {r : List (String × Fn)} {Pd : String → Fn → Prop} (h : Pd f fn) (hr : ∀ g gn, r.lookup g = some gn → Pd g gn) : ∀ g gn, ((f, fn) :: r).lookup g = some gn → Pd g gn := fun g gn e => by
  rw [List.lookup_cons] at e
  by_cases q : g == f
  · rw [q] at e
    cases e
    rw [show g = f by simpa using q]
    exact h
  · rw [show (g == f) = false by simpa using q] at e
    exact hr g gn e
theorem dmap_nil {Pd : String → Fn → Prop} : ∀ g gn, ([] : List (String × Fn)).lookup g = some gn → Pd g gn := fun g gn e => by cases e
theorem frs_by (h : (frsOf fns).all (fun f => match fns.lookup f with
    | some fn => fn.fr
    | none => true) = true) : FrOk fns := fun f m fn e => by
  have := List.all_eq_true.mp h f (by simpa using m)
  rw [e] at this
  exact this
theorem blt_one {x : Str} {r : List Str} (h : mg x = none) (hr : ∀ y ∈ r, mg y = none) : ∀ y ∈ x :: r, mg y = none := fun y m => by
  rcases List.mem_cons.mp m with e | m
  · rw [e]; exact h
  · exact hr y m
theorem blt_nil : ∀ y ∈ ([] : List Str), mg y = none := fun y m => (nomatch m)
theorem cst_nil : ∀ x g, ([] : List (Str × GD)).lookup x = some g → ∃ u v, mg x = some u ∧ RelV v u ∧ ∀ M L H, Rep K M L H g.d v := fun x g e => by cases e

theorem law_callG {P : Program} {w : World} {K : PySem.W.Frag} {mg mb : Str → Option Value} {k : Nat} {fa a : Addr} {fd : FuncData} {x : Str} {sp : Sp} {s₁ : Shared} {vs : List Value} {ns : List Int}
    (KX : K.In s₁.heap) (hns : s₁.heap.Ns mainGlobals mg) (hb : s₁.heap.Ns builtinsNs mb) (hbb : ∀ x : Str, x ≠ "__name__" → mb x = bootBuiltins x) (hlim : s₁.heap.NoLimit) (hg : s₁.gens = #[])
    (ha : s₁.heap.get? a = some { cls := .type "list", data := .seq vs.toArray }) (hi : IntsAre vs ns) (hl : ns.length ≤ sizeLine) (hr : Room k callerA)
    (F : ∀ base : Heap, K.In base → base.Ns mainGlobals mg → FnG P w K mg base k fa fd [x] sp) (hbind : ∀ (s : Shared) (u : Value), BindsTo s fd ⟨[u], []⟩ [(x, u)])
    (hsp : ∀ H : Hp, Only H → SqL K H a (ns.map V.int) → sp [.ref a] H (fun v _ => v = .bl true) fun _ _ _ => False) :
    codeAny (model P w) callerA (.call (.ref fa) ⟨[.ref a], []⟩) (fun r s' => r = .ok (.ret (.bool true)) ∧ OldK s₁.heap s'.heap ∧ s'.os = s₁.os ∧ AllBare s'.gens) s₁ := by
  have rv := vals_ints hi
  have lenV := hi.length
  have core : ∀ H : Hp, Only H → SqL K H a (ns.map V.int) → HOk P w H s₁.heap → (∀ b, H b ≠ none → b = a) → (H a ≠ none → K.lookup a = none) →
      codeAny (model P w) callerA (.call (.ref fa) ⟨[.ref a], []⟩) (fun r s' => r = .ok (.ret (.bool true)) ∧ OldK s₁.heap s'.heap ∧ s'.os = s₁.os ∧ AllBare s'.gens) s₁ := by
    intro H hO hS hok hA hK
    have base_of : ∀ {b : Addr} {o : Obj}, s₁.heap.get? b = some o → H b = none → (hidT s₁.heap H).get? b = some o := fun e n => hidT_get e n
    have noA : ∀ {b : Addr} {o : Obj} {es : Array DictEntry} {ep : Nat}, s₁.heap.get? b = some o → o.data = .dict es ep → H b = none := fun {b o es ep} e d => by
      cases q : H b with
      | none => rfl
      | some u =>
        have e' : b = a := hA b (by rw [q]; simp)
        subst e'
        rw [ha] at e; cases e
        have d' : Data.seq vs.toArray _ = Data.dict es ep := d
        cases d'
    have nsK : ∀ {b : Addr} {m : Str → Option Value}, s₁.heap.Ns b m → (hidT s₁.heap H).Ns b m := fun {b m} ⟨o, es, ep, e, d, r⟩ => ⟨o, es, ep, base_of e (noA e d), d, r⟩
    have hKb : K.In (hidT s₁.heap H) := fun b o e => base_of (KX b o e) (by
      cases q : H b with
      | none => rfl
      | some u =>
        have e' : b = a := hA b (by rw [q]; simp)
        subst e'
        rw [hK (by rw [q]; simp)] at e; cases e)
    have hM : Mod K mg (hidT s₁.heap H) := ⟨hKb, nsK hns, ⟨mb, nsK hb, hbb⟩, let ⟨mc, h1, h2⟩ := hlim; ⟨mc, nsK h1, h2⟩⟩
    have e0 : Env0 P w K mg (hidT s₁.heap H) callerA [] s₁ H := ⟨rfl, hM, fun b o e => of_hidT e, Nat.le_of_eq (hidT_size _ _), trivial, fun b hb => absurd (show b ∈ ([] : List Addr) from hb) (by simp), hok, .of_eq hg⟩
    refine codeAny_mono ((F _ hKb (nsK hns)).run callerA [] s₁ H ⟨[.ref a], []⟩ [.ref a] [.ref a] _ hr rfl e0 (hbind s₁ (.ref a)) (.cons rfl .nil) (hsp H hO hS)) fun r s' h => ?_
    cases r with
    | error e => exact False.elim h
    | ok fl =>
      cases fl with
      | next => exact False.elim h
      | brk => exact False.elim h
      | cont => exact False.elim h
      | ret u =>
        obtain ⟨v, H', os, bare, un, hok', r', q⟩ := h
        have q' : v = .bl true := q
        subst q'
        obtain rfl : u = Value.bool true := r'
        refine ⟨rfl, OldK.of_keep fun b o e => ?_, os, bare⟩
        cases q : H b with
        | none => exact un.keep b o e q (by intro z; exact absurd (show b ∈ ([] : List Addr) from z) (by simp)) (by simp)
        | some u =>
          rcases hO b with z | ⟨ob, xs, z⟩
          · rw [q] at z; cases z
          · have z2 := un.frzs b ob _ z
            obtain ⟨e1, _⟩ := hok b _ z
            obtain ⟨e2, _⟩ := hok' b _ z2
            rw [e] at e1; cases e1
            exact e2
  cases hk : K.lookup a with
  | some o =>
    have e := KX a o hk
    rw [ha] at e
    cases e
    refine core (fun _ => none) (fun _ => .inl rfl) (.inr ⟨_, vs.toArray, _, hk, rfl, rfl, rfl, by rw [List.size_toArray, lenV]; exact hl, by simpa using rv⟩) (fun b u z => by have z' : (none : Option HO) = some u := z; cases z') (fun b z => absurd rfl z) fun z => absurd rfl z
  | none =>
    refine core (fun b => if b = a then some (.frz { cls := .type "list", data := .seq vs.toArray } (.lst (ns.map V.int))) else none) (fun b => ?_) (.inl (.inr ⟨{ cls := .type "list", data := .seq vs.toArray }, if_pos rfl⟩)) (fun b u z => ?_) (fun b z => ?_) fun _ => hk
    · by_cases hb : b = a
      · exact .inr ⟨_, _, if_pos hb⟩
      · exact .inl (if_neg hb)
    · by_cases hb : b = a
      · have z' := (if_pos hb).symm.trans z
        cases z'
        subst hb
        exact ⟨ha, by rw [List.length_map]; exact hl, vs, _, rv, ha⟩
      · have z' := (if_neg hb).symm.trans z
        cases z'
    · by_cases hb : b = a
      · exact hb
      · exact absurd (if_neg hb) z
theorem walk_ofG {l : PySem.W.OpenLaw} {n k : Nat} {q : Program} {loose : List Str} {XP : (Str → Option Value) → Heap → Prop} {YP : World → Heap → Prop} {d : DefRec} {K : Params → PySem.W.Frag} {fns : List (String × Fn)} {x : Str}
    (hn : l.most = some n) (hn2 : n ≤ sizeLine) (hdf : d.params.defaults = []) (hr : Room k callerA)
    (hY : ∀ (w : World) (h : Heap), YP w h → (K w.params).In h)
    (F : ∀ (w : World) (mg : Str → Option Value) (fa : Addr) (h : Heap), (K w.params).In h → h.Ns mainGlobals mg → mg d.name = some (.ref fa) →
      ∃ fd : FuncData, (∀ (s : Shared) (u : Value), BindsTo s fd ⟨[u], []⟩ [(x, u)]) ∧
        ∀ base : Heap, (K w.params).In base → base.Ns mainGlobals mg → FnG l.prog w (K w.params) mg base k fa fd [x] (spF (K w.params) (callF fns k) 1 "law" false))
    (hm : ∀ ns : List Int, ns.length ≤ n → (∀ z ∈ ns, Builtin.Int.intBits z ≤ 1048576) → ∃ h', callF fns k "law" [.scr ns] [] = some (.bl true, h')) :
    PySem.W.WalkO q loose XP YP l.row.toRowW d [] (fun f vs => PySem.call f vs) := by
  refine Att.attach_callB hn hdf fun w s₀ s₁ mg mb fa o pm cd doc a vs ns G Y ho hd hcd hmg hobj hints hlen hbits hg => ?_
  have KX := hY w _ Y
  obtain ⟨fd, hb, hF⟩ := F w mg fa _ KX G.T.g hmg
  refine law_callG KX G.T.g G.T.b G.T.builtins G.T.nolimit hg hobj hints (Nat.le_trans hlen hn2) hr hF hb fun H hO hS => ?_
  obtain ⟨h', ev⟩ := hm ns hlen hbits
  refine ⟨rfl, [], [], [], [.scr ns], .bl true, h', ⟨rfl, List.nodup_nil, fun a m => (nomatch m), fun n c e => by simp at e⟩, RepL.one ?_, ev, fun v H' L' T _ _ _ r => by
    rw [if_neg Bool.false_ne_true] at r
    simpa only [Rep] using r.2⟩
  simp only [Rep]
  refine ⟨a, rfl, ?_⟩
  rcases hS with (hS | ⟨o, hS⟩) | hS
  · rcases hO a with z | ⟨o, xs, z⟩
    · rw [hS] at z; cases z
    · rw [hS] at z; cases z
  · exact .inl ⟨⟨o, hS⟩, by simp [liveA]⟩
  · exact .inr hS
end
end Ev

namespace Ev
open PySem L2

/-- what a def's run hands back -/
def fin : SR → Option (D × Hs)
  | some (.nx, _, h1) => some (.non, h1)
  | some (.rt d, _, h1) => some (d, h1)
  | some (.rf d, _, h1) => some (d, h1)
  | _ => none
theorem callF_succ {fns : List (String × Fn)} {n : Nat} {f : String} {fn : Fn} {ds : List D} {h : Hs} (hf : fns.lookup f = some fn) (hl : ds.length = fn.np) (hfr : fn.fr = false := by rfl) :
    callF fns (n + 1) f ds h = fin (evSs (callF fns n) fn.body (ds.map .val ++ List.replicate (fn.nl - fn.np) .un) h) := by
  simp only [callF, hf, hl, hfr, if_true, Bool.false_eq_true, if_false]
  rfl
theorem compL_some {step : D → Hs → Option (Option D × Hs)} {x : D} {r ys : List D} {o : Option D} {h h1 h2 : Hs} (e1 : step x h = some (o, h1)) (e2 : compL step r h1 = some (ys, h2)) : compL step (x :: r) h = some (o.toList ++ ys, h2) := by
  simp only [compL, e1, Option.bind_eq_bind, Option.bind_some, e2]
  cases o <;> rfl
theorem compL_map {step : D → Hs → Option (Option D × Hs)} {f : D → D} {h : Hs} : ∀ {xs : List D}, (∀ x ∈ xs, step x h = some (some (f x), h)) → compL step xs h = some (xs.map f, h)
  | [], _ => rfl
  | x :: r, hs => compL_some (hs x List.mem_cons_self) (compL_map (xs := r) fun y m => hs y (List.mem_cons_of_mem _ m))
theorem compL_filter {step : D → Hs → Option (Option D × Hs)} {f : D → D} {p : D → Bool} {h : Hs} : ∀ {xs : List D}, (∀ x ∈ xs, step x h = some (if p x = true then some (f x) else none, h)) → compL step xs h = some ((xs.filter p).map f, h)
  | [], _ => rfl
  | x :: r, hs => by
    rw [compL_some (hs x List.mem_cons_self) (compL_filter (xs := r) fun y m => hs y (List.mem_cons_of_mem _ m))]
    by_cases q : p x = true
    · simp [q]
    · simp [q]
theorem compL_inv {step : D → Hs → Option (Option D × Hs)} (P : Nat → Hs → List D → Prop) : ∀ {xs : List D} {h : Hs} {i : Nat} {ys : List D}, P i h ys → (∀ j x h ys, xs[j]? = some x → P (i + j) h ys → ∃ o h', step x h = some (o, h') ∧ P (i + j + 1) h' (ys ++ o.toList)) →
    ∃ zs h', compL step xs h = some (zs, h') ∧ P (i + xs.length) h' (ys ++ zs)
  | [], h, i, ys, p, _ => ⟨[], h, rfl, by simpa using p⟩
  | x :: r, h, i, ys, p, hs => by
    obtain ⟨o, h1, e1, p1⟩ := hs 0 x h ys rfl p
    obtain ⟨zs, h2, e2, p2⟩ := compL_inv P (xs := r) (i := i + 1) p1 fun j y h ys ey q => by
      have := hs (j + 1) y h ys (by simpa using ey) (by rw [show i + (j + 1) = i + 1 + j by omega]; exact q)
      rw [show i + (j + 1) + 1 = i + 1 + j + 1 by omega] at this
      exact this
    refine ⟨o.toList ++ zs, h2, ?_, by rw [List.length_cons, show i + (r.length + 1) = i + 1 + r.length by omega, ← List.append_assoc]; exact p2⟩
    exact compL_some e1 e2
theorem ev_comp {Γ : FT} {own : List Nat} {tg : Tg} {it : It} {c e : X} {ρ : Rho} {h h1 h2 : Hs} {xs ys : List D} (hi : evI Γ it ρ h = some (xs, h1)) (hc : compL (stepC Γ own tg c e ρ) xs h1 = some (ys, h2)) : evE Γ (.comp own tg it c e) ρ h = some (.lst ys, h2) := by
  have hc' := hc
  unfold stepC at hc'
  simp only [evE, hi, bind, Option.bind]
  simp only [bind, Option.bind] at hc'
  simp only [hc']
theorem forL_inv {bnd : D → Rho → Option Rho} {body : Rho → Hs → SR} (P : Nat → Rho → Hs → Prop) : ∀ {xs : List D} {ρ : Rho} {h : Hs} {i : Nat}, P i ρ h →
    (∀ j x ρ h, xs[j]? = some x → P (i + j) ρ h → ∃ ρ1 f ρ2 h2, bnd x ρ = some ρ1 ∧ body ρ1 h = some (f, ρ2, h2) ∧ (f = .nx ∨ f = .ct) ∧ P (i + j + 1) ρ2 h2) → ∃ ρ' h', forL bnd body xs ρ h = some (.nx, ρ', h') ∧ P (i + xs.length) ρ' h'
  | [], ρ, h, i, p, _ => ⟨ρ, h, rfl, by simpa using p⟩
  | x :: r, ρ, h, i, p, hs => by
    obtain ⟨ρ1, f, ρ2, h2, e1, e2, hf, p1⟩ := hs 0 x ρ h rfl p
    obtain ⟨ρ', h', e3, p3⟩ := forL_inv P (xs := r) (i := i + 1) p1 fun j y ρ h ey q => by
      have := hs (j + 1) y ρ h (by simpa using ey) (by rw [show i + (j + 1) = i + 1 + j by omega]; exact q)
      rw [show i + (j + 1) + 1 = i + 1 + j + 1 by omega] at this
      exact this
    refine ⟨ρ', h', ?_, by rw [List.length_cons, show i + (r.length + 1) = i + 1 + r.length by omega]; exact p3⟩
    simp only [forL, e1, e2, bind, Option.bind]
    rcases hf with rfl | rfl <;> exact e3
theorem mulOk_r {i j : Int} (h1 : -(2 ^ 64) < j) (h2 : j < 2 ^ 64) : mulOk i j = true := by
  unfold mulOk
  rw [decide_eq_true h1, decide_eq_true h2]
  simp
theorem mulOk_l {i j : Int} (h1 : -(2 ^ 64) < i) (h2 : i < 2 ^ 64) : mulOk i j = true := by
  unfold mulOk
  rw [decide_eq_true h1, decide_eq_true h2]
  simp
theorem set_at {h : Hs} {n : Nat} {c : Cell} (hn : n < h.length) : (h.set n c)[n]? = some c := by
  rw [List.getElem?_set_self hn]

theorem b_add (i j : Int) : binD .add (.int i) (.int j) = some (.int (i + j)) := rfl
theorem b_sub (i j : Int) : binD .sub (.int i) (.int j) = some (.int (i - j)) := rfl
theorem b_mul {i j : Int} (h : mulOk i j = true) : binD .mul (.int i) (.int j) = some (.int (i * j)) := by simp [binD, h]
theorem b_mod {i j : Int} (h : 0 < j) : binD .mod (.int i) (.int j) = some (.int (i % j)) := by simp [binD, h]
theorem b_fdiv {i j : Int} (h : 0 < j ∧ j < 1073741824) : binD .fdiv (.int i) (.int j) = some (.int (i / j)) := by simp [binD, h]
theorem b_pow {i j : Int} (h : powOk i j = true) : binD .pow (.int i) (.int j) = some (.int (i ^ j.toNat)) := by simp [binD, h]
theorem b_addL {x y : List D} (h : x.length + y.length ≤ lim) : binD .add (.lst x) (.lst y) = some (.lst (x ++ y)) := by simp [binD, h]
theorem k_gt (i j : Int) : cmpD .gt (.int i) (.int j) = some (decide (j < i)) := rfl
theorem k_lt (i j : Int) : cmpD .lt (.int i) (.int j) = some (decide (i < j)) := rfl
theorem k_le (i j : Int) : cmpD .le (.int i) (.int j) = some (decide (i ≤ j)) := rfl
theorem k_ge (i j : Int) : cmpD .ge (.int i) (.int j) = some (decide (j ≤ i)) := rfl
theorem pyOf_int (i : Int) : pyOf (.int i) = some (.int i) := by
  unfold pyOf
  simp only [toPy]
  rw [if_pos (by rfl)]
theorem pyOf_bl (i : Bool) : pyOf (.bl i) = some (.bool i) := by
  unfold pyOf
  simp only [toPy]
  rw [if_pos (by rfl)]
theorem pyOf_str {i : Str} (h : PyData.canLay0 (.str i) = true) : pyOf (.str i) = some (.str i) := by
  unfold pyOf
  simp only [toPy]
  rw [if_pos (by unfold SeqAt.shaped; rw [h]; rfl)]
theorem pyOf_non : pyOf .non = some .none := rfl
theorem k_eq (i j : Int) : cmpD .eq (.int i) (.int j) = some (decide (i = j)) := by
  simp only [cmpD, eqD, pyOf_int, PyData.eqv]
  congr 1
theorem k_ne (i j : Int) : cmpD .ne (.int i) (.int j) = some (!decide (i = j)) := by
  have := k_eq i j
  simp only [cmpD] at this ⊢
  rw [this]
  rfl
theorem k_eqb (i j : Bool) : cmpD .eq (.bl i) (.bl j) = some (decide (i = j)) := by
  simp only [cmpD, eqD, pyOf_bl, PyData.eqv]
  cases i <;> cases j <;> rfl
theorem k_neb (i j : Bool) : cmpD .ne (.bl i) (.bl j) = some (!decide (i = j)) := by
  have := k_eqb i j
  simp only [cmpD] at this ⊢
  rw [this]
  rfl
theorem eqD_refl {d : D} {p : PyData} (h : pyOf d = some p) : eqD d d = some true := by
  have key := SeqAt.eqv_refl p (SeqAt.canLay_of_shaped (pyOf_some h).2)
  cases d with
  | str x =>
    show some (x == x) = some true
    simp
  | _ => simp only [eqD, h, key]
theorem k_refl {d : D} {p : PyData} (h : pyOf d = some p) : cmpD .eq d d = some true := eqD_refl h
theorem k_nrefl {d : D} {p : PyData} (h : pyOf d = some p) : cmpD .ne d d = some false := by
  simp only [cmpD, eqD_refl h]
  rfl
theorem ix_lst {xs : List D} {i : Int} {d : D} (h : L2.atI xs i = some d) : idxD (.lst xs) (.int i) = some d := h
theorem ix_tup {xs : List D} {i : Int} {d : D} (h : L2.atI xs i = some d) : idxD (.tup xs) (.int i) = some d := h
theorem cset_lst {h : Hs} {n : Nat} {xs : List D} {i : Int} {j : Nat} {v : D} (e : h[n]? = some (.lst xs)) (hj : L2.ixN xs.length i = some j) : csetD (.ref n) (.int i) v h = some (h.set n (.lst (xs.set j v))) := by
  simp only [csetD, e, hj]

def boxFn : Fn := ⟨2, 4, [.asg (.nm 2) (.ife (.cmp .lt (.var 1) (.bi .len [(.var 0)])) (.idx (.var 0) (.var 1)) (.int 0)), .asg (.nm 3) (.ife (.cmp .ge (.bi .abs [(.var 2)]) (.bin .pow (.int 10) (.int 18))) (.bi .abs [(.var 2)]) (.int 0)), .ret (.alloc (.lst [(.var 3), (.bin .add (.var 2) (.bin .mul (.int 999983) (.var 1))), (.int 0)]))], false⟩
def takeFn : Fn := ⟨2, 5, [.cset (.var 0) (.int 2) (.bin .add (.idx (.var 0) (.int 2)) (.int 1)), .ife (.cmp .gt (.idx (.var 0) (.int 0)) (.int 0)) [.asg (.nm 2) (.bin .mod (.idx (.var 0) (.int 0)) (.var 1)), .cset (.var 0) (.int 0) (.bin .fdiv (.idx (.var 0) (.int 0)) (.var 1)), .ret (.var 2)] [], .asg (.nm 3) (.idx (.lst [(.int 2147483647), (.int 2147483629), (.int 2147483587), (.int 2147483579), (.int 2147483563), (.int 2147483549), (.int 2147483543)]) (.bin .mod (.idx (.var 0) (.int 2)) (.int 7))), .asg (.nm 4) (.bin .mod (.bin .mul (.bin .add (.bin .add (.bin .mod (.idx (.var 0) (.int 1)) (.var 3)) (.bin .mul (.bin .mul (.idx (.var 0) (.int 2)) (.idx (.var 0) (.int 2))) (.int 7919))) (.int 11)) (.int 48271)) (.var 3)), .asg (.nm 4) (.bin .mod (.bin .mul (.bin .mod (.bin .pow (.var 4) (.int 3)) (.var 3)) (.bin .add (.int 39373) (.idx (.var 0) (.int 2)))) (.int 1999999973)), .ret (.bin .mod (.bin .fdiv (.var 4) (.int 64)) (.var 1))], false⟩
/-- the n-th cell is a box of which at most T numbers were taken -/
def Box (h : Hs) (n : Nat) (T : Nat) : Prop := ∃ g c t : Int, 0 ≤ g ∧ 0 ≤ t ∧ t ≤ T ∧ h[n]? = some (.lst [.int g, .int c, .int t])
/-- all other cells are as they were -/
def Oth (h h' : Hs) (n : Nat) : Prop := h'.length = h.length ∧ ∀ m, m ≠ n → h'[m]? = h[m]?
theorem Oth.refl {h : Hs} {n : Nat} : Oth h h n := ⟨rfl, fun _ _ => rfl⟩
theorem Oth.trans {h h1 h2 : Hs} {n : Nat} (a : Oth h h1 n) (b : Oth h1 h2 n) : Oth h h2 n := ⟨b.1.trans a.1, fun m q => (b.2 m q).trans (a.2 m q)⟩
theorem Oth.set {h : Hs} {n : Nat} {c : Cell} : Oth h (h.set n c) n := ⟨List.length_set, fun m q => List.getElem?_set_ne (Ne.symm q)⟩
theorem at7 (a b c d e f g : D) (r : Int) (h0 : 0 ≤ r) (h1 : r < 7) : ∃ x ∈ [a, b, c, d, e, f, g], L2.atI [a, b, c, d, e, f, g] r = some x := by
  have : r = 0 ∨ r = 1 ∨ r = 2 ∨ r = 3 ∨ r = 4 ∨ r = 5 ∨ r = 6 := by omega
  rcases this with q | q | q | q | q | q | q <;> (subst q; exact ⟨_, by simp, rfl⟩)
section
variable {fns : List (String × Fn)} {k : Nat}
theorem take_ok (hf : fns.lookup "_law_take" = some takeFn) {h : Hs} {n T : Nat} {m : Int} (b : Box h n T) (hm : 1 ≤ m) (hm2 : m < 1073741824) (hT : T < 2 ^ 40) :
    ∃ d h', callF fns (k + 1) "_law_take" [.ref n, .int m] h = some (.int d, h') ∧ 0 ≤ d ∧ d < m ∧ Box h' n (T + 1) ∧ Oth h h' n := by
  obtain ⟨g, c, t, g0, t0, tT, e⟩ := b
  have hn : n < h.length := by
    rcases Nat.lt_or_ge n h.length with q | q
    · exact q
    · rw [List.getElem?_eq_none q] at e; cases e
  rw [callF_succ hf rfl]
  have a0 : ∀ x y z : D, L2.atI [x, y, z] 0 = some x := fun _ _ _ => rfl
  have a1 : ∀ x y z : D, L2.atI [x, y, z] 1 = some y := fun _ _ _ => rfl
  have a2 : ∀ x y z : D, L2.atI [x, y, z] 2 = some z := fun _ _ _ => rfl
  have c2 : ∀ (h : Hs) (x y z v : D), h[n]? = some (.lst [x, y, z]) → csetD (.ref n) (.int 2) v h = some (h.set n (.lst [x, y, v])) := fun h x y z v e => cset_lst (j := 2) e rfl
  have c0 : ∀ (h : Hs) (x y z v : D), h[n]? = some (.lst [x, y, z]) → csetD (.ref n) (.int 0) v h = some (h.set n (.lst [v, y, z])) := fun h x y z v e => cset_lst (j := 0) e rfl
  have a0' : ∀ x y z : D, idxD (.lst [x, y, z]) (.int 0) = some x := fun _ _ _ => rfl
  have a1' : ∀ x y z : D, idxD (.lst [x, y, z]) (.int 1) = some y := fun _ _ _ => rfl
  have a2' : ∀ x y z : D, idxD (.lst [x, y, z]) (.int 2) = some z := fun _ _ _ => rfl
  have e2 := c2 h _ _ _ (.int (t + 1)) e
  have s2 : (h.set n (.lst [.int g, .int c, .int (t + 1)]))[n]? = some (.lst [.int g, .int c, .int (t + 1)]) := set_at hn
  by_cases hg : 0 < g
  · refine ⟨g % m, (h.set n (.lst [.int g, .int c, .int (t + 1)])).set n (.lst [.int (g / m), .int c, .int (t + 1)]), ?_, Int.emod_nonneg _ (by omega), Int.emod_lt_of_pos _ (by omega), ⟨g / m, c, t + 1, Int.ediv_nonneg g0 (by omega), by omega, by omega, set_at (by rw [List.length_set]; exact hn)⟩, Oth.set.trans Oth.set⟩
    have hm3 : 0 < m := by omega
    have hm4 : 0 < m ∧ m < 1073741824 := ⟨hm3, hm2⟩
    have e3 := c0 _ _ _ _ (.int (g / m)) s2
    simp only [List.map_cons, List.map_nil, takeFn, List.replicate, List.cons_append, List.nil_append, evSs, evS, evE, getV, List.getElem?_cons_zero, List.getElem?_cons_succ, Option.map_some, Option.bind_eq_bind, Option.bind_some, e, a0', a1', a2', b_add, e2, s2, k_gt, decide_eq_true hg, asBl, if_true,
      b_mod hm3, bindT, List.set_cons_zero, List.set_cons_succ, b_fdiv hm4, e3, fin]
  · have hg0 : g = 0 := by omega
    subst hg0
    obtain ⟨p, pm, hp⟩ := at7 (.int 2147483647) (.int 2147483629) (.int 2147483587) (.int 2147483579) (.int 2147483563) (.int 2147483549) (.int 2147483543) ((t + 1) % 7) (by omega) (by omega)
    obtain ⟨q, rfl, q0, q1⟩ : ∃ q : Int, p = .int q ∧ 2000000000 < q ∧ q < 2147483648 := by
      simp only [List.mem_cons, List.not_mem_nil, or_false] at pm
      rcases pm with z | z | z | z | z | z | z <;> exact ⟨_, z, by decide, by decide⟩
    have q2 : (0 : Int) < q := by omega
    let m1 : Int := ((c % q + (t + 1) * (t + 1) * 7919 + 11) * 48271) % q
    have m1a : 0 ≤ m1 := Int.emod_nonneg _ (by omega)
    have m1b : m1 < q := Int.emod_lt_of_pos _ q2
    let m2 : Int := (m1 ^ 3 % q * (39373 + (t + 1))) % 1999999973
    have k1 : mulOk (t + 1) (t + 1) = true := mulOk_l (by omega) (by omega)
    have k2 : mulOk ((t + 1) * (t + 1)) 7919 = true := mulOk_r (by decide) (by decide)
    have k3 : ∀ x : Int, mulOk x 48271 = true := fun x => mulOk_r (by decide) (by decide)
    have k4 : mulOk (m1 ^ 3 % q) (39373 + (t + 1)) = true := mulOk_r (by omega) (by omega)
    have k5 : powOk m1 3 = true := by
      have : m1.natAbs < 2 ^ 64 := by omega
      unfold powOk
      rw [decide_eq_true this]
      rfl
    have hl7' : 0 + 1 + 1 + 1 + 1 + 1 + 1 + 1 ≤ lim := by decide
    have hm3 : 0 < m := by omega
    refine ⟨m2 / 64 % m, h.set n (.lst [.int 0, .int c, .int (t + 1)]), ?_, Int.emod_nonneg _ (by omega), Int.emod_lt_of_pos _ hm3, ⟨0, c, t + 1, by omega, by omega, by omega, s2⟩, Oth.set⟩
    have k4' := k4
    have k5' := k5
    simp only [m1] at k4' k5'
    have h7 : (0 : Int) < 7 := by decide
    have hx : (0 : Int) < 64 ∧ (64 : Int) < 1073741824 := by decide
    have hy : (0 : Int) < 1999999973 := by decide
    have hp' := ix_lst hp
    have gf : decide ((0 : Int) < 0) = false := by decide
    simp only [List.map_cons, List.map_nil, takeFn, List.replicate, List.cons_append, List.nil_append, evSs, evS, evE, evL, getV, List.getElem?_cons_zero, List.getElem?_cons_succ, Option.map_some, Option.bind_eq_bind, Option.bind_some, e, a0', a1', a2', b_add, e2, s2, k_gt, gf, asBl, Bool.false_eq_true, if_false,
      b_mod h7, List.length_cons, List.length_nil, hl7', if_true, hp', bindT, List.set_cons_zero, List.set_cons_succ, b_mod q2, b_mul k1, b_mul k2, b_mul (k3 _), b_pow k5', b_mul k4', b_mod hy, b_fdiv hx, b_mod hm3, fin, show (3 : Int).toNat = 3 from rfl, m1, m2]
end
end Ev

namespace Ev
open PySem L2
theorem len_scr (ns : List Int) : biD .len [.scr ns] = some (.int ns.length) := rfl
theorem len_lst (ns : List D) : biD .len [.lst ns] = some (.int ns.length) := rfl
theorem len_tup (ns : List D) : biD .len [.tup ns] = some (.int ns.length) := rfl
theorem k_isn (d : D) : cmpD .isn d .non = some (isNonD d) := by
  cases d <;> rfl
theorem mapO_bl {ys : List D} (f : D → D) (h : ∀ y ∈ ys, f y = .bl true) : mapO asBl (ys.map f) = some (List.replicate ys.length true) := by
  induction ys with
  | nil => rfl
  | cons y r ih =>
    rw [List.map_cons, h y List.mem_cons_self]
    simp only [mapO, asBl, ih fun z m => h z (List.mem_cons_of_mem _ m), List.length_cons, List.replicate_succ]
theorem all_true (f : D → D) {ys : List D} (h : ∀ y ∈ ys, f y = .bl true) : biD .all [.lst (ys.map f)] = some (.bl true) := by
  simp only [biD, mapO_bl f h, Option.map_some]
  congr 2
  rw [List.all_eq_true]
  intro b m
  rw [List.eq_of_mem_replicate m]
  rfl
theorem mem_pairs {xs : List D} {p : D} (h : p ∈ pairs xs xs) : ∃ d ∈ xs, p = .tup [d, d] := by
  induction xs with
  | nil => simp [pairs] at h
  | cons x r ih =>
    rcases List.mem_cons.mp (show p ∈ .tup [x, x] :: pairs r r from h) with e | m
    · exact ⟨x, List.mem_cons_self, e⟩
    · obtain ⟨d, dm, e⟩ := ih m
      exact ⟨d, List.mem_cons_of_mem _ dm, e⟩
mutual
/-- data that == may look at -/
def okD : D → Bool
  | .non => true
  | .bl _ => true
  | .int _ => true
  | .str x => PyData.canLay0 (.str x)
  | .tup xs => okL xs
  | .lst xs => okL xs
  | .dct _ _ _ => false
  | .ref _ => false
  | .scr _ => false
def okL : List D → Bool
  | [] => true
  | x :: r => okD x && okL r
end
mutual
def depD : D → Nat
  | .tup xs => depL xs + 1
  | .lst xs => depL xs + 1
  | _ => 0
def depL : List D → Nat
  | [] => 0
  | x :: r => max (depD x) (depL r)
end
theorem okL_mem : ∀ {xs : List D}, okL xs = true → ∀ d ∈ xs, okD d = true
  | x :: r, h, d, m => by
    simp only [okL, Bool.and_eq_true] at h
    rcases List.mem_cons.mp m with e | m
    · rw [e]; exact h.1
    · exact okL_mem h.2 d m
theorem depL_mem : ∀ {xs : List D} {d : D}, d ∈ xs → depD d ≤ depL xs
  | x :: r, d, m => by
    simp only [depL]
    rcases List.mem_cons.mp m with e | m
    · rw [e]; exact Nat.le_max_left _ _
    · exact Nat.le_trans (depL_mem m) (Nat.le_max_right _ _)
def sameFn : Fn := ⟨2, 4, [.ife (.isin (.var 1) [.list, .tuple]) [.ife (.both false [(.cmp .ne (.isin (.var 0) [.list]) (.isin (.var 1) [.list])), (.cmp .ne (.isin (.var 0) [.tuple]) (.isin (.var 1) [.tuple]))]) [.ret (.bl false)] [], .ret (.both true [(.cmp .eq (.bi .len [(.var 0)]) (.bi .len [(.var 1)])), (.bi .all [(.comp [2, 3] (.tp [2, 3]) (.zip (.var 0) (.var 1)) (.bl true) (.call "_law_same" [(.var 2), (.var 3)]))])])] [], .ife (.both false [(.cmp .isn (.var 1) .non), (.isin (.var 1) [.str, .bool])]) [.ret (.both true [(.cmp .eq (.var 0) (.var 1)), (.cmp .eq (.isin (.var 0) [.bool]) (.isin (.var 1) [.bool])), (.cmp .eq (.cmp .isn (.var 0) .non) (.cmp .isn (.var 1) .non))])] [], .ret (.both true [(.isin (.var 0) [.int]), (.not (.isin (.var 0) [.bool])), (.cmp .eq (.var 0) (.var 1))])], false⟩
section
variable {Γ : FT} {ρ : Rho} {h h1 h2 : Hs} {x y : X} {r : List X}
theorem ev_bi1 {b : Bi} {d z : D} (hx : evE Γ x ρ h = some (d, h1)) (hz : biD b [d] = some z) : evE Γ (.bi b [x]) ρ h = some (z, h1) := by
  simp only [evE, evL, hx, Option.bind_eq_bind, Option.bind_some, hz, Option.map_some]
theorem ev_bin {o : BOp} {a b : D} {z : D} (hx : evE Γ x ρ h = some (a, h1)) (hy : evE Γ y ρ h1 = some (b, h2)) (hz : binD o a b = some z) : evE Γ (.bin o x y) ρ h = some (z, h2) := by
  simp only [evE, hx, hy, Option.bind_eq_bind, Option.bind_some, hz, Option.map_some]
theorem ev_cmp {o : COp} {a b : D} {z : Bool} (hx : evE Γ x ρ h = some (a, h1)) (hy : evE Γ y ρ h1 = some (b, h2)) (hz : cmpD o a b = some z) : evE Γ (.cmp o x y) ρ h = some (.bl z, h2) := by
  simp only [evE, hx, hy, Option.bind_eq_bind, Option.bind_some, hz, Option.map_some]
theorem ev_idx {a b : D} {z : D} (hx : evE Γ x ρ h = some (a, h1)) (hy : evE Γ y ρ h1 = some (b, h2)) (hr : ∀ n, a ≠ .ref n) (hz : idxD a b = some z) : evE Γ (.idx x y) ρ h = some (z, h2) := by
  simp only [evE, hx, hy, Option.bind_eq_bind, Option.bind_some, hz, Option.map_some]
theorem ev_both (k : Bool) (xs : List X) : evE Γ (.both k xs) ρ h = evAnd Γ k xs ρ h := by
  simp only [evE]
theorem evAnd_last {k b : Bool} (e : evE Γ x ρ h = some (.bl b, h1)) : evAnd Γ k [x] ρ h = some (.bl b, h1) := by
  simp only [evAnd, e, Option.bind_eq_bind, Option.bind_some, asBl]
theorem evAnd_go {k : Bool} (e : evE Γ x ρ h = some (.bl k, h1)) : evAnd Γ k (x :: y :: r) ρ h = evAnd Γ k (y :: r) ρ h1 := by
  rw [evAnd]
  simp only [e, Option.bind_eq_bind, Option.bind_some, asBl, if_true]
theorem evAnd_stop {k b : Bool} (e : evE Γ x ρ h = some (.bl b, h1)) (hb : b ≠ k) : evAnd Γ k (x :: y :: r) ρ h = some (.bl b, h1) := by
  rw [evAnd]
  simp only [e, Option.bind_eq_bind, Option.bind_some, asBl, if_neg hb]
theorem ev_ifT {c a b : X} {z : D} (hc : evE Γ c ρ h = some (.bl true, h1)) (ha : evE Γ a ρ h1 = some (z, h2)) : evE Γ (.ife c a b) ρ h = some (z, h2) := by
  simp only [evE, hc, Option.bind_eq_bind, Option.bind_some, asBl, if_true, ha]
theorem ev_ifF {c a b : X} {z : D} (hc : evE Γ c ρ h = some (.bl false, h1)) (ha : evE Γ b ρ h1 = some (z, h2)) : evE Γ (.ife c a b) ρ h = some (z, h2) := by
  simp only [evE, hc, Option.bind_eq_bind, Option.bind_some, asBl, Bool.false_eq_true, if_false, ha]
theorem ev_var {i : Nat} {d : D} (e : ρ[i]? = some (.val d)) : evE Γ (.var i) ρ h = some (d, h) := by
  simp only [evE, e, getV, Option.map_some]
theorem ev_call1 {f : String} {a : D} {z : D × Hs} (hx : evE Γ x ρ h = some (a, h1)) (hf : Γ f [a] h1 = some z) : evE Γ (.call f [x]) ρ h = some z := by
  simp only [evE, evL, hx, Option.bind_eq_bind, Option.bind_some, hf]
theorem ev_call2 {f : String} {a b : D} {z : D × Hs} (hx : evE Γ x ρ h = some (a, h1)) (hy : evE Γ y ρ h1 = some (b, h2)) (hf : Γ f [a, b] h2 = some z) : evE Γ (.call f [x, y]) ρ h = some z := by
  simp only [evE, evL, hx, hy, Option.bind_eq_bind, Option.bind_some, hf]
theorem ss_asg {tg : Tg} {x : X} {ss : List S} {d : D} {ρ1 : Rho} (hx : evE Γ x ρ h = some (d, h1)) (hb : bindT tg d ρ = some ρ1) : evSs Γ (.asg tg x :: ss) ρ h = evSs Γ ss ρ1 h1 := by
  simp only [evSs, evS, hx, hb, Option.bind_eq_bind, Option.bind_some]
theorem ss_ifT {c : X} {a b ss : List S} {ρ1 : Rho} (hc : evE Γ c ρ h = some (.bl true, h1)) (ha : evSs Γ a ρ h1 = some (.nx, ρ1, h2)) : evSs Γ (.ife c a b :: ss) ρ h = evSs Γ ss ρ1 h2 := by
  simp only [evSs, evS, hc, Option.bind_eq_bind, Option.bind_some, asBl, if_true, ha]
theorem ss_ifTr {c : X} {a b ss : List S} {ρ1 : Rho} {d : D} (hc : evE Γ c ρ h = some (.bl true, h1)) (ha : evSs Γ a ρ h1 = some (.rt d, ρ1, h2)) : evSs Γ (.ife c a b :: ss) ρ h = some (.rt d, ρ1, h2) := by
  simp only [evSs, evS, hc, Option.bind_eq_bind, Option.bind_some, asBl, if_true, ha]
theorem ss_ifF {c : X} {a b ss : List S} {ρ1 : Rho} (hc : evE Γ c ρ h = some (.bl false, h1)) (ha : evSs Γ b ρ h1 = some (.nx, ρ1, h2)) : evSs Γ (.ife c a b :: ss) ρ h = evSs Γ ss ρ1 h2 := by
  simp only [evSs, evS, hc, Option.bind_eq_bind, Option.bind_some, asBl, Bool.false_eq_true, if_false, ha]
theorem ss_ifF0 {c : X} {a ss : List S} (hc : evE Γ c ρ h = some (.bl false, h1)) : evSs Γ (.ife c a [] :: ss) ρ h = evSs Γ ss ρ h1 := ss_ifF hc (by simp only [evSs])
theorem ss_ret {x : X} {ss : List S} {d : D} (hx : evE Γ x ρ h = some (d, h1)) : evSs Γ (.ret x :: ss) ρ h = some (.rt d, ρ, h1) := by
  simp only [evSs, evS, hx, Option.bind_eq_bind, Option.bind_some]
theorem ss_for {tg : Tg} {it : It} {b ss : List S} {xs : List D} {ρ1 : Rho} (hi : evI Γ it ρ h = some (xs, h1)) (hl : forL (bindT tg) (evSs Γ b) xs ρ h1 = some (.nx, ρ1, h2)) : evSs Γ (.fors tg it b :: ss) ρ h = evSs Γ ss ρ1 h2 := by
  simp only [evSs, evS, hi, Option.bind_eq_bind, Option.bind_some, hl]
end
section
variable {fns : List (String × Fn)}
theorem box_ok {k : Nat} (hf : fns.lookup "_law_box" = some boxFn) (ns : List Int) {i : Int} (hi : 0 ≤ i) (h : Hs) :
    ∃ h', callF fns (k + 1) "_law_box" [.scr ns, .int i] h = some (.ref h.length, h') ∧ Box h' h.length 0 ∧ h'.length = h.length + 1 ∧ ∀ m, m < h.length → h'[m]? = h[m]? := by
  rw [callF_succ hf rfl]
  have hm : mulOk 999983 i = true := mulOk_l (by decide) (by decide)
  have hp : powOk 10 18 = true := by decide
  have h3 : (3 : Nat) ≤ lim := by decide
  have hl3 : 0 + 1 + 1 + 1 ≤ lim := h3
  have key : ∃ c : Int, evE (callF fns k) (.ife (.cmp .lt (.var 1) (.bi .len [(.var 0)])) (.idx (.var 0) (.var 1)) (.int 0)) [.val (.scr ns), .val (.int i), .un, .un] h = some (.int c, h) := by
    by_cases q : i < ns.length
    · refine ⟨ns[i.toNat]'(by omega), ?_⟩
      have e1 : idxD (.scr ns) (.int i) = some (.int (ns[i.toNat]'(by omega))) := by
        simp only [idxD, L2.atI, L2.ixN, hi, q, if_true, Option.bind_some]
        rw [List.getElem?_eq_getElem (by omega)]
        rfl
      simp only [evE, evL, getV, List.getElem?_cons_zero, List.getElem?_cons_succ, Option.map_some, Option.bind_eq_bind, Option.bind_some, len_scr, k_lt, decide_eq_true q, asBl, if_true, e1]
    · refine ⟨0, ?_⟩
      simp only [evE, evL, getV, List.getElem?_cons_zero, List.getElem?_cons_succ, Option.map_some, Option.bind_eq_bind, Option.bind_some, len_scr, k_lt, decide_eq_false q, asBl, Bool.false_eq_true, if_false]
  obtain ⟨c, key⟩ := key
  have ab : ∀ c : Int, biD .abs [.int c] = some (.int (if c < 0 then -c else c)) := fun _ => rfl
  let a : Int := if c < 0 then -c else c
  have a0 : 0 ≤ a := by simp only [a]; split <;> omega
  have key2 : ∃ g : Int, 0 ≤ g ∧ evE (callF fns k) (.ife (.cmp .ge (.bi .abs [(.var 2)]) (.bin .pow (.int 10) (.int 18))) (.bi .abs [(.var 2)]) (.int 0)) [.val (.scr ns), .val (.int i), .val (.int c), .un] h = some (.int g, h) := by
    by_cases q : (10 : Int) ^ 18 ≤ a
    · refine ⟨a, a0, ?_⟩
      have q' := decide_eq_true q
      simp only [a] at q'
      simp only [evE, evL, getV, List.getElem?_cons_zero, List.getElem?_cons_succ, Option.map_some, Option.bind_eq_bind, Option.bind_some, ab, b_pow hp, show (18 : Int).toNat = 18 from rfl, k_ge, q', asBl, if_true, a]
    · refine ⟨0, Int.le_refl _, ?_⟩
      have q' := decide_eq_false q
      simp only [a] at q'
      simp only [evE, evL, getV, List.getElem?_cons_zero, List.getElem?_cons_succ, Option.map_some, Option.bind_eq_bind, Option.bind_some, ab, b_pow hp, show (18 : Int).toNat = 18 from rfl, k_ge, q', asBl, Bool.false_eq_true, if_false]
  obtain ⟨g, g0, key2⟩ := key2
  refine ⟨h ++ [.lst [.int g, .int (c + 999983 * i), .int 0]], ?_, ⟨g, c + 999983 * i, 0, g0, by omega, by omega, by simp⟩, by simp, fun m q => List.getElem?_append_left q⟩
  simp only [List.map_cons, List.map_nil, boxFn, List.replicate, List.cons_append, List.nil_append, evSs, evS, key, bindT, Option.bind_eq_bind, Option.bind_some, List.set_cons_zero, List.set_cons_succ, key2]
  simp only [evE, evL, getV, List.getElem?_cons_zero, List.getElem?_cons_succ, Option.map_some, Option.bind_eq_bind, Option.bind_some, b_mul hm, b_add, List.length_cons, List.length_nil, hl3, if_true, allocD, fin]
def leafD : D → Bool
  | .tup _ => false
  | .lst _ => false
  | _ => true
theorem same_leaf (hf : fns.lookup "_law_same" = some sameFn) (h : Hs) (k : Nat) (d : D) (hd : leafD d = true) (ho : okD d = true) : callF fns (k + 1) "_law_same" [d, d] h = some (.bl true, h) := by
  rw [callF_succ hf rfl]
  cases d <;> first
    | (simp [leafD] at hd; done)
    | (simp [okD] at ho; done)
    | skip
  · simp only [List.map_cons, List.map_nil, sameFn, List.replicate, List.cons_append, List.nil_append, evSs, evS, evE, evL, evAnd, getV, List.getElem?_cons_zero, List.getElem?_cons_succ, Option.map_some, Option.bind_eq_bind, Option.bind_some, tyAny, tyIs, asBl, Bool.or_self, Bool.false_or, Bool.or_false, Bool.true_or, Bool.false_eq_true, if_false, if_true, k_isn, isNonD, k_refl pyOf_non, k_eqb, decide_true, fin, Bool.true_eq_false, reduceCtorEq]
  · rename_i b
    simp only [List.map_cons, List.map_nil, sameFn, List.replicate, List.cons_append, List.nil_append, evSs, evS, evE, evL, evAnd, getV, List.getElem?_cons_zero, List.getElem?_cons_succ, Option.map_some, Option.bind_eq_bind, Option.bind_some, tyAny, tyIs, asBl, Bool.or_self, Bool.false_or, Bool.or_false, Bool.true_or, Bool.false_eq_true, if_false, if_true, k_isn, isNonD, k_refl (pyOf_bl b), k_eqb, decide_true, fin, Bool.true_eq_false, reduceCtorEq]
  · rename_i i
    simp only [List.map_cons, List.map_nil, sameFn, List.replicate, List.cons_append, List.nil_append, evSs, evS, evE, evL, evAnd, getV, List.getElem?_cons_zero, List.getElem?_cons_succ, Option.map_some, Option.bind_eq_bind, Option.bind_some, tyAny, tyIs, asBl, Bool.or_self, Bool.false_or, Bool.or_false, Bool.true_or, Bool.false_eq_true, if_false, if_true, k_isn, isNonD, k_refl (pyOf_int i), k_eqb, decide_true, fin, Bool.true_eq_false, reduceCtorEq, Bool.not_false]
  · rename_i x
    have hx : PyData.canLay0 (.str x) = true := by simpa only [okD] using ho
    simp only [List.map_cons, List.map_nil, sameFn, List.replicate, List.cons_append, List.nil_append, evSs, evS, evE, evL, evAnd, getV, List.getElem?_cons_zero, List.getElem?_cons_succ, Option.map_some, Option.bind_eq_bind, Option.bind_some, tyAny, tyIs, asBl, Bool.or_self, Bool.false_or, Bool.or_false, Bool.true_or, Bool.false_eq_true, if_false, if_true, k_isn, isNonD, k_refl (pyOf_str hx), k_eqb, decide_true, fin, Bool.true_eq_false, reduceCtorEq]
theorem same_comp {k : Nat} {h : Hs} {a : D} {xs : List D} (ha : items a = some xs) (ih : ∀ x ∈ xs, callF fns k "_law_same" [x, x] h = some (.bl true, h)) :
    evE (callF fns k) (.comp [2, 3] (.tp [2, 3]) (.zip (.var 0) (.var 1)) (.bl true) (.call "_law_same" [(.var 2), (.var 3)])) [.val a, .val a, .un, .un] h = some (.lst ((pairs xs xs).map fun _ => .bl true), h) := by
  have hi : evI (callF fns k) (.zip (.var 0) (.var 1)) [.val a, .val a, .un, .un] h = some (pairs xs xs, h) := by
    simp only [evI, evE, getV, List.getElem?_cons_zero, List.getElem?_cons_succ, Option.map_some, Option.bind_eq_bind, Option.bind_some, ha]
  refine ev_comp hi (compL_map fun p pm => ?_)
  obtain ⟨d, dm, rfl⟩ := mem_pairs pm
  unfold stepC
  simp only [wipeR, bindT, setMany, List.set_cons_zero, List.set_cons_succ, evE, evL, asBl, getV, List.getElem?_cons_zero, List.getElem?_cons_succ, Option.map_some, Option.bind_eq_bind, Option.bind_some, if_true, ih d dm]
theorem same_ok (hf : fns.lookup "_law_same" = some sameFn) (h : Hs) : ∀ (k : Nat) (d : D), depD d ≤ k → okD d = true → callF fns (k + 1) "_law_same" [d, d] h = some (.bl true, h) := by
  intro k
  induction k with
  | zero =>
    intro d hd ho
    refine same_leaf hf h 0 d ?_ ho
    cases d <;> first | rfl | (simp [depD] at hd; done)
  | succ k ih =>
    intro d hd ho
    by_cases hl : leafD d = true
    · exact same_leaf hf h (k + 1) d hl ho
    · rw [callF_succ hf rfl]
      cases d <;> first | exact absurd rfl hl | skip
      · rename_i xs
        simp only [okD] at ho
        simp only [depD] at hd
        have hc := same_comp (k := k + 1) (h := h) (a := .tup xs) (xs := xs) rfl fun x m => ih x (by have := depL_mem m; omega) (okL_mem ho x m)
        have ha := all_true (fun _ => D.bl true) (ys := pairs xs xs) fun _ _ => rfl
        simp only [List.map_cons, List.map_nil, sameFn, List.replicate, List.cons_append, List.nil_append, evSs, evS]
        have e1 : ∀ Γ : FT, evE Γ (.isin (.var 1) [.list, .tuple]) [.val (.tup xs), .val (.tup xs), .un, .un] h = some (.bl true, h) := fun Γ => by
          simp only [evE, getV, List.getElem?_cons_zero, List.getElem?_cons_succ, Option.map_some, Option.bind_eq_bind, Option.bind_some, tyAny, tyIs, Bool.or_false, Bool.false_or, Bool.true_or]
        have v0 : ∀ Γ : FT, evE Γ (.var 0) [.val (.tup xs), .val (.tup xs), .un, .un] h = some (.tup xs, h) := fun Γ => ev_var rfl
        have v1 : ∀ Γ : FT, evE Γ (.var 1) [.val (.tup xs), .val (.tup xs), .un, .un] h = some (.tup xs, h) := fun Γ => ev_var rfl
        have e2 : ∀ Γ : FT, evE Γ (.both false [(.cmp .ne (.isin (.var 0) [.list]) (.isin (.var 1) [.list])), (.cmp .ne (.isin (.var 0) [.tuple]) (.isin (.var 1) [.tuple]))]) [.val (.tup xs), .val (.tup xs), .un, .un] h = some (.bl false, h) := fun Γ => by
          simp only [evAnd, evE, getV, List.getElem?_cons_zero, List.getElem?_cons_succ, Option.map_some, Option.bind_eq_bind, Option.bind_some, tyAny, tyIs, asBl, k_neb, Bool.or_false, decide_true, Bool.not_true, if_true]
        have e3 : evE (callF fns (k + 1)) (.both true [(.cmp .eq (.bi .len [(.var 0)]) (.bi .len [(.var 1)])), (.bi .all [(.comp [2, 3] (.tp [2, 3]) (.zip (.var 0) (.var 1)) (.bl true) (.call "_law_same" [(.var 2), (.var 3)]))])]) [.val (.tup xs), .val (.tup xs), .un, .un] h = some (.bl true, h) :=
          (ev_both _ _).trans ((evAnd_go (ev_cmp (ev_bi1 (v0 _) (len_tup xs)) (ev_bi1 (v1 _) (len_tup xs)) (by rw [k_eq, decide_eq_true rfl]))).trans (evAnd_last (ev_bi1 hc ha)))
        simp only [e1, e2, e3, Option.bind_eq_bind, Option.bind_some, asBl, if_true, Bool.false_eq_true, if_false, evSs, fin]
      · rename_i xs
        simp only [okD] at ho
        simp only [depD] at hd
        have hc := same_comp (k := k + 1) (h := h) (a := .lst xs) (xs := xs) rfl fun x m => ih x (by have := depL_mem m; omega) (okL_mem ho x m)
        have ha := all_true (fun _ => D.bl true) (ys := pairs xs xs) fun _ _ => rfl
        simp only [List.map_cons, List.map_nil, sameFn, List.replicate, List.cons_append, List.nil_append, evSs, evS]
        have e1 : ∀ Γ : FT, evE Γ (.isin (.var 1) [.list, .tuple]) [.val (.lst xs), .val (.lst xs), .un, .un] h = some (.bl true, h) := fun Γ => by
          simp only [evE, getV, List.getElem?_cons_zero, List.getElem?_cons_succ, Option.map_some, Option.bind_eq_bind, Option.bind_some, tyAny, tyIs, Bool.or_false, Bool.false_or, Bool.true_or]
        have v0 : ∀ Γ : FT, evE Γ (.var 0) [.val (.lst xs), .val (.lst xs), .un, .un] h = some (.lst xs, h) := fun Γ => ev_var rfl
        have v1 : ∀ Γ : FT, evE Γ (.var 1) [.val (.lst xs), .val (.lst xs), .un, .un] h = some (.lst xs, h) := fun Γ => ev_var rfl
        have e2 : ∀ Γ : FT, evE Γ (.both false [(.cmp .ne (.isin (.var 0) [.list]) (.isin (.var 1) [.list])), (.cmp .ne (.isin (.var 0) [.tuple]) (.isin (.var 1) [.tuple]))]) [.val (.lst xs), .val (.lst xs), .un, .un] h = some (.bl false, h) := fun Γ => by
          simp only [evAnd, evE, getV, List.getElem?_cons_zero, List.getElem?_cons_succ, Option.map_some, Option.bind_eq_bind, Option.bind_some, tyAny, tyIs, asBl, k_neb, Bool.or_false, decide_true, Bool.not_true, if_true]
        have e3 : evE (callF fns (k + 1)) (.both true [(.cmp .eq (.bi .len [(.var 0)]) (.bi .len [(.var 1)])), (.bi .all [(.comp [2, 3] (.tp [2, 3]) (.zip (.var 0) (.var 1)) (.bl true) (.call "_law_same" [(.var 2), (.var 3)]))])]) [.val (.lst xs), .val (.lst xs), .un, .un] h = some (.bl true, h) :=
          (ev_both _ _).trans ((evAnd_go (ev_cmp (ev_bi1 (v0 _) (len_lst xs)) (ev_bi1 (v1 _) (len_lst xs)) (by rw [k_eq, decide_eq_true rfl]))).trans (evAnd_last (ev_bi1 hc ha)))
        simp only [e1, e2, e3, Option.bind_eq_bind, Option.bind_some, asBl, if_true, Bool.false_eq_true, if_false, evSs, fin]
end
end Ev

namespace Ev
open PySem L2
/-- a call ends, and P holds of what it tells -/
@[irreducible] def WC (Γ : FT) (f : String) (ds : List D) (h : Hs) (P : D → Hs → Prop) : Prop := ∃ d h', Γ f ds h = some (d, h') ∧ P d h'
@[irreducible] def WE (Γ : FT) (x : X) (ρ : Rho) (h : Hs) (P : D → Hs → Prop) : Prop := ∃ d h', evE Γ x ρ h = some (d, h') ∧ P d h'
@[irreducible] def WL (Γ : FT) (xs : List X) (ρ : Rho) (h : Hs) (P : List D → Hs → Prop) : Prop := ∃ d h', evL Γ xs ρ h = some (d, h') ∧ P d h'
@[irreducible] def WA (Γ : FT) (k : Bool) (xs : List X) (ρ : Rho) (h : Hs) (P : D → Hs → Prop) : Prop := ∃ d h', evAnd Γ k xs ρ h = some (d, h') ∧ P d h'
@[irreducible] def WI (Γ : FT) (it : It) (ρ : Rho) (h : Hs) (P : List D → Hs → Prop) : Prop := ∃ d h', evI Γ it ρ h = some (d, h') ∧ P d h'
@[irreducible] def WS (Γ : FT) (ss : List S) (ρ : Rho) (h : Hs) (Q : Fl → Rho → Hs → Prop) : Prop := ∃ f ρ' h', evSs Γ ss ρ h = some (f, ρ', h') ∧ Q f ρ' h'
/-- an operator's outcome -/
@[irreducible] def WO {α : Type} (o : Option α) (P : α → Prop) : Prop := ∃ z, o = some z ∧ P z
/-- a truth is known -/
@[irreducible] def WB (d : D) (P : Bool → Prop) : Prop := ∃ b, d = .bl b ∧ P b
@[irreducible] def OB (o : BOp) (x y : D) (P : D → Prop) : Prop := WO (binD o x y) P
@[irreducible] def OC (o : COp) (x y : D) (P : Bool → Prop) : Prop := WO (cmpD o x y) P
@[irreducible] def OI (b : Bi) (xs : List D) (P : D → Prop) : Prop := WO (biD b xs) P
@[irreducible] def OM (m : Sm) (x : D) (xs : List D) (P : D → Prop) : Prop := WO (smD m x xs) P
@[irreducible] def OU (m : Mu) (xs ys : List D) (P : List D × D → Prop) : Prop := WO (muL m xs ys) P
@[irreducible] def OS (x : D) (P : D → Prop) : Prop := WO (ssetD x) P
@[irreducible] def OT (x y z : D) (h : Hs) (P : Hs → Prop) : Prop := WO (csetD x y z h) P
section
variable {Γ : FT} {ρ : Rho} {h : Hs} {P : D → Hs → Prop} {x y z a b c : X} {PL : List D → Hs → Prop} {Q : Fl → Rho → Hs → Prop} {ss : List S}
theorem WC.mk {f : String} {ds : List D} {d : D} {h' : Hs} (e : Γ f ds h = some (d, h')) (p : P d h') : WC Γ f ds h P := by unfold WC; exact ⟨d, h', e, p⟩
theorem WC.get {f : String} {ds : List D} (w : WC Γ f ds h P) : ∃ d h', Γ f ds h = some (d, h') ∧ P d h' := by unfold WC at w; exact w
theorem WE.mk {d : D} {h' : Hs} (e : evE Γ x ρ h = some (d, h')) (p : P d h') : WE Γ x ρ h P := by unfold WE; exact ⟨d, h', e, p⟩
theorem WE.get (w : WE Γ x ρ h P) : ∃ d h', evE Γ x ρ h = some (d, h') ∧ P d h' := by unfold WE at w; exact w
theorem WI.mk {it : It} {d : List D} {h' : Hs} (e : evI Γ it ρ h = some (d, h')) (p : PL d h') : WI Γ it ρ h PL := by unfold WI; exact ⟨d, h', e, p⟩
theorem WI.get {it : It} (w : WI Γ it ρ h PL) : ∃ d h', evI Γ it ρ h = some (d, h') ∧ PL d h' := by unfold WI at w; exact w
theorem WL.mk {xs : List X} {d : List D} {h' : Hs} (e : evL Γ xs ρ h = some (d, h')) (p : PL d h') : WL Γ xs ρ h PL := by unfold WL; exact ⟨d, h', e, p⟩
theorem WL.get {xs : List X} (w : WL Γ xs ρ h PL) : ∃ d h', evL Γ xs ρ h = some (d, h') ∧ PL d h' := by unfold WL at w; exact w
theorem WS.mk {f : Fl} {ρ' : Rho} {h' : Hs} (e : evSs Γ ss ρ h = some (f, ρ', h')) (p : Q f ρ' h') : WS Γ ss ρ h Q := by unfold WS; exact ⟨f, ρ', h', e, p⟩
theorem WS.get (w : WS Γ ss ρ h Q) : ∃ f ρ' h', evSs Γ ss ρ h = some (f, ρ', h') ∧ Q f ρ' h' := by unfold WS at w; exact w
theorem WO.mk {α : Type} {o : Option α} {P : α → Prop} {z : α} (e : o = some z) (p : P z) : WO o P := by unfold WO; exact ⟨z, e, p⟩
theorem WO.get {α : Type} {o : Option α} {P : α → Prop} (w : WO o P) : ∃ z, o = some z ∧ P z := by unfold WO at w; exact w
theorem OB.mk {o : BOp} {x y z : D} {P : D → Prop} (e : binD o x y = some z) (p : P z) : OB o x y P := by unfold OB; exact .mk e p
theorem OB.get {o : BOp} {x y : D} {P : D → Prop} (w : OB o x y P) : ∃ z, binD o x y = some z ∧ P z := by unfold OB at w; exact w.get
theorem OC.mk {o : COp} {x y : D} {z : Bool} {P : Bool → Prop} (e : cmpD o x y = some z) (p : P z) : OC o x y P := by unfold OC; exact .mk e p
theorem OC.get {o : COp} {x y : D} {P : Bool → Prop} (w : OC o x y P) : ∃ z, cmpD o x y = some z ∧ P z := by unfold OC at w; exact w.get
theorem OI.mk {b : Bi} {xs : List D} {z : D} {P : D → Prop} (e : biD b xs = some z) (p : P z) : OI b xs P := by unfold OI; exact .mk e p
theorem OI.get {b : Bi} {xs : List D} {P : D → Prop} (w : OI b xs P) : ∃ z, biD b xs = some z ∧ P z := by unfold OI at w; exact w.get
theorem OM.mk {b : Sm} {x : D} {xs : List D} {z : D} {P : D → Prop} (e : smD b x xs = some z) (p : P z) : OM b x xs P := by unfold OM; exact .mk e p
theorem OM.get {b : Sm} {x : D} {xs : List D} {P : D → Prop} (w : OM b x xs P) : ∃ z, smD b x xs = some z ∧ P z := by unfold OM at w; exact w.get
theorem OU.mk {m : Mu} {xs ys : List D} {z : List D × D} {P : List D × D → Prop} (e : muL m xs ys = some z) (p : P z) : OU m xs ys P := by unfold OU; exact .mk e p
theorem OU.get {m : Mu} {xs ys : List D} {P : List D × D → Prop} (w : OU m xs ys P) : ∃ z, muL m xs ys = some z ∧ P z := by unfold OU at w; exact w.get
theorem OS.mk {x : D} {z : D} {P : D → Prop} (e : ssetD x = some z) (p : P z) : OS x P := by unfold OS; exact .mk e p
theorem OS.get {x : D} {P : D → Prop} (w : OS x P) : ∃ z, ssetD x = some z ∧ P z := by unfold OS at w; exact w.get
theorem OT.mk {x y z : D} {h h' : Hs} {P : Hs → Prop} (e : csetD x y z h = some h') (p : P h') : OT x y z h P := by unfold OT; exact .mk e p
theorem OT.get {x y z : D} {h : Hs} {P : Hs → Prop} (w : OT x y z h P) : ∃ h', csetD x y z h = some h' ∧ P h' := by unfold OT at w; exact w.get
theorem WB.mk {b : Bool} {P : Bool → Prop} (p : P b) : WB (.bl b) P := by unfold WB; exact ⟨b, rfl, p⟩
theorem WB.get {d : D} {P : Bool → Prop} (w : WB d P) : ∃ b, d = .bl b ∧ P b := by unfold WB at w; exact w
theorem WC.mono {f : String} {ds : List D} {P' : D → Hs → Prop} (w : WC Γ f ds h P) (m : ∀ d h', P d h' → P' d h') : WC Γ f ds h P' := by
  obtain ⟨d, h', e, p⟩ := w.get
  exact .mk e (m _ _ p)
theorem WE.mono {P' : D → Hs → Prop} (w : WE Γ x ρ h P) (m : ∀ d h', P d h' → P' d h') : WE Γ x ρ h P' := by
  obtain ⟨d, h', e, p⟩ := w.get
  exact .mk e (m _ _ p)
theorem WS.mono {Q' : Fl → Rho → Hs → Prop} (w : WS Γ ss ρ h Q) (m : ∀ f ρ' h', Q f ρ' h' → Q' f ρ' h') : WS Γ ss ρ h Q' := by
  obtain ⟨f, ρ', h', e, p⟩ := w.get
  exact .mk e (m _ _ _ p)
theorem w_non (p : P .non h) : WE Γ .non ρ h P := .mk (by simp only [evE]) p
theorem w_bl {v : Bool} (p : P (.bl v) h) : WE Γ (.bl v) ρ h P := .mk (by simp only [evE]) p
theorem w_int {v : Int} (p : P (.int v) h) : WE Γ (.int v) ρ h P := .mk (by simp only [evE]) p
theorem w_str {v : Str} (p : P (.str v) h) : WE Γ (.str v) ρ h P := .mk (by simp only [evE]) p
theorem w_var {i : Nat} {d : D} (e : ρ[i]? = some (.val d)) (p : P d h) : WE Γ (.var i) ρ h P := .mk (by simp only [evE, e, getV, Option.map_some]) p
theorem w_bor {i : Nat} {ds : List D} (e : ρ[i]? = some (.own ds)) (p : P (.lst ds) h) : WE Γ (.bor i) ρ h P := .mk (by simp only [evE, e, getB, Option.map_some]) p
theorem w_glob {s : Str} {g : GD} (p : P g.d h) : WE Γ (.glob s g) ρ h P := .mk (by simp only [evE]) p
theorem w_bin {o : BOp} (w : WE Γ a ρ h fun x h1 => WE Γ b ρ h1 fun y h2 => OB o x y fun z => P z h2) : WE Γ (.bin o a b) ρ h P := by
  obtain ⟨x, h1, e1, w⟩ := w.get
  obtain ⟨y, h2, e2, w⟩ := w.get
  obtain ⟨z, e3, p⟩ := w.get
  exact .mk (by simp only [evE, e1, e2, e3, Option.bind_eq_bind, Option.bind_some, Option.map_some]) p
theorem w_cmp {o : COp} (w : WE Γ a ρ h fun x h1 => WE Γ b ρ h1 fun y h2 => OC o x y fun z => P (.bl z) h2) : WE Γ (.cmp o a b) ρ h P := by
  obtain ⟨x, h1, e1, w⟩ := w.get
  obtain ⟨y, h2, e2, w⟩ := w.get
  obtain ⟨z, e3, p⟩ := w.get
  exact .mk (by simp only [evE, e1, e2, e3, Option.bind_eq_bind, Option.bind_some, Option.map_some]) p
theorem w_cmp2 {o p' : COp} (w : WE Γ a ρ h fun x h1 => WE Γ b ρ h1 fun y h2 => OC o x y fun k => (k = false → P (.bl false) h2) ∧ (k = true → WE Γ c ρ h2 fun z h3 => OC p' y z fun r => P (.bl r) h3)) : WE Γ (.cmp2 o p' a b c) ρ h P := by
  obtain ⟨x, h1, e1, w⟩ := w.get
  obtain ⟨y, h2, e2, w⟩ := w.get
  obtain ⟨k, e3, w1, w2⟩ := w.get
  cases k with
  | false => exact .mk (by simp only [evE, e1, e2, e3, Option.bind_eq_bind, Option.bind_some, Option.map_some, Bool.false_eq_true, if_false]) (w1 rfl)
  | true =>
    obtain ⟨z, h3, e4, w⟩ := (w2 rfl).get
    obtain ⟨r, e5, p⟩ := w.get
    exact .mk (by simp only [evE, e1, e2, e3, e4, e5, Option.bind_eq_bind, Option.bind_some, Option.map_some, if_true]) p
theorem w_not (w : WE Γ a ρ h fun x h1 => WB x fun k => P (.bl (!k)) h1) : WE Γ (.not a) ρ h P := by
  obtain ⟨x, h1, e1, w⟩ := w.get
  obtain ⟨k, rfl, p⟩ := w.get
  exact .mk (by simp only [evE, e1, asBl, Option.bind_eq_bind, Option.bind_some, Option.map_some]) p
theorem w_neg {P : D → Hs → Prop} (w : WE Γ a ρ h fun x h1 => WO (negD x) fun z => P z h1) : WE Γ (.neg a) ρ h P := by
  obtain ⟨x, h1, e1, w⟩ := w.get
  obtain ⟨z, hz, p⟩ := w.get
  exact .mk (by simp only [evE, e1, hz, Option.bind_eq_bind, Option.bind_some, Option.map_some]) p
theorem o_neg {i : Int} {P : D → Prop} (p : P (.int (-i))) : WO (negD (.int i)) P := .mk rfl p
theorem o_negB {b : Bool} {P : D → Prop} (p : P (.int (-(if b = true then (1 : Int) else 0)))) : WO (negD (.bl b)) P := .mk rfl p
theorem o_addB {b : Bool} {j : Int} {P : D → Prop} (p : P (.int ((if b = true then (1 : Int) else 0) + j))) : OB .add (.bl b) (.int j) P := .mk rfl p
theorem o_subB {b : Bool} {j : Int} {P : D → Prop} (p : P (.int ((if b = true then (1 : Int) else 0) - j))) : OB .sub (.bl b) (.int j) P := .mk rfl p
theorem w_dnew {P : D → Hs → Prop} (p : P (.ref h.length) (h ++ [.dct false [] []])) : WE Γ .dnew ρ h P := .mk (by simp only [evE]) p
theorem w_dnew1 {k v : X} {P : D → Hs → Prop} (w : WE Γ k ρ h fun x h1 => WE Γ v ρ h1 fun y h2 => ∃ q, dkey x = some q ∧ P (.ref h2.length) (h2 ++ [.dct false [x] [y]])) : WE Γ (.dnew1 k v) ρ h P := by
  obtain ⟨x, h1, e1, w⟩ := w.get
  obtain ⟨y, h2, e2, q, e3, p⟩ := w.get
  exact .mk (by simp only [evE, e1, e2, e3, Option.bind_eq_bind, Option.bind_some]) p
theorem w_dget {a k : X} {P : D → Hs → Prop} (w : WE Γ a ρ h fun x h1 => WE Γ k ρ h1 fun y h2 => ∃ ks vs q z, dcell h2 x = some (ks, vs) ∧ dkey y = some q ∧ dlk ks vs q = some z ∧ P z h2) : WE Γ (.dget a k) ρ h P := by
  obtain ⟨x, h1, e1, w⟩ := w.get
  obtain ⟨y, h2, e2, ks, vs, q, z, e3, e4, e5, p⟩ := w.get
  exact .mk (by simp only [evE, e1, e2, e3, e4, e5, Option.bind_eq_bind, Option.bind_some, Option.map_some]) p
theorem w_din {neg : Bool} {a k : X} {P : D → Hs → Prop} (w : WE Γ k ρ h fun y h1 => WE Γ a ρ h1 fun x h2 => ∃ ks vs q, dcell h2 x = some (ks, vs) ∧ dkey y = some q ∧ P (.bl (neg != (dlk ks vs q).isSome)) h2) : WE Γ (.din neg k a) ρ h P := by
  obtain ⟨y, h1, e1, w⟩ := w.get
  obtain ⟨x, h2, e2, ks, vs, q, e3, e4, p⟩ := w.get
  exact .mk (by simp only [evE, e1, e2, e3, e4, Option.bind_eq_bind, Option.bind_some]) p
theorem w_dget2 {a k d : X} {P : D → Hs → Prop} (w : WE Γ a ρ h fun x h1 => ∃ c, dcell h1 x = some c ∧ WE Γ k ρ h1 fun y h2 => WE Γ d ρ h2 fun z h3 => ∃ ks vs q, dcell h3 x = some (ks, vs) ∧ dkey y = some q ∧ P ((dlk ks vs q).getD z) h3) : WE Γ (.dget2 a k d) ρ h P := by
  obtain ⟨x, h1, e1, c, e2, w⟩ := w.get
  obtain ⟨y, h2, e3, w⟩ := w.get
  obtain ⟨z, h3, e4, ks, vs, q, e5, e6, p⟩ := w.get
  exact .mk (by simp only [evE, e1, e2, e3, e4, e5, e6, Option.bind_eq_bind, Option.bind_some]) p
theorem w_ife (w : WE Γ c ρ h fun x h1 => WB x fun k => (k = true → WE Γ a ρ h1 P) ∧ (k = false → WE Γ b ρ h1 P)) : WE Γ (.ife c a b) ρ h P := by
  obtain ⟨x, h1, e1, w⟩ := w.get
  obtain ⟨k, rfl, w1, w2⟩ := w.get
  cases k with
  | true =>
    obtain ⟨d, h2, e, p⟩ := (w1 rfl).get
    exact .mk (ev_ifT e1 e) p
  | false =>
    obtain ⟨d, h2, e, p⟩ := (w2 rfl).get
    exact .mk (ev_ifF e1 e) p
/-- an item, through a cell too -/
def ixH (h : Hs) : D → D → Option D
  | .ref n, y => match h[n]? with
    | some (.lst xs) => idxD (.lst xs) y
    | _ => none
  | x, y => idxD x y
@[irreducible] def WX (h : Hs) (x y : D) (P : D → Prop) : Prop := ∃ z, ixH h x y = some z ∧ P z
theorem WX.get {h : Hs} {x y : D} {P : D → Prop} (w : WX h x y P) : ∃ z, ixH h x y = some z ∧ P z := by unfold WX at w; exact w
theorem WX.mk {h : Hs} {x y z : D} {P : D → Prop} (e : ixH h x y = some z) (p : P z) : WX h x y P := by unfold WX; exact ⟨z, e, p⟩
theorem w_idx {i : X} (w : WE Γ a ρ h fun x h1 => WE Γ i ρ h1 fun y h2 => WX h2 x y fun z => P z h2) : WE Γ (.idx a i) ρ h P := by
  obtain ⟨x, h1, e1, w⟩ := w.get
  obtain ⟨y, h2, e2, w⟩ := w.get
  obtain ⟨z, e3, p⟩ := w.get
  refine .mk (d := z) (h' := h2) ?_ p
  cases x with
  | ref n =>
    simp only [ixH] at e3
    simp only [evE, e1, e2, Option.bind_eq_bind, Option.bind_some]
    split at e3
    · rename_i xs hx
      simp only [hx, e3, Option.map_some]
    · cases e3
  | _ => simp only [ixH] at e3; simp only [evE, e1, e2, e3, Option.bind_eq_bind, Option.bind_some, Option.map_some]
theorem x_lst {h : Hs} {xs : List D} {y z : D} {P : D → Prop} (e : idxD (.lst xs) y = some z) (p : P z) : WX h (.lst xs) y P := .mk e p
theorem x_tup {h : Hs} {xs : List D} {y z : D} {P : D → Prop} (e : idxD (.tup xs) y = some z) (p : P z) : WX h (.tup xs) y P := .mk e p
theorem x_str {h : Hs} {xs : Str} {y z : D} {P : D → Prop} (e : idxD (.str xs) y = some z) (p : P z) : WX h (.str xs) y P := .mk e p
theorem x_scr {h : Hs} {xs : List Int} {y z : D} {P : D → Prop} (e : idxD (.scr xs) y = some z) (p : P z) : WX h (.scr xs) y P := .mk e p
theorem x_ref {h : Hs} {n : Nat} {xs : List D} {y z : D} {P : D → Prop} (e0 : h[n]? = some (.lst xs)) (e : idxD (.lst xs) y = some z) (p : P z) : WX h (.ref n) y P := .mk (by simp only [ixH, e0, e]) p
theorem w_sl {lo hi : X} (w : WE Γ a ρ h fun x h1 => WE Γ lo ρ h1 fun l h2 => WE Γ hi ρ h2 fun u h3 => WO (optX lo l) fun l' => WO (optX hi u) fun u' => WO (cutD x l' u') fun z => P z h3) : WE Γ (.sl a lo hi) ρ h P := by
  obtain ⟨x, h1, e1, w⟩ := w.get
  obtain ⟨l, h2, e2, w⟩ := w.get
  obtain ⟨u, h3, e3, w⟩ := w.get
  obtain ⟨l', e4, w⟩ := w.get
  obtain ⟨u', e5, w⟩ := w.get
  obtain ⟨z, e6, p⟩ := w.get
  exact .mk (by simp only [evE, e1, e2, e3, e4, e5, e6, Option.bind_eq_bind, Option.bind_some, Option.map_some]) p
theorem w_tup {xs : List X} (w : WL Γ xs ρ h fun ds h1 => ds.length ≤ lim ∧ P (.tup ds) h1) : WE Γ (.tup xs) ρ h P := by
  obtain ⟨ds, h1, e1, l, p⟩ := w.get
  exact .mk (by simp only [evE, e1, l, if_true, Option.bind_eq_bind, Option.bind_some]) p
theorem w_lst {xs : List X} (w : WL Γ xs ρ h fun ds h1 => ds.length ≤ lim ∧ P (.lst ds) h1) : WE Γ (.lst xs) ρ h P := by
  obtain ⟨ds, h1, e1, l, p⟩ := w.get
  exact .mk (by simp only [evE, e1, l, if_true, Option.bind_eq_bind, Option.bind_some]) p
theorem w_call {f : String} {xs : List X} (w : WL Γ xs ρ h fun ds h1 => WC Γ f ds h1 P) : WE Γ (.call f xs) ρ h P := by
  obtain ⟨ds, h1, e1, w⟩ := w.get
  obtain ⟨d, h', e2, p⟩ := w.get
  exact .mk (by simp only [evE, e1, e2, Option.bind_eq_bind, Option.bind_some]) p
theorem w_pcall {fr : Bool} {f : String} {xs : List X} {P : D → Hs → Prop} (w : WL Γ xs ρ h fun ds h1 => noRefL ds = true ∧ WC Γ f ds [] fun r _ => noRef r = true ∧ (xs.any X.isBor = false ∨ flatD r = true) ∧ P r h1) : WE Γ (.pcall fr f xs) ρ h P := by
  obtain ⟨ds, h1, e1, nr, w⟩ := w.get
  obtain ⟨d, h', e2, n2, fl, p⟩ := w.get
  exact .mk (by simp only [evE, e1, nr, e2, n2, fl, and_self, if_true, Option.bind_eq_bind, Option.bind_some]) p
theorem w_rev (w : WE Γ a ρ h fun x h1 => WO (revD x) fun z => P z h1) : WE Γ (.rev a) ρ h P := by
  obtain ⟨x, h1, e1, w⟩ := w.get
  obtain ⟨z, e2, p⟩ := w.get
  exact .mk (by simp only [evE, e1, e2, Option.bind_eq_bind, Option.bind_some, Option.map_some]) p
theorem w_trng {P : D → Hs → Prop} (w : WE Γ a ρ h fun x h1 => ∃ i, x = .int i ∧ -4000000 ≤ i ∧ i ≤ 4000000 ∧ P (.tup (rngL 0 i.toNat)) h1) : WE Γ (.trng a) ρ h P := by
  obtain ⟨x, h1, e1, i, rfl, l1, l2, p⟩ := w.get
  have hs : smallI i = true ∧ i.toNat ≤ lim := ⟨by unfold smallI; rw [decide_eq_true (by omega), decide_eq_true (by omega)]; rfl, by have : lim = 4000000 := rfl; omega⟩
  exact .mk (by simp only [evE, e1, Option.bind_eq_bind, Option.bind_some, asInt]; rw [if_pos hs]) p
theorem w_lrng {P : D → Hs → Prop} (w : WE Γ a ρ h fun x h1 => ∃ i, x = .int i ∧ -4000000 ≤ i ∧ i ≤ 4000000 ∧ P (.lst (rngL 0 i.toNat)) h1) : WE Γ (.lrng a) ρ h P := by
  obtain ⟨x, h1, e1, i, rfl, l1, l2, p⟩ := w.get
  have hs : smallI i = true ∧ i.toNat ≤ lim := ⟨by unfold smallI; rw [decide_eq_true (by omega), decide_eq_true (by omega)]; rfl, by have : lim = 4000000 := rfl; omega⟩
  exact .mk (by simp only [evE, e1, Option.bind_eq_bind, Option.bind_some, asInt]; rw [if_pos hs]) p
theorem w_bi {f : Bi} {xs : List X} (w : WL Γ xs ρ h fun ds h1 => OI f ds fun z => P z h1) : WE Γ (.bi f xs) ρ h P := by
  obtain ⟨ds, h1, e1, w⟩ := w.get
  obtain ⟨d, e2, p⟩ := w.get
  exact .mk (by simp only [evE, e1, e2, Option.bind_eq_bind, Option.bind_some, Option.map_some]) p
theorem w_isin {ts : List Ty} (w : WE Γ a ρ h fun x h1 => WO (tyAny ts x) fun z => P (.bl z) h1) : WE Γ (.isin a ts) ρ h P := by
  obtain ⟨x, h1, e1, w⟩ := w.get
  obtain ⟨d, e2, p⟩ := w.get
  exact .mk (by simp only [evE, e1, e2, Option.bind_eq_bind, Option.bind_some, Option.map_some]) p
theorem w_sset (w : WE Γ a ρ h fun x h1 => OS x fun z => P z h1) : WE Γ (.sset a) ρ h P := by
  obtain ⟨x, h1, e1, w⟩ := w.get
  obtain ⟨d, e2, p⟩ := w.get
  exact .mk (by simp only [evE, e1, e2, Option.bind_eq_bind, Option.bind_some, Option.map_some]) p
theorem w_sm {m : Sm} {xs : List X} (w : WE Γ a ρ h fun x h1 => WL Γ xs ρ h1 fun ds h2 => OM m x ds fun z => P z h2) : WE Γ (.sm m a xs) ρ h P := by
  obtain ⟨x, h1, e1, w⟩ := w.get
  obtain ⟨ds, h2, e2, w⟩ := w.get
  obtain ⟨d, e3, p⟩ := w.get
  exact .mk (by simp only [evE, e1, e2, e3, Option.bind_eq_bind, Option.bind_some, Option.map_some]) p
theorem w_both {k : Bool} {xs : List X} (w : WA Γ k xs ρ h P) : WE Γ (.both k xs) ρ h P := by
  unfold WA at w
  obtain ⟨d, h', e, p⟩ := w
  exact .mk (by simp only [evE, e]) p
theorem w_and1 {k : Bool} (w : WE Γ x ρ h fun d h1 => WB d fun b => P (.bl b) h1) : WA Γ k [x] ρ h P := by
  obtain ⟨d, h1, e1, w⟩ := w.get
  obtain ⟨b, rfl, p⟩ := w.get
  unfold WA
  exact ⟨_, _, evAnd_last e1, p⟩
theorem w_and {k : Bool} {r : List X} (w : WE Γ x ρ h fun d h1 => WB d fun b => (b = k → WA Γ k (y :: r) ρ h1 P) ∧ (b = !k → P (.bl b) h1)) : WA Γ k (x :: y :: r) ρ h P := by
  obtain ⟨d, h1, e1, w⟩ := w.get
  obtain ⟨b, rfl, w1, w2⟩ := w.get
  by_cases q : b = k
  · subst q
    have w := w1 rfl
    unfold WA at w ⊢
    obtain ⟨d, h', e, p⟩ := w
    exact ⟨d, h', (evAnd_go e1).trans e, p⟩
  · unfold WA
    exact ⟨_, _, evAnd_stop e1 q, w2 (by cases b <;> cases k <;> simp_all)⟩
theorem w_nil (p : PL [] h) : WL Γ [] ρ h PL := .mk (by simp only [evL]) p
theorem w_cons {xs : List X} (w : WE Γ x ρ h fun d h1 => WL Γ xs ρ h1 fun ds h2 => PL (d :: ds) h2) : WL Γ (x :: xs) ρ h PL := by
  obtain ⟨d, h1, e1, w⟩ := w.get
  obtain ⟨ds, h2, e2, p⟩ := w.get
  exact .mk (by simp only [evL, e1, e2, Option.bind_eq_bind, Option.bind_some]) p
theorem w_alloc (w : WE Γ a ρ h fun x h1 => WO (allocD x h1) fun r => P r.1 r.2) : WE Γ (.alloc a) ρ h P := by
  obtain ⟨x, h1, e1, w⟩ := w.get
  obtain ⟨r, e2, p⟩ := w.get
  exact .mk (by simp only [evE, e1, e2, Option.bind_eq_bind, Option.bind_some]) p
theorem w_over (w : WE Γ a ρ h fun x h1 => WO (overD x) fun xs => PL xs h1) : WI Γ (.over a) ρ h PL := by
  obtain ⟨x, h1, e1, w⟩ := w.get
  obtain ⟨d, e2, p⟩ := w.get
  exact .mk (by simp only [evI, e1, e2, Option.bind_eq_bind, Option.bind_some, Option.map_some]) p
theorem w_rng {PL : List D → Hs → Prop} (w : WE Γ a ρ h fun x h1 => ∃ i, x = .int i ∧ -4000000 ≤ i ∧ i ≤ 4000000 ∧ PL (rngL 0 i.toNat) h1) : WI Γ (.rng a) ρ h PL := by
  obtain ⟨x, h1, e1, i, rfl, l1, l2, p⟩ := w.get
  have hs : smallI i = true ∧ i.toNat ≤ lim := ⟨by unfold smallI; rw [decide_eq_true (by omega), decide_eq_true (by omega)]; rfl, by have : lim = 4000000 := rfl; omega⟩
  exact .mk (by simp only [evI, e1, Option.bind_eq_bind, Option.bind_some, asInt]; rw [if_pos hs]) p
theorem w_rng2 {PL : List D → Hs → Prop} (w : WE Γ a ρ h fun x h1 => WE Γ b ρ h1 fun y h2 => ∃ i j, x = .int i ∧ y = .int j ∧ -1000000 ≤ i ∧ i ≤ 1000000 ∧ -1000000 ≤ j ∧ j ≤ 1000000 ∧ PL (rngL i (j - i).toNat) h2) : WI Γ (.rng2 a b) ρ h PL := by
  obtain ⟨x, h1, e1, w⟩ := w.get
  obtain ⟨y, h2, e2, i, j, rfl, rfl, l1, l2, l3, l4, p⟩ := w.get
  have hs : smallI i = true ∧ smallI j = true ∧ (j - i).toNat ≤ lim := ⟨by unfold smallI; rw [decide_eq_true (by omega), decide_eq_true (by omega)]; rfl, by unfold smallI; rw [decide_eq_true (by omega), decide_eq_true (by omega)]; rfl, by have : lim = 4000000 := rfl; omega⟩
  exact .mk (by simp only [evI, e1, e2, Option.bind_eq_bind, Option.bind_some, asInt]; rw [if_pos hs]) p
theorem w_enum (w : WE Γ a ρ h fun x h1 => WO (overD x) fun xs => PL (pairs (rngL 0 xs.length) xs) h1) : WI Γ (.enum a) ρ h PL := by
  obtain ⟨x, h1, e1, w⟩ := w.get
  obtain ⟨d, e2, p⟩ := w.get
  exact .mk (by simp only [evI, e1, enumD, e2, Option.bind_eq_bind, Option.bind_some, Option.map_some]) p
theorem w_zip (w : WE Γ a ρ h fun x h1 => WE Γ b ρ h1 fun y h2 => WO (items x) fun xs => WO (items y) fun ys => PL (pairs xs ys) h2) : WI Γ (.zip a b) ρ h PL := by
  obtain ⟨x, h1, e1, w⟩ := w.get
  obtain ⟨y, h2, e2, w⟩ := w.get
  obtain ⟨xs, e3, w⟩ := w.get
  obtain ⟨ys, e4, p⟩ := w.get
  exact .mk (by simp only [evI, e1, e2, e3, e4, Option.bind_eq_bind, Option.bind_some, Option.map_some]) p
/-- one turn -/
def turnC (own : List Nat) (tg : Tg) (Γ : FT) (c e : X) (ρ : Rho) (d : D) (h : Hs) (P : Option D → Hs → Prop) : Prop :=
  WO (bindT tg d (wipeR ρ own)) fun ρ' => WE Γ c ρ' h fun k h1 => WB k fun b => (b = true → WE Γ e ρ' h1 fun z h2 => P (some z) h2) ∧ (b = false → P none h1)
theorem turnC_step {own : List Nat} {tg : Tg} {c e : X} {d : D} {P : Option D → Hs → Prop} (w : turnC own tg Γ c e ρ d h P) : ∃ o h', stepC Γ own tg c e ρ d h = some (o, h') ∧ P o h' := by
  obtain ⟨ρ', e1, w⟩ := WO.get w
  obtain ⟨k, h1, e2, w⟩ := w.get
  obtain ⟨b, rfl, w1, w2⟩ := w.get
  cases b with
  | true =>
    obtain ⟨z, h2, e3, p⟩ := (w1 rfl).get
    exact ⟨some z, h2, by simp only [stepC, e1, e2, e3, asBl, Option.bind_eq_bind, Option.bind_some, if_true, Option.map_some], p⟩
  | false => exact ⟨none, h1, by simp only [stepC, e1, e2, asBl, Option.bind_eq_bind, Option.bind_some, Bool.false_eq_true, if_false], w2 rfl⟩
theorem turnC_mono {own : List Nat} {tg : Tg} {c e : X} {d : D} {P P' : Option D → Hs → Prop} (w : turnC own tg Γ c e ρ d h P) (m : ∀ o h', P o h' → P' o h') : turnC own tg Γ c e ρ d h P' := by
  obtain ⟨ρ', e1, w⟩ := WO.get w
  obtain ⟨k, h1, e2, w⟩ := w.get
  obtain ⟨b, rfl, w1, w2⟩ := w.get
  exact WO.mk e1 (.mk e2 (.mk ⟨fun q => (w1 q).mono fun _ _ => m _ _, fun q => m _ _ (w2 q)⟩))
theorem turnC_of {own : List Nat} {tg : Tg} {c e : X} {d : D} {P : Option D → Hs → Prop} {o : Option D} {h' : Hs} (w : turnC own tg Γ c e ρ d h P) (q : stepC Γ own tg c e ρ d h = some (o, h')) : turnC own tg Γ c e ρ d h fun o1 h1 => o1 = o ∧ h1 = h' := by
  obtain ⟨ρ', e1, w⟩ := WO.get w
  obtain ⟨k, h1, e2, w⟩ := w.get
  obtain ⟨b, rfl, w1, w2⟩ := w.get
  cases b with
  | true =>
    obtain ⟨z, h2, e3, _⟩ := (w1 rfl).get
    simp only [stepC, e1, e2, e3, asBl, Option.bind_eq_bind, Option.bind_some, if_true, Option.map_some] at q
    cases q
    exact WO.mk e1 (.mk e2 (.mk ⟨fun _ => .mk e3 ⟨rfl, rfl⟩, fun z => nomatch z⟩))
  | false =>
    simp only [stepC, e1, e2, asBl, Option.bind_eq_bind, Option.bind_some, Bool.false_eq_true, if_false] at q
    cases q
    exact WO.mk e1 (.mk e2 (.mk ⟨fun z => (nomatch z), fun _ => ⟨rfl, rfl⟩⟩))
/-- by an invariant -/
theorem w_comp {own : List Nat} {tg : Tg} {it : It} {c e : X} (w : WI Γ it ρ h fun xs h1 => ∃ I : Nat → Hs → List D → Prop, I 0 h1 [] ∧ (∀ (i : Nat) d h2 ys, xs[i]? = some d → I i h2 ys → turnC own tg Γ c e ρ d h2 fun o h3 => I (i + 1) h3 (ys ++ o.toList)) ∧
    ∀ ys h2, I xs.length h2 ys → P (.lst ys) h2) : WE Γ (.comp own tg it c e) ρ h P := by
  obtain ⟨xs, h1, e1, I, i0, st, fin⟩ := w.get
  obtain ⟨zs, h2, e2, p⟩ := compL_inv (step := stepC Γ own tg c e ρ) I (i := 0) (xs := xs) (h := h1) (ys := []) i0 fun j d h2 ys ej hj => by
    rw [Nat.zero_add] at hj ⊢
    exact turnC_step (st j d h2 ys ej hj)
  rw [Nat.zero_add, List.nil_append] at p
  exact .mk (ev_comp e1 e2) (fin _ _ p)
/-- where nothing is changed -/
theorem w_comp0 {own : List Nat} {tg : Tg} {it : It} {c e : X} (w : WI Γ it ρ h fun xs h1 => ∃ (q : D → Bool) (g : D → D), (∀ d ∈ xs, turnC own tg Γ c e ρ d h1 fun o h2 => h2 = h1 ∧ o = if q d = true then some (g d) else none) ∧
    P (.lst ((xs.filter q).map g)) h1) : WE Γ (.comp own tg it c e) ρ h P := by
  obtain ⟨xs, h1, e1, q, g, st, fin⟩ := w.get
  refine .mk (ev_comp e1 (compL_filter (f := g) (p := q) fun d m => ?_)) fin
  obtain ⟨o, h', e, rfl, rfl⟩ := turnC_step (st d m)
  exact e
theorem w_compm {own : List Nat} {tg : Tg} {it : It} {e : X} (w : WI Γ it ρ h fun xs h1 => ∃ (g : D → D), (∀ d ∈ xs, WO (bindT tg d (wipeR ρ own)) fun ρ' => WE Γ e ρ' h1 fun z h2 => h2 = h1 ∧ z = g d) ∧
    P (.lst (xs.map g)) h1) : WE Γ (.comp own tg it (.bl true) e) ρ h P := by
  obtain ⟨xs, h1, e1, g, st, fin⟩ := w.get
  refine .mk (ev_comp e1 (compL_map (f := g) fun d m => ?_)) fin
  obtain ⟨ρ', e2, w⟩ := (st d m).get
  obtain ⟨z, h2, e3, rfl, rfl⟩ := w.get
  simp only [stepC, e2, evE, e3, asBl, Option.bind_eq_bind, Option.bind_some, if_true, Option.map_some]
theorem s_nil (p : Q .nx ρ h) : WS Γ [] ρ h Q := .mk (by simp only [evSs]) p
theorem s_ret (w : WE Γ x ρ h fun d h1 => Q (.rt d) ρ h1) : WS Γ (.ret x :: ss) ρ h Q := by
  obtain ⟨d, h1, e, p⟩ := w.get
  exact .mk (ss_ret e) p
theorem s_reto {i : Nat} {ds : List D} (e : ρ[i]? = some (.own ds)) (p : Q (.rf (.lst ds)) ρ h) : WS Γ (.reto i :: ss) ρ h Q := .mk (by simp only [evSs, evS, e, Option.bind_eq_bind, Option.bind_some]) p
theorem s_retf (w : WE Γ x ρ h fun d h1 => (x.fresh = true ∨ isSeqD d = false) ∧ Q (.rf d) ρ h1) : WS Γ (.retf x :: ss) ρ h Q := by
  obtain ⟨d, h1, e, g, p⟩ := w.get
  exact .mk (by simp only [evSs, evS, e, g, if_true, Option.bind_eq_bind, Option.bind_some]) p
theorem s_par {is : List Nat} {fl : List Bool} {xs : List X} (w : WL Γ xs ρ h fun ds h1 => WO (setPar ρ is fl ds) fun ρ1 => WS Γ ss ρ1 h1 Q) : WS Γ (.par is fl xs :: ss) ρ h Q := by
  obtain ⟨ds, h1, e, w⟩ := w.get
  obtain ⟨ρ1, e1, w⟩ := w.get
  obtain ⟨f, ρ', h', e2, p⟩ := w.get
  exact .mk (by simp only [evSs, evS, e, e1, e2, Option.bind_eq_bind, Option.bind_some]) p
theorem s_expr (w : WE Γ x ρ h fun _ h1 => WS Γ ss ρ h1 Q) : WS Γ (.expr x :: ss) ρ h Q := by
  obtain ⟨d, h1, e, w⟩ := w.get
  obtain ⟨f, ρ', h', e2, p⟩ := w.get
  exact .mk (by simp only [evSs, evS, e, e2, Option.bind_eq_bind, Option.bind_some]) p
theorem s_asg {i : Nat} (w : WE Γ x ρ h fun d h1 => WS Γ ss (ρ.set i (.val d)) h1 Q) : WS Γ (.asg (.nm i) x :: ss) ρ h Q := by
  obtain ⟨d, h1, e, w⟩ := w.get
  obtain ⟨f, ρ', h', e2, p⟩ := w.get
  exact .mk ((ss_asg e rfl).trans e2) p
theorem s_asgT {is : List Nat} (w : WE Γ x ρ h fun d h1 => WO (bindT (.tp is) d ρ) fun ρ1 => WS Γ ss ρ1 h1 Q) : WS Γ (.asg (.tp is) x :: ss) ρ h Q := by
  obtain ⟨d, h1, e, w⟩ := w.get
  obtain ⟨ρ1, e1, w⟩ := w.get
  obtain ⟨f, ρ', h', e2, p⟩ := w.get
  exact .mk ((ss_asg e e1).trans e2) p
theorem s_own {i : Nat} (hf : x.fresh = true) (w : WE Γ x ρ h fun d h1 => ∃ xs, d = .lst xs ∧ WS Γ ss (ρ.set i (.own xs)) h1 Q) : WS Γ (.own i x :: ss) ρ h Q := by
  obtain ⟨d, h1, e, xs, rfl, w⟩ := w.get
  obtain ⟨f, ρ', h', e2, p⟩ := w.get
  exact .mk (by simp only [evSs, evS, e, hf, if_true, e2, Option.bind_eq_bind, Option.bind_some]) p
theorem s_mut {m : Mu} {i : Nat} {xs : List X} {ys : List D} (e0 : ρ[i]? = some (.own ys)) (w : WL Γ xs ρ h fun ds h1 => OU m ys ds fun r => WS Γ ss (ρ.set i (.own r.1)) h1 Q) : WS Γ (.mut m i xs :: ss) ρ h Q := by
  obtain ⟨ds, h1, e, w⟩ := w.get
  obtain ⟨r, e1, w⟩ := w.get
  obtain ⟨f, ρ', h', e2, p⟩ := w.get
  exact .mk (by simp only [evSs, evS, e, e0, e1, e2, Option.bind_eq_bind, Option.bind_some, Option.map_some]) p
theorem s_frz {i : Nat} {ys : List D} (e0 : ρ[i]? = some (.own ys)) (w : WS Γ ss (ρ.set i (.val (.lst ys))) h Q) : WS Γ (.frz i :: ss) ρ h Q := by
  obtain ⟨f, ρ', h', e2, p⟩ := w.get
  exact .mk (by simp only [evSs, evS, e0, e2, Option.bind_eq_bind, Option.bind_some]) p
theorem s_dput {o k v : X} (w : WE Γ v ρ h fun z h1 => WE Γ o ρ h1 fun x h2 => WE Γ k ρ h2 fun y h3 => WO (dputH x y z h3) fun h4 => WS Γ ss ρ h4 Q) : WS Γ (.dput o k v :: ss) ρ h Q := by
  obtain ⟨z, h1, e1, w⟩ := w.get
  obtain ⟨x, h2, e2, w⟩ := w.get
  obtain ⟨y, h3, e3, w⟩ := w.get
  obtain ⟨h4, e4, w⟩ := w.get
  obtain ⟨f, ρ', h', e5, p⟩ := w.get
  exact .mk (by simp only [evSs, evS, e1, e2, e3, e4, e5, Option.bind_eq_bind, Option.bind_some, Option.map_some]) p
theorem s_cset {o k v : X} (w : WE Γ v ρ h fun z h1 => WE Γ o ρ h1 fun x h2 => WE Γ k ρ h2 fun y h3 => OT x y z h3 fun h4 => WS Γ ss ρ h4 Q) : WS Γ (.cset o k v :: ss) ρ h Q := by
  obtain ⟨z, h1, e1, w⟩ := w.get
  obtain ⟨x, h2, e2, w⟩ := w.get
  obtain ⟨y, h3, e3, w⟩ := w.get
  obtain ⟨h4, e4, w⟩ := w.get
  obtain ⟨f, ρ', h', e5, p⟩ := w.get
  exact .mk (by simp only [evSs, evS, e1, e2, e3, e4, e5, Option.bind_eq_bind, Option.bind_some, Option.map_some]) p
/-- behind a block -/
def Seq (Γ : FT) (ss : List S) (Q : Fl → Rho → Hs → Prop) : Fl → Rho → Hs → Prop
  | .nx, ρ, h => WS Γ ss ρ h Q
  | f, ρ, h => Q f ρ h
theorem seq_get {s : S} {f : Fl} {ρ1 : Rho} {h1 : Hs} (e : evS Γ s ρ h = some (f, ρ1, h1)) (w : Seq Γ ss Q f ρ1 h1) : WS Γ (s :: ss) ρ h Q := by
  cases f with
  | nx =>
    obtain ⟨f, ρ', h', e2, p⟩ := WS.get w
    exact .mk (by simp only [evSs, e, e2, Option.bind_eq_bind, Option.bind_some]) p
  | rt d => exact .mk (by simp only [evSs, e, Option.bind_eq_bind, Option.bind_some]) w
  | rf d => exact .mk (by simp only [evSs, e, Option.bind_eq_bind, Option.bind_some]) w
  | bk => exact .mk (by simp only [evSs, e, Option.bind_eq_bind, Option.bind_some]) w
  | ct => exact .mk (by simp only [evSs, e, Option.bind_eq_bind, Option.bind_some]) w
theorem s_ife {c : X} {a b : List S} (w : WE Γ c ρ h fun d h1 => WB d fun k => (k = true → WS Γ a ρ h1 (Seq Γ ss Q)) ∧ (k = false → WS Γ b ρ h1 (Seq Γ ss Q))) : WS Γ (.ife c a b :: ss) ρ h Q := by
  obtain ⟨d, h1, e, w⟩ := w.get
  obtain ⟨k, rfl, w1, w2⟩ := w.get
  cases k with
  | true =>
    obtain ⟨f, ρ', h', e2, p⟩ := (w1 rfl).get
    exact seq_get (by simp only [evS, e, asBl, Option.bind_eq_bind, Option.bind_some, if_true, e2]) p
  | false =>
    obtain ⟨f, ρ', h', e2, p⟩ := (w2 rfl).get
    exact seq_get (by simp only [evS, e, asBl, Option.bind_eq_bind, Option.bind_some, Bool.false_eq_true, if_false, e2]) p
/-- it goes on, and M holds -/
def NxM (M : Rho → Hs → Prop) : Fl → Rho → Hs → Prop
  | .nx, ρ, h => M ρ h
  | _, _, _ => False
theorem nxm_get {M : Rho → Hs → Prop} {f : Fl} {ρ1 : Rho} {h1 : Hs} (n : NxM M f ρ1 h1) : f = .nx ∧ M ρ1 h1 := by
  cases f <;> first | exact ⟨rfl, n⟩ | exact n.elim
/-- both ways meet again -/
theorem s_ifeM {c : X} {a b : List S} (M : Rho → Hs → Prop) (w : WE Γ c ρ h fun d h1 => WB d fun k => (k = true → WS Γ a ρ h1 (NxM M)) ∧ (k = false → WS Γ b ρ h1 (NxM M))) (fin : ∀ ρ' h', M ρ' h' → WS Γ ss ρ' h' Q) : WS Γ (.ife c a b :: ss) ρ h Q := by
  obtain ⟨d, h1, e, w⟩ := w.get
  obtain ⟨k, rfl, w1, w2⟩ := w.get
  cases k with
  | true =>
    obtain ⟨f, ρ', h', e2, p⟩ := (w1 rfl).get
    obtain ⟨rfl, p⟩ := nxm_get p
    exact seq_get (by simp only [evS, e, asBl, Option.bind_eq_bind, Option.bind_some, if_true, e2]) (f := .nx) (ρ1 := ρ') (h1 := h') (fin _ _ p)
  | false =>
    obtain ⟨f, ρ', h', e2, p⟩ := (w2 rfl).get
    obtain ⟨rfl, p⟩ := nxm_get p
    exact seq_get (by simp only [evS, e, asBl, Option.bind_eq_bind, Option.bind_some, Bool.false_eq_true, if_false, e2]) (f := .nx) (ρ1 := ρ') (h1 := h') (fin _ _ p)
/-- a loop's turn's end -/
def LpE (I : Rho → Hs → Prop) (Q : Fl → Rho → Hs → Prop) : Fl → Rho → Hs → Prop
  | .nx, ρ, h => I ρ h
  | .ct, ρ, h => I ρ h
  | .bk, ρ, h => Q .nx ρ h
  | .rt d, ρ, h => Q (.rt d) ρ h
  | .rf d, ρ, h => Q (.rf d) ρ h
theorem forL_W {bnd : D → Rho → Option Rho} {body : List S} (I : Nat → Rho → Hs → Prop) : ∀ {xs : List D} {ρ : Rho} {h : Hs} (n : Nat), I n ρ h →
    (∀ (i : Nat) d ρ h, xs[i]? = some d → I (n + i) ρ h → WO (bnd d ρ) fun ρ1 => WS Γ body ρ1 h (LpE (I (n + i + 1)) Q)) → (∀ ρ h, I (n + xs.length) ρ h → Q .nx ρ h) →
    ∃ f ρ' h', forL bnd (evSs Γ body) xs ρ h = some (f, ρ', h') ∧ Q f ρ' h'
  | [], ρ, h, n, i0, _, fin => ⟨.nx, ρ, h, rfl, fin _ _ i0⟩
  | x :: r, ρ, h, n, i0, st, fin => by
    obtain ⟨ρ1, e1, w⟩ := (st 0 x ρ h rfl i0).get
    obtain ⟨f, ρ2, h2, e2, p⟩ := w.get
    have go : I (n + 1) ρ2 h2 → ∃ f ρ' h', forL bnd (evSs Γ body) r ρ2 h2 = some (f, ρ', h') ∧ Q f ρ' h' := fun p => forL_W I (n + 1) p (fun i d ρ h ei hi => by
      have := st (i + 1) d ρ h (by simpa using ei) (by rw [show n + (i + 1) = n + 1 + i by omega]; exact hi)
      rw [show n + (i + 1) + 1 = n + 1 + i + 1 by omega] at this
      exact this) (fun ρ h hi => fin ρ h (by rw [List.length_cons, show n + (r.length + 1) = n + 1 + r.length by omega]; exact hi))
    cases f with
    | nx =>
      obtain ⟨f', ρ', h', e3, q⟩ := go p
      exact ⟨f', ρ', h', by simp only [forL, e1, e2, Option.bind_eq_bind, Option.bind_some, e3], q⟩
    | ct =>
      obtain ⟨f', ρ', h', e3, q⟩ := go p
      exact ⟨f', ρ', h', by simp only [forL, e1, e2, Option.bind_eq_bind, Option.bind_some, e3], q⟩
    | bk => exact ⟨.nx, ρ2, h2, by simp only [forL, e1, e2, Option.bind_eq_bind, Option.bind_some], p⟩
    | rt d => exact ⟨.rt d, ρ2, h2, by simp only [forL, e1, e2, Option.bind_eq_bind, Option.bind_some], p⟩
    | rf d => exact ⟨.rf d, ρ2, h2, by simp only [forL, e1, e2, Option.bind_eq_bind, Option.bind_some], p⟩
theorem s_for {tg : Tg} {it : It} {b : List S} (w : WI Γ it ρ h fun xs h1 => ∃ I : Nat → Rho → Hs → Prop, I 0 ρ h1 ∧ (∀ (i : Nat) d ρ h, xs[i]? = some d → I i ρ h → WO (bindT tg d ρ) fun ρ1 => WS Γ b ρ1 h (LpE (I (i + 1)) (Seq Γ ss Q))) ∧
    ∀ ρ h, I xs.length ρ h → WS Γ ss ρ h Q) : WS Γ (.fors tg it b :: ss) ρ h Q := by
  obtain ⟨xs, h1, e1, I, i0, st, fin⟩ := w.get
  obtain ⟨f, ρ', h', e, p⟩ := forL_W (Γ := Γ) (bnd := bindT tg) (body := b) (Q := Seq Γ ss Q) I (xs := xs) 0 i0 (fun i d ρ h ei hi => by rw [Nat.zero_add] at hi ⊢; exact st i d ρ h ei hi) (fun ρ h hi => by rw [Nat.zero_add] at hi; exact fin ρ h hi)
  exact seq_get (by simp only [evS, e1, Option.bind_eq_bind, Option.bind_some, e]) p
theorem whileL_W {c : X} {body : List S} (I : Nat → Rho → Hs → Prop) (st : ∀ m ρ h, I m ρ h → WE Γ c ρ h fun d h1 => WB d fun k => (k = true → 0 < m ∧ WS Γ body ρ h1 (LpE (I (m - 1)) Q)) ∧ (k = false → Q .nx ρ h1)) :
    ∀ {n m : Nat} {ρ : Rho} {h : Hs}, m < n → I m ρ h → ∃ f ρ' h', whileL (evE Γ c) (evSs Γ body) n ρ h = some (f, ρ', h') ∧ Q f ρ' h'
  | 0, m, ρ, h, l, _ => absurd l (Nat.not_lt_zero _)
  | n + 1, m, ρ, h, l, i0 => by
    obtain ⟨d, h1, e1, w⟩ := (st m ρ h i0).get
    obtain ⟨k, rfl, w1, w2⟩ := w.get
    cases k with
    | false => exact ⟨.nx, ρ, h1, by simp only [whileL, e1, asBl, Option.bind_eq_bind, Option.bind_some, Bool.false_eq_true, if_false], w2 rfl⟩
    | true =>
      obtain ⟨m0, w⟩ := w1 rfl
      obtain ⟨f, ρ2, h2, e2, p⟩ := w.get
      have go : I (m - 1) ρ2 h2 → ∃ f ρ' h', whileL (evE Γ c) (evSs Γ body) n ρ2 h2 = some (f, ρ', h') ∧ Q f ρ' h' := fun p => whileL_W I st (by omega) p
      cases f with
      | nx =>
        obtain ⟨f', ρ', h', e3, q⟩ := go p
        exact ⟨f', ρ', h', by simp only [whileL, e1, e2, asBl, Option.bind_eq_bind, Option.bind_some, if_true, e3], q⟩
      | ct =>
        obtain ⟨f', ρ', h', e3, q⟩ := go p
        exact ⟨f', ρ', h', by simp only [whileL, e1, e2, asBl, Option.bind_eq_bind, Option.bind_some, if_true, e3], q⟩
      | bk => exact ⟨.nx, ρ2, h2, by simp only [whileL, e1, e2, asBl, Option.bind_eq_bind, Option.bind_some, if_true], p⟩
      | rt d => exact ⟨.rt d, ρ2, h2, by simp only [whileL, e1, e2, asBl, Option.bind_eq_bind, Option.bind_some, if_true], p⟩
      | rf d => exact ⟨.rf d, ρ2, h2, by simp only [whileL, e1, e2, asBl, Option.bind_eq_bind, Option.bind_some, if_true], p⟩
/-- m: a bound of the turns left -/
theorem s_while {c : X} {b : List S} (I : Nat → Rho → Hs → Prop) {m : Nat} (hm : m < 1000000000) (i0 : I m ρ h)
    (st : ∀ m ρ h, I m ρ h → WE Γ c ρ h fun d h1 => WB d fun k => (k = true → 0 < m ∧ WS Γ b ρ h1 (LpE (I (m - 1)) (Seq Γ ss Q))) ∧ (k = false → WS Γ ss ρ h1 Q)) : WS Γ (.whil c b :: ss) ρ h Q := by
  obtain ⟨f, ρ', h', e, p⟩ := whileL_W (Γ := Γ) (c := c) (body := b) (Q := Seq Γ ss Q) I st hm i0
  exact seq_get (by simp only [evS, fuel, e]) p
theorem s_brk (p : Q .bk ρ h) : WS Γ (.brk :: ss) ρ h Q := .mk (by simp only [evSs, evS, Option.bind_eq_bind, Option.bind_some]) p
theorem s_cnt (p : Q .ct ρ h) : WS Γ (.cnt :: ss) ρ h Q := .mk (by simp only [evSs, evS, Option.bind_eq_bind, Option.bind_some]) p
theorem s_pas (w : WS Γ ss ρ h Q) : WS Γ (.pas :: ss) ρ h Q := by
  obtain ⟨f, ρ', h', e2, p⟩ := w.get
  exact .mk (by simp only [evSs, evS, Option.bind_eq_bind, Option.bind_some, e2]) p
end
/-- what a def hands back -/
def Ret (P : D → Hs → Prop) : Fl → Rho → Hs → Prop
  | .nx, _, h => P .non h
  | .rt d, _, h => P d h
  | .rf d, _, h => P d h
  | .bk, _, _ => False
  | .ct, _, _ => False
section
variable {fns : List (String × Fn)} {P : D → Hs → Prop} {h : Hs}
theorem c_def {n : Nat} {f : String} {fn : Fn} {ds : List D} (hf : fns.lookup f = some fn) (hl : ds.length = fn.np) (w : WS (callF fns n) fn.body (ds.map .val ++ List.replicate (fn.nl - fn.np) .un) h (Ret P)) (hfr : fn.fr = false := by rfl) : WC (callF fns (n + 1)) f ds h P := by
  obtain ⟨fl, ρ', h', e, p⟩ := w.get
  cases fl with
  | nx => exact .mk (by rw [callF_succ hf hl hfr, e]; rfl) p
  | rt d => exact .mk (by rw [callF_succ hf hl hfr, e]; rfl) p
  | rf d => exact .mk (by rw [callF_succ hf hl hfr, e]; rfl) p
  | bk => exact p.elim
  | ct => exact p.elim
/-- what a def that hands back what is new -/
def RetF (P : D → Hs → Prop) : Fl → Rho → Hs → Prop
  | .nx, _, h => P .non h
  | .rf d, _, h => P d h
  | _, _, _ => False
theorem c_defF {n : Nat} {f : String} {fn : Fn} {ds : List D} (hf : fns.lookup f = some fn) (hl : ds.length = fn.np) (w : WS (callF fns n) fn.body (ds.map .val ++ List.replicate (fn.nl - fn.np) .un) h (RetF P)) : WC (callF fns (n + 1)) f ds h P := by
  obtain ⟨fl, ρ', h', e, p⟩ := w.get
  cases fl with
  | nx => exact .mk (by simp only [callF, hf, hl, if_true]; rw [e]) p
  | rt d => exact p.elim
  | rf d => exact .mk (by simp only [callF, hf, hl, if_true]; rw [e]) p
  | bk => exact p.elim
  | ct => exact p.elim
/-- from what holds behind a call to its equation -/
theorem WC.eq {Γ : FT} {f : String} {ds : List D} {d : D} {h' : Hs} (w : WC Γ f ds h fun d1 h1 => d1 = d ∧ h1 = h') : Γ f ds h = some (d, h') := by
  obtain ⟨d1, h1, e, rfl, rfl⟩ := w.get
  exact e
end
section
variable {P : D → Prop} {PB : Bool → Prop}
theorem o_add {i j : Int} (p : P (.int (i + j))) : OB .add (.int i) (.int j) P := .mk (b_add i j) p
theorem o_sub {i j : Int} (p : P (.int (i - j))) : OB .sub (.int i) (.int j) P := .mk (b_sub i j) p
theorem o_mul {i j : Int} (m : mulOk i j = true) (p : P (.int (i * j))) : OB .mul (.int i) (.int j) P := .mk (b_mul m) p
theorem o_mod {i j : Int} (m : 0 < j) (p : P (.int (i % j))) : OB .mod (.int i) (.int j) P := .mk (b_mod m) p
theorem o_fdiv {i j : Int} (m : 0 < j ∧ j < 1073741824) (p : P (.int (i / j))) : OB .fdiv (.int i) (.int j) P := .mk (b_fdiv m) p
theorem o_addL {x y : List D} (m : x.length + y.length ≤ lim) (p : P (.lst (x ++ y))) : OB .add (.lst x) (.lst y) P := .mk (b_addL m) p
theorem b_addT {x y : List D} (m : x.length + y.length ≤ lim) : binD .add (.tup x) (.tup y) = some (.tup (x ++ y)) := by
  unfold binD
  exact if_pos m
theorem o_addT {x y : List D} (m : x.length + y.length ≤ lim) (p : P (.tup (x ++ y))) : OB .add (.tup x) (.tup y) P := .mk (b_addT m) p
theorem o_lt {i j : Int} (p : PB (decide (i < j))) : OC .lt (.int i) (.int j) PB := .mk (k_lt i j) p
theorem o_gt {i j : Int} (p : PB (decide (j < i))) : OC .gt (.int i) (.int j) PB := .mk (k_gt i j) p
theorem o_le {i j : Int} (p : PB (decide (i ≤ j))) : OC .le (.int i) (.int j) PB := .mk (k_le i j) p
theorem o_ge {i j : Int} (p : PB (decide (j ≤ i))) : OC .ge (.int i) (.int j) PB := .mk (k_ge i j) p
theorem o_eq {i j : Int} (p : PB (decide (i = j))) : OC .eq (.int i) (.int j) PB := .mk (k_eq i j) p
theorem o_ne {i j : Int} (p : PB (!decide (i = j))) : OC .ne (.int i) (.int j) PB := .mk (k_ne i j) p
theorem o_eqb {i j : Bool} (p : PB (decide (i = j))) : OC .eq (.bl i) (.bl j) PB := .mk (k_eqb i j) p
theorem o_neb {i j : Bool} (p : PB (!decide (i = j))) : OC .ne (.bl i) (.bl j) PB := .mk (k_neb i j) p
theorem o_isn {a : D} (p : PB (isNonD a)) : OC .isn a .non PB := .mk (by cases a <;> rfl) p
theorem o_notn {a : D} (p : PB (!isNonD a)) : OC .notn a .non PB := .mk (by cases a <;> rfl) p
theorem o_isnb {a b : Bool} (p : PB (decide (a = b))) : OC .isn (.bl a) (.bl b) PB := .mk rfl p
theorem o_notnb {a b : Bool} (p : PB (!decide (a = b))) : OC .notn (.bl a) (.bl b) PB := .mk rfl p
theorem o_lenL {xs : List D} (p : P (.int xs.length)) : OI .len [.lst xs] P := .mk rfl p
theorem o_lenT {xs : List D} (p : P (.int xs.length)) : OI .len [.tup xs] P := .mk rfl p
theorem o_lenS {xs : List Int} (p : P (.int xs.length)) : OI .len [.scr xs] P := .mk rfl p
theorem o_lenX {x : Str} (p : P (.int x.length)) : OI .len [.str x] P := .mk rfl p
theorem o_abs {i : Int} (p : P (.int (if i < 0 then -i else i))) : OI .abs [.int i] P := .mk rfl p
theorem o_min {i j : Int} (p : P (.int (if j < i then j else i))) : OI .min2 [.int i, .int j] P := .mk rfl p
theorem o_intb {b : Bool} (p : P (.int (if b = true then 1 else 0))) : OI .int [.bl b] P := .mk rfl p
theorem o_listL {xs : List D} (p : P (.lst xs)) : OI .list [.lst xs] P := .mk rfl p
theorem o_listT {xs : List D} (p : P (.lst xs)) : OI .list [.tup xs] P := .mk rfl p
theorem o_tupL {xs : List D} (p : P (.tup xs)) : OI .tuple [.lst xs] P := .mk rfl p
theorem o_tupT {xs : List D} (p : P (.tup xs)) : OI .tuple [.tup xs] P := .mk rfl p
theorem o_idx {x y : D} {z : D} (e : idxD x y = some z) (p : P z) : WO (idxD x y) P := .mk e p
theorem o_app {xs : List D} {y : D} {P : List D × D → Prop} (l : xs.length < lim) (p : P (xs ++ [y], .non)) : OU .append xs [y] P := .mk (by simp only [muL]; exact if_pos l) p
theorem o_ext {xs ys : List D} {P : List D × D → Prop} (l : xs.length + ys.length ≤ lim) (p : P (xs ++ ys, .non)) : OU .extend xs [.lst ys] P := .mk (by simp only [muL]; exact if_pos l) p
theorem o_extT {xs ys : List D} {P : List D × D → Prop} (l : xs.length + ys.length ≤ lim) (p : P (xs ++ ys, .non)) : OU .extend xs [.tup ys] P := .mk (by simp only [muL]; exact if_pos l) p
theorem o_sm {α : Type} {P : α → Prop} {z : α} (p : P z) : WO (some z) P := .mk rfl p
theorem o_cutL {xs : List D} {l u : Option Int} (p : P (.lst (cutL xs l u))) : WO (cutD (.lst xs) l u) P := .mk rfl p
theorem o_cutT {xs : List D} {l u : Option Int} (p : P (.tup (cutL xs l u))) : WO (cutD (.tup xs) l u) P := .mk rfl p
end
theorem o_modL {i j : Int} (e : decide (0 < j) = true) (p : P (.int (i % j))) : OB .mod (.int i) (.int j) P := o_mod (of_decide_eq_true e) p
theorem o_fdivL {i j : Int} (e : (decide (0 < j) && decide (j < 1073741824)) = true) (p : P (.int (i / j))) : OB .fdiv (.int i) (.int j) P := o_fdiv (by simpa using e) p
theorem o_ty {ts : List Ty} {d : D} {b : Bool} (e : tyAny ts d = some b) (p : PB b) : WO (tyAny ts d) PB := .mk e p
theorem o_bind {tg : Tg} {d : D} {ρ ρ' : Rho} {P : Rho → Prop} (e : bindT tg d ρ = some ρ') (p : P ρ') : WO (bindT tg d ρ) P := .mk e p
theorem o_optX {x : X} {d : D} {o : Option Int} {P : Option Int → Prop} (e : optX x d = some o) (p : P o) : WO (optX x d) P := .mk e p
theorem o_setPar {is : List Nat} {fl : List Bool} {ds : List D} {ρ ρ' : Rho} {P : Rho → Prop} (e : setPar ρ is fl ds = some ρ') (p : P ρ') : WO (setPar ρ is fl ds) P := .mk e p
theorem o_revT {xs : List D} {P : D → Prop} (p : P (.tup xs.reverse)) : WO (revD (.tup xs)) P := .mk rfl p
theorem o_rev {xs : List D} {P : D → Prop} (p : P (.lst xs.reverse)) : WO (revD (.lst xs)) P := .mk rfl p
theorem o_items {d : D} {o : List D} {P : List D → Prop} (e : items d = some o) (p : P o) : WO (items d) P := .mk e p
theorem o_over {d : D} {o : List D} {P : List D → Prop} (e : overD d = some o) (p : P o) : WO (overD d) P := .mk e p
theorem o_alloc {d : D} {h : Hs} {o : D × Hs} {P : D × Hs → Prop} (e : allocD d h = some o) (p : P o) : WO (allocD d h) P := .mk e p
theorem WB.T {P : Bool → Prop} (p : P true) : WB (.bl true) P := .mk p
theorem dec2 {p : Prop} [Decidable p] {A B : Prop} (a : p → A) (b : ¬p → B) : (decide p = true → A) ∧ (decide p = false → B) := ⟨fun q => a (of_decide_eq_true q), fun q => b (of_decide_eq_false q)⟩
theorem dec2n {p : Prop} [Decidable p] {A B : Prop} (a : ¬p → A) (b : p → B) : ((!decide p) = true → A) ∧ ((!decide p) = false → B) := ⟨fun q => a (by simpa using q), fun q => b (by simpa using q)⟩
/-- and: k = true -/
theorem dec2a {p : Prop} [Decidable p] {A B : Prop} (a : p → A) (b : ¬p → B) : (decide p = true → A) ∧ (decide p = !true → B) := dec2 a b
/-- or: k = false -/
theorem dec2o {p : Prop} [Decidable p] {A B : Prop} (a : ¬p → A) (b : p → B) : (decide p = false → A) ∧ (decide p = !false → B) := ⟨fun q => a (of_decide_eq_false q), fun q => b (of_decide_eq_true q)⟩
theorem dec2on {p : Prop} [Decidable p] {A B : Prop} (a : p → A) (b : ¬p → B) : ((!decide p) = false → A) ∧ ((!decide p) = !false → B) := ⟨fun q => a (by simpa using q), fun q => b (by simpa using q)⟩
theorem dec2an {p : Prop} [Decidable p] {A B : Prop} (a : ¬p → A) (b : p → B) : ((!decide p) = true → A) ∧ ((!decide p) = !true → B) := ⟨fun q => a (by simpa using q), fun q => b (by simpa using q)⟩
theorem knT {A B : Prop} (a : A) : (true = true → A) ∧ (true = false → B) := ⟨fun _ => a, fun q => nomatch q⟩
theorem knF {A B : Prop} (b : B) : (false = true → A) ∧ (false = false → B) := ⟨fun q => (nomatch q), fun _ => b⟩
theorem knTT {A B : Prop} (a : A) : (true = true → A) ∧ (true = !true → B) := ⟨fun _ => a, fun q => nomatch q⟩
theorem knFF {A B : Prop} (a : A) : (false = false → A) ∧ (false = !false → B) := ⟨fun _ => a, fun q => nomatch q⟩
theorem knTF {A B : Prop} (b : B) : (true = false → A) ∧ (true = !false → B) := ⟨fun q => (nomatch q), fun _ => b⟩
theorem knFT {A B : Prop} (b : B) : (false = true → A) ∧ (false = !true → B) := ⟨fun q => (nomatch q), fun _ => b⟩
theorem at_nat {α : Type} {xs : List α} {i : Nat} (h : i < xs.length) : L2.atI xs (i : Int) = some xs[i] := by
  unfold L2.atI L2.ixN
  rw [if_pos (by omega), if_pos (by omega), Option.bind_some]
  simp
theorem ixT {xs : List D} {i : Nat} (h : i < xs.length) : idxD (.tup xs) (.int (i : Int)) = some xs[i] := at_nat h
theorem ixL {xs : List D} {i : Nat} (h : i < xs.length) : idxD (.lst xs) (.int (i : Int)) = some xs[i] := at_nat h
end Ev

namespace Ev
local macro_rules | `(tactic| kct_strs) => `(tactic| first | refine w_var rfl ?_ | refine w_int ?_ | refine w_bl ?_ | refine w_str ?_ | refine w_non ?_ | refine w_bor rfl ?_ | refine w_glob ?_ | refine w_bin ?_ | refine w_cmp ?_ | refine w_call ?_ | refine w_pcall ?_ | refine w_dnew ?_ | refine w_dnew1 ?_ | refine w_dget ?_ | refine w_din ?_ | refine w_dget2 ?_ | refine s_dput ?_ | refine w_rev ?_ | refine w_trng ?_ | refine w_lrng ?_ | refine w_cons ?_ | refine w_nil ?_ | refine w_bi ?_ | refine w_idx ?_ | refine w_tup ?_ | refine w_lst ?_ | refine w_isin ?_ | refine w_both ?_ | refine w_and ?_ | refine w_and1 ?_ | refine w_not ?_ | refine w_ife ?_ | refine w_sl ?_ | refine w_sset ?_ | refine w_sm ?_ | refine w_cmp2 ?_ | refine w_neg ?_ | refine w_alloc ?_ | refine w_over ?_ | refine w_rng ?_ | refine w_rng2 ?_ | refine w_enum ?_ | refine w_zip ?_ | refine s_nil ?_ | refine s_ret ?_ | refine s_expr ?_ | refine s_reto rfl ?_ | (refine s_retf ?_) | refine s_par ?_ | (refine s_asg ?_; simp only [List.set_cons_zero, List.set_cons_succ]) | refine s_asgT ?_ | refine s_ife ?_ | refine s_cset ?_ | (refine s_own rfl ?_; simp only [List.set_cons_zero, List.set_cons_succ]) | (refine s_mut rfl ?_; simp only [List.set_cons_zero, List.set_cons_succ]) | (refine s_frz rfl ?_; simp only [List.set_cons_zero, List.set_cons_succ]) | refine s_brk ?_ | refine s_cnt ?_ | refine s_pas ?_ | refine WB.mk ?_ | refine o_add ?_ | refine o_sub ?_ | refine o_lt ?_ | refine o_gt ?_ | refine o_le ?_ | refine o_ge ?_ | refine o_eq ?_ | refine o_ne ?_ | refine o_eqb ?_ | refine o_neb ?_ | refine o_isn ?_ | refine o_notn ?_ | refine o_isnb ?_ | refine o_notnb ?_ | refine o_lenL ?_ | refine o_lenT ?_ | refine o_lenS ?_ | refine o_lenX ?_ | refine o_abs ?_ | refine o_min ?_ | refine o_intb ?_ | refine o_listL ?_ | refine o_listT ?_ | refine o_tupL ?_ | refine o_tupT ?_ | refine ⟨Nat.le_of_ble_eq_true rfl, ?_⟩ | refine knT ?_ | refine knF ?_ | refine knTT ?_ | refine knFF ?_ | refine knTF ?_ | refine knFT ?_ | refine o_ty rfl ?_ | (refine o_bind rfl ?_; simp only [List.set_cons_zero, List.set_cons_succ]) | refine o_cutL ?_ | refine o_cutT ?_ | refine o_optX rfl ?_ | refine o_items rfl ?_ | (refine o_setPar rfl ?_; simp only [List.set_cons_zero, List.set_cons_succ]) | refine o_rev ?_ | refine o_revT ?_ | refine o_neg ?_ | refine o_negB ?_ | refine o_addB ?_ | refine o_subB ?_ | refine ⟨Or.inl rfl, ?_⟩ | refine ⟨Or.inr rfl, ?_⟩ | refine o_over rfl ?_ | refine o_alloc rfl ?_ | refine o_modL rfl ?_ | refine o_fdivL rfl ?_ | refine ⟨_, rfl, ?_⟩)
open PySem L2
/-- the n-th cell is a box with r behind its three parts; at most T numbers were taken; all other cells are as in h0 -/
structure Bx (h0 : Hs) (n : Nat) (r : List D) (T : Nat) (h : Hs) : Prop where
  box : ∃ g c t : Int, 0 ≤ g ∧ 0 ≤ t ∧ t ≤ T ∧ h[n]? = some (.lst (.int g :: .int c :: .int t :: r))
  len : h.length = h0.length
  oth : ∀ m, m ≠ n → h[m]? = h0[m]?
theorem Bx.mono {h0 h : Hs} {n : Nat} {r : List D} {T T' : Nat} (b : Bx h0 n r T h) (l : T ≤ T') : Bx h0 n r T' h := by
  obtain ⟨g, c, t, g0, t0, tT, e⟩ := b.box
  exact ⟨⟨g, c, t, g0, t0, by omega, e⟩, b.len, b.oth⟩
theorem Bx.set {h0 h : Hs} {n : Nat} {r : List D} {T T' : Nat} {g c t : Int} (b : Bx h0 n r T h) (g0 : 0 ≤ g) (t0 : 0 ≤ t) (tT : t ≤ T') : Bx h0 n r T' (h.set n (.lst (.int g :: .int c :: .int t :: r))) := by
  obtain ⟨_, _, _, _, _, _, e⟩ := b.box
  have hn : n < h.length := by
    rcases Nat.lt_or_ge n h.length with q | q
    · exact q
    · rw [List.getElem?_eq_none q] at e; cases e
  exact ⟨⟨g, c, t, g0, t0, tT, set_at hn⟩, by rw [List.length_set]; exact b.len, fun m q => (List.getElem?_set_ne (Ne.symm q)).trans (b.oth m q)⟩
theorem ix3_0 {x y z : D} {r : List D} : idxD (.lst (x :: y :: z :: r)) (.int 0) = some x := ixL (i := 0) (by simp)
theorem ix3_1 {x y z : D} {r : List D} : idxD (.lst (x :: y :: z :: r)) (.int 1) = some y := ixL (i := 1) (by simp)
theorem ix3_2 {x y z : D} {r : List D} : idxD (.lst (x :: y :: z :: r)) (.int 2) = some z := ixL (i := 2) (by simp)
theorem ixn_lt {n i : Nat} (h : i < n) : L2.ixN n (i : Int) = some i := by
  unfold L2.ixN
  rw [if_pos (by omega), if_pos (by omega)]
  simp
theorem cs3_2 {h : Hs} {n : Nat} {x y z v : D} {r : List D} (e : h[n]? = some (.lst (x :: y :: z :: r))) : csetD (.ref n) (.int 2) v h = some (h.set n (.lst (x :: y :: v :: r))) := cset_lst (j := 2) e (ixn_lt (i := 2) (by simp))
theorem cs3_0 {h : Hs} {n : Nat} {x y z v : D} {r : List D} (e : h[n]? = some (.lst (x :: y :: z :: r))) : csetD (.ref n) (.int 0) v h = some (h.set n (.lst (v :: y :: z :: r))) := cset_lst (j := 0) e (ixn_lt (i := 0) (by simp))
theorem x_mem {h : Hs} {xs : List D} {d : Nat} {P : D → Prop} (l : d < xs.length) (p : ∀ z ∈ xs, P z) : WX h (.lst xs) (.int (d : Int)) P := x_lst (ixL l) (p _ (List.getElem_mem l))
theorem x_nat {h : Hs} {xs : List D} {d : Nat} {P : D → Prop} (l : d < xs.length) (p : P xs[d]) : WX h (.lst xs) (.int (d : Int)) P := x_lst (ixL l) p
theorem x_natT {h : Hs} {xs : List D} {d : Nat} {P : D → Prop} (l : d < xs.length) (p : P xs[d]) : WX h (.tup xs) (.int (d : Int)) P := x_tup (ixT l) p
section
variable {fns : List (String × Fn)} {k : Nat} {h0 h : Hs} {n T : Nat} {r : List D} {P : D → Hs → Prop}
theorem take_w (hf : fns.lookup "_law_take" = some takeFn) {m : Int} (b : Bx h0 n r T h) (hm : 1 ≤ m) (hm2 : m < 1073741824) (hT : T < 2 ^ 40) (q : ∀ (d : Nat) h', (d : Int) < m → Bx h0 n r (T + 1) h' → P (.int (d : Int)) h') :
    WC (callF fns (k + 1)) "_law_take" [.ref n, .int m] h P := by
  obtain ⟨g, c, t, g0, t0, tT, e⟩ := b.box
  have hn : n < h.length := by
    rcases Nat.lt_or_ge n h.length with q | q
    · exact q
    · rw [List.getElem?_eq_none q] at e; cases e
  have q' : ∀ (d : Int) h', 0 ≤ d → d < m → Bx h0 n r (T + 1) h' → P (.int d) h' := fun d h' d0 dm bx => by
    have := q d.toNat h' (by omega) bx
    rwa [Int.toNat_of_nonneg d0] at this
  refine c_def hf rfl ?_
  show WS _ takeFn.body [_, _, _, _, _] _ _
  unfold takeFn
  repeat kct_strs
  refine x_ref e ix3_2 ?_
  repeat kct_strs
  refine OT.mk (cs3_2 e) ?_
  have s2 : (h.set n (.lst (.int g :: .int c :: .int (t + 1) :: r)))[n]? = some (.lst (.int g :: .int c :: .int (t + 1) :: r)) := set_at hn
  have bx : Bx h0 n r (T + 1) (h.set n (.lst (.int g :: .int c :: .int (t + 1) :: r))) := b.set g0 (by omega) (by omega)
  show WS _ _ _ (h.set n (.lst (.int g :: .int c :: .int (t + 1) :: r))) _
  repeat kct_strs
  refine x_ref s2 (by first | exact ix3_0 | exact ix3_1 | exact ix3_2) ?_
  repeat kct_strs
  refine dec2 (fun hg => ?_) fun hg => ?_
  · repeat kct_strs
    refine x_ref s2 (by first | exact ix3_0 | exact ix3_1 | exact ix3_2) ?_
    repeat kct_strs
    refine o_mod (by omega) ?_
    repeat kct_strs
    refine x_ref s2 (by first | exact ix3_0 | exact ix3_1 | exact ix3_2) ?_
    repeat kct_strs
    refine o_fdiv ⟨by omega, hm2⟩ ?_
    repeat kct_strs
    refine OT.mk (cs3_0 s2) ?_
    repeat kct_strs
    show P _ _
    exact q' _ _ (Int.emod_nonneg _ (by omega)) (Int.emod_lt_of_pos _ (by omega)) (bx.set (Int.ediv_nonneg g0 (by omega)) (by omega) (by omega))
  · repeat kct_strs
    refine x_ref s2 (by first | exact ix3_0 | exact ix3_1 | exact ix3_2) ?_
    repeat kct_strs
    have ht7 : 0 ≤ (t + 1) % 7 ∧ (t + 1) % 7 < 7 := by omega
    rw [show ((t + 1) % 7) = (((t + 1) % 7).toNat : Int) by omega]
    refine x_mem (by simp only [List.length_cons, List.length_nil]; omega) fun p pm => ?_
    obtain ⟨q, rfl, q0, q1⟩ : ∃ q : Int, p = .int q ∧ 2000000000 < q ∧ q < 2147483648 := by
      simp only [List.mem_cons, List.not_mem_nil, or_false] at pm
      rcases pm with z | z | z | z | z | z | z <;> exact ⟨_, z, by decide, by decide⟩
    repeat kct_strs
    refine x_ref s2 (by first | exact ix3_0 | exact ix3_1 | exact ix3_2) ?_
    repeat kct_strs
    refine o_mod (by omega) ?_
    repeat kct_strs
    refine x_ref s2 (by first | exact ix3_0 | exact ix3_1 | exact ix3_2) ?_
    repeat kct_strs
    refine x_ref s2 (by first | exact ix3_0 | exact ix3_1 | exact ix3_2) ?_
    repeat kct_strs
    refine o_mul (mulOk_l (by omega) (by omega)) ?_
    repeat kct_strs
    refine o_mul (mulOk_r (by decide) (by decide)) ?_
    repeat kct_strs
    refine o_mul (mulOk_r (by decide) (by decide)) ?_
    repeat kct_strs
    refine o_mod (by omega) ?_
    generalize hm1 : ((c % q + (t + 1) * (t + 1) * 7919 + 11) * 48271) % q = m1
    have m1a : 0 ≤ m1 := by rw [← hm1]; exact Int.emod_nonneg _ (by omega)
    have m1b : m1 < q := by rw [← hm1]; exact Int.emod_lt_of_pos _ (by omega)
    repeat kct_strs
    have k5 : powOk m1 3 = true := by
      have : m1.natAbs < 2 ^ 64 := by omega
      unfold powOk
      rw [decide_eq_true this]
      rfl
    refine OB.mk (b_pow k5) ?_
    repeat kct_strs
    refine o_mod (by omega) ?_
    repeat kct_strs
    refine x_ref s2 (by first | exact ix3_0 | exact ix3_1 | exact ix3_2) ?_
    repeat kct_strs
    refine o_mul (mulOk_r (by omega) (by omega)) ?_
    repeat kct_strs
    refine o_mod (by omega) ?_
    show P _ _
    exact q' _ _ (Int.emod_nonneg _ (by omega)) (Int.emod_lt_of_pos _ (by omega)) bx
end
end Ev

namespace Ev
local macro_rules | `(tactic| kct_strs) => `(tactic| first | refine w_var rfl ?_ | refine w_int ?_ | refine w_bl ?_ | refine w_str ?_ | refine w_non ?_ | refine w_bor rfl ?_ | refine w_glob ?_ | refine w_bin ?_ | refine w_cmp ?_ | refine w_call ?_ | refine w_pcall ?_ | refine w_dnew ?_ | refine w_dnew1 ?_ | refine w_dget ?_ | refine w_din ?_ | refine w_dget2 ?_ | refine s_dput ?_ | refine w_rev ?_ | refine w_trng ?_ | refine w_lrng ?_ | refine w_cons ?_ | refine w_nil ?_ | refine w_bi ?_ | refine w_idx ?_ | refine w_tup ?_ | refine w_lst ?_ | refine w_isin ?_ | refine w_both ?_ | refine w_and ?_ | refine w_and1 ?_ | refine w_not ?_ | refine w_ife ?_ | refine w_sl ?_ | refine w_sset ?_ | refine w_sm ?_ | refine w_cmp2 ?_ | refine w_neg ?_ | refine w_alloc ?_ | refine w_over ?_ | refine w_rng ?_ | refine w_rng2 ?_ | refine w_enum ?_ | refine w_zip ?_ | refine s_nil ?_ | refine s_ret ?_ | refine s_expr ?_ | refine s_reto rfl ?_ | (refine s_retf ?_) | refine s_par ?_ | (refine s_asg ?_; simp only [List.set_cons_zero, List.set_cons_succ]) | refine s_asgT ?_ | refine s_ife ?_ | refine s_cset ?_ | (refine s_own rfl ?_; simp only [List.set_cons_zero, List.set_cons_succ]) | (refine s_mut rfl ?_; simp only [List.set_cons_zero, List.set_cons_succ]) | (refine s_frz rfl ?_; simp only [List.set_cons_zero, List.set_cons_succ]) | refine s_brk ?_ | refine s_cnt ?_ | refine s_pas ?_ | refine WB.mk ?_ | refine o_add ?_ | refine o_sub ?_ | refine o_lt ?_ | refine o_gt ?_ | refine o_le ?_ | refine o_ge ?_ | refine o_eq ?_ | refine o_ne ?_ | refine o_eqb ?_ | refine o_neb ?_ | refine o_isn ?_ | refine o_notn ?_ | refine o_isnb ?_ | refine o_notnb ?_ | refine o_lenL ?_ | refine o_lenT ?_ | refine o_lenS ?_ | refine o_lenX ?_ | refine o_abs ?_ | refine o_min ?_ | refine o_intb ?_ | refine o_listL ?_ | refine o_listT ?_ | refine o_tupL ?_ | refine o_tupT ?_ | refine ⟨Nat.le_of_ble_eq_true rfl, ?_⟩ | refine knT ?_ | refine knF ?_ | refine knTT ?_ | refine knFF ?_ | refine knTF ?_ | refine knFT ?_ | refine o_ty rfl ?_ | (refine o_bind rfl ?_; simp only [List.set_cons_zero, List.set_cons_succ]) | refine o_cutL ?_ | refine o_cutT ?_ | refine o_optX rfl ?_ | refine o_items rfl ?_ | (refine o_setPar rfl ?_; simp only [List.set_cons_zero, List.set_cons_succ]) | refine o_rev ?_ | refine o_revT ?_ | refine o_neg ?_ | refine o_negB ?_ | refine o_addB ?_ | refine o_subB ?_ | refine ⟨Or.inl rfl, ?_⟩ | refine ⟨Or.inr rfl, ?_⟩ | refine o_over rfl ?_ | refine o_alloc rfl ?_ | refine o_modL rfl ?_ | refine o_fdivL rfl ?_ | refine ⟨_, rfl, ?_⟩)
open PySem L2
abbrev nD (n : Nat) : D := .int (n : Int)
theorem lift_map {α : Type} {f : α → D} {p : α → Prop} : ∀ {ys : List D}, (∀ y ∈ ys, ∃ a, y = f a ∧ p a) → ∃ as : List α, ys = as.map f ∧ ∀ a ∈ as, p a
  | [], _ => ⟨[], rfl, fun _ m => nomatch m⟩
  | y :: ys, h => by
    obtain ⟨a, rfl, pa⟩ := h y List.mem_cons_self
    obtain ⟨as, rfl, ps⟩ := lift_map (ys := ys) fun y m => h y (List.mem_cons_of_mem _ m)
    exact ⟨a :: as, rfl, fun b m => by
      rcases List.mem_cons.mp m with e | m
      · rw [e]; exact pa
      · exact ps b m⟩
theorem rng_at {lo : Int} {n i : Nat} {d : D} (e : (rngL lo n)[i]? = some d) : i < n ∧ d = .int (lo + (i : Nat)) := by
  have hi : i < n := by
    rcases Nat.lt_or_ge i n with q | q
    · exact q
    · rw [List.getElem?_eq_none (by rw [rngL_len]; omega)] at e; cases e
  unfold rngL at e
  rw [List.getElem?_map, List.getElem?_range hi] at e
  exact ⟨hi, (Option.some.inj e).symm⟩
theorem rng_at0 {n i : Nat} {d : D} (e : (rngL 0 n)[i]? = some d) : i < n ∧ d = nD i := by
  obtain ⟨a, b⟩ := rng_at e
  exact ⟨a, by rw [b, Int.zero_add]⟩
def insN (x : Nat) : List Nat → List Nat
  | [] => [x]
  | y :: r => if x < y then x :: y :: r else if x = y then y :: r else y :: insN x r
def srtN (ns : List Nat) : List Nat := ns.foldr insN []
def Up (ns : List Nat) : Prop := ns.Pairwise (· < ·)
theorem insU_nat (x : Nat) : ∀ ns : List Nat, insU (x : Int) (ns.map fun n : Nat => (n : Int)) = (insN x ns).map fun n : Nat => (n : Int)
  | [] => rfl
  | y :: r => by
    simp only [List.map_cons, insU, insN]
    by_cases a : x < y
    · rw [if_pos (by omega), if_pos a]; rfl
    · by_cases b : x = y
      · rw [if_neg (by omega), if_pos (by omega), if_neg a, if_pos b]; rfl
      · rw [if_neg (by omega), if_neg (by omega), if_neg a, if_neg b, List.map_cons, insU_nat x r]
theorem srtU_nat : ∀ ns : List Nat, srtU (ns.map fun n : Nat => (n : Int)) = (srtN ns).map fun n : Nat => (n : Int)
  | [] => rfl
  | x :: r => by
    show insU x (srtU (r.map fun n : Nat => (n : Int))) = (insN x (srtN r)).map _
    rw [srtU_nat r, insU_nat]
theorem mem_insN {x z : Nat} : ∀ {ns : List Nat}, z ∈ insN x ns ↔ z = x ∨ z ∈ ns
  | [] => by simp [insN]
  | y :: r => by
    simp only [insN]
    split
    · simp
    · split
      · rename_i e
        subst e
        simp
      · rw [List.mem_cons, mem_insN, List.mem_cons]
        constructor
        · rintro (a | a | a)
          · exact .inr (.inl a)
          · exact .inl a
          · exact .inr (.inr a)
        · rintro (a | a | a)
          · exact .inr (.inl a)
          · exact .inl a
          · exact .inr (.inr a)
theorem mem_srtN {z : Nat} : ∀ {ns : List Nat}, z ∈ srtN ns ↔ z ∈ ns
  | [] => by simp [srtN]
  | x :: r => by
    show z ∈ insN x (srtN r) ↔ _
    rw [mem_insN, mem_srtN, List.mem_cons]
theorem up_insN {x : Nat} : ∀ {ns : List Nat}, Up ns → Up (insN x ns)
  | [], _ => by simp [insN, Up]
  | y :: r, h => by
    have h' := List.pairwise_cons.mp h
    simp only [insN]
    split
    · rename_i a
      exact List.pairwise_cons.mpr ⟨fun z m => by
        rcases List.mem_cons.mp m with e | m
        · rw [e]; exact a
        · exact Nat.lt_trans a (h'.1 z m), h⟩
    · split
      · exact h
      · rename_i a b
        refine List.pairwise_cons.mpr ⟨fun z m => ?_, up_insN h'.2⟩
        rcases mem_insN.mp m with e | m
        · rw [e]; omega
        · exact h'.1 z m
theorem up_srtN : ∀ {ns : List Nat}, Up (srtN ns)
  | [] => List.Pairwise.nil
  | x :: r => up_insN (up_srtN (ns := r))
/-- what rises is as sorted -/
theorem srtN_up : ∀ {ns : List Nat}, Up ns → srtN ns = ns
  | [], _ => rfl
  | x :: r, h => by
    have h' := List.pairwise_cons.mp h
    show insN x (srtN r) = _
    rw [srtN_up h'.2]
    cases r with
    | nil => rfl
    | cons y s => simp only [insN]; rw [if_pos (h'.1 y List.mem_cons_self)]
theorem srtN_ne {ns : List Nat} (h : ns ≠ []) : srtN ns ≠ [] := fun e => by
  cases ns with
  | nil => exact h rfl
  | cons x r =>
    have : x ∈ srtN (x :: r) := mem_srtN.mpr List.mem_cons_self
    rw [e] at this; cases this
theorem mapO_nat (ns : List Nat) : mapO asInt (ns.map nD) = some (ns.map fun n : Nat => (n : Int)) := by
  induction ns with
  | nil => rfl
  | cons x r ih => simp only [List.map_cons, mapO, asInt, ih]
theorem insN_len (x : Nat) : ∀ ns : List Nat, (insN x ns).length ≤ ns.length + 1
  | [] => by simp [insN]
  | y :: r => by
    have := insN_len x r
    simp only [insN]
    split
    · simp
    · split
      · simp
      · simp only [List.length_cons]; omega
theorem srtN_len : ∀ ns : List Nat, (srtN ns).length ≤ ns.length
  | [] => Nat.le_refl _
  | x :: r => by
    have h1 := insN_len x (srtN r)
    have h2 := srtN_len r
    show (insN x (srtN r)).length ≤ _
    rw [List.length_cons]; omega
theorem sset_natB {ns : List Nat} (l : ns.length < 4000) (l2 : (srtN ns).length < 63) : ssetD (.lst (ns.map nD)) = some (.lst ((srtN ns).map nD)) ∧ ssetD (.tup (ns.map nD)) = some (.lst ((srtN ns).map nD)) := by
  have key : (if (ns.map fun n : Nat => (n : Int)).length < 4000 ∧ (srtU (ns.map fun n : Nat => (n : Int))).length < 63 then some (D.lst ((srtU (ns.map fun n : Nat => (n : Int))).map .int)) else none) = some (.lst ((srtN ns).map nD)) := by
    rw [srtU_nat, if_pos ⟨by rw [List.length_map]; exact l, by rw [List.length_map]; exact l2⟩, List.map_map]
    rfl
  have e : items (.lst (ns.map nD)) = some (ns.map nD) := rfl
  have e2 : items (.tup (ns.map nD)) = some (ns.map nD) := rfl
  exact ⟨by simp only [ssetD, e, mapO_nat]; exact key, by simp only [ssetD, e2, mapO_nat]; exact key⟩
theorem sset_nat {ns : List Nat} (l : ns.length < 63) : ssetD (.lst (ns.map nD)) = some (.lst ((srtN ns).map nD)) := (sset_natB (by omega) (by have := srtN_len ns; omega)).1
theorem sset_natT {ns : List Nat} (l : ns.length < 63) : ssetD (.tup (ns.map nD)) = some (.lst ((srtN ns).map nD)) := (sset_natB (by omega) (by have := srtN_len ns; omega)).2
structure Ln where
  one : Nat
  other : Nat
  cost : Nat
  gs : List Nat
  str : Nat
structure Wv where
  hs : List (List Nat)
  ls : List Ln
def Ln.d (l : Ln) : D := .tup [nD l.one, nD l.other, nD l.cost, .tup (l.gs.map nD), nD l.str]
def Wv.hd (w : Wv) : D := .tup (w.hs.map fun ds => .tup (ds.map nD))
def Wv.ld (w : Wv) : D := .tup (w.ls.map Ln.d)
def Wv.d (w : Wv) : D := .tup [w.hd, w.ld]
structure Ln.Ok (m : Nat) (l : Ln) : Prop where
  a : l.one < l.other
  b : l.other < m
  c1 : 1 ≤ l.cost
  c2 : l.cost ≤ 99
  g0 : l.gs ≠ []
  g1 : Up l.gs
  g2 : ∀ g ∈ l.gs, g < 8
  s1 : 1 ≤ l.str
  s2 : l.str ≤ 4
structure Wv.Ok (w : Wv) : Prop where
  h0 : 1 ≤ w.hs.length
  h1 : w.hs.length ≤ 12
  h2 : ∀ ds ∈ w.hs, ds.length ≤ 6 ∧ ∀ g ∈ ds, g < 8
  l1 : w.ls.length ≤ 20
  l2 : ∀ l ∈ w.ls, l.Ok w.hs.length
theorem up_len8 : ∀ {b : Nat} {gs : List Nat}, Up gs → (∀ g ∈ gs, g < b) → gs.length ≤ b
  | b, [], _, _ => Nat.zero_le _
  | b, g :: r, u, h => by
    have u' := List.pairwise_cons.mp u
    have key : ∀ (lo : Nat) (xs : List Nat), Up xs → (∀ x ∈ xs, lo ≤ x ∧ x < b) → lo ≤ b → xs.length ≤ b - lo := by
      intro lo xs
      induction xs generalizing lo with
      | nil => intro _ _ _; exact Nat.zero_le _
      | cons y s ih =>
        intro u h hl
        have u' := List.pairwise_cons.mp u
        have hy := h y List.mem_cons_self
        have := ih (y + 1) u'.2 (fun x m => ⟨u'.1 x m, (h x (List.mem_cons_of_mem _ m)).2⟩) hy.2
        rw [List.length_cons]
        omega
    exact key 0 _ u (fun x m => ⟨Nat.zero_le _, h x m⟩) (Nat.zero_le _)
section
variable {fns : List (String × Fn)} {k : Nat} {h0 h : Hs} {n T : Nat} {r : List D} {P : D → Hs → Prop} {Γ : FT} {ρ : Rho}
/-- a comprehension of draws: each turn takes at most c numbers -/
theorem w_compB {own : List Nat} {tg : Tg} {it : It} {e : X} {cd : X} (c : Nat) (G : D → Prop) (w : WI Γ it ρ h fun xs h1 => Bx h0 n r T h1 ∧
    (∀ (i : Nat) d h2, xs[i]? = some d → Bx h0 n r (T + c * i) h2 → turnC own tg Γ cd e ρ d h2 fun o h3 => (∀ z, o = some z → G z) ∧ Bx h0 n r (T + c * i + c) h3) ∧
    ∀ ys h2, ys.length ≤ xs.length → (∀ y ∈ ys, G y) → Bx h0 n r (T + c * xs.length) h2 → P (.lst ys) h2) : WE Γ (.comp own tg it cd e) ρ h P := by
  obtain ⟨xs, h1, e1, b, st, fin⟩ := w.get
  refine w_comp (.mk e1 ⟨fun i h2 ys => ys.length ≤ i ∧ (∀ y ∈ ys, G y) ∧ Bx h0 n r (T + c * i) h2, ⟨Nat.le_refl _, (fun _ m => nomatch m), by rw [Nat.mul_zero]; exact b⟩, fun i d h2 ys ei ⟨l, g, bx⟩ => ?_, fun ys h2 ⟨l, g, bx⟩ => fin ys h2 l g bx⟩)
  refine turnC_mono (st i d h2 ei bx) fun o' h3 ⟨gz, bx3⟩ => ?_
  refine ⟨?_, fun y m => ?_, by rw [Nat.mul_add, Nat.mul_one, ← Nat.add_assoc]; exact bx3⟩
  · rw [List.length_append]
    cases o' with
    | none => simp; omega
    | some z => simp; omega
  · rcases List.mem_append.mp m with m | m
    · exact g y m
    · cases o' with
      | none => simp at m
      | some z =>
        have : y = z := by simpa using m
        rw [this]; exact gz z rfl
/-- likewise, with a value each time -/
theorem w_compD {own : List Nat} {tg : Tg} {it : It} {e : X} (c : Nat) (G : D → Prop) (w : WI Γ it ρ h fun xs h1 => Bx h0 n r T h1 ∧
    (∀ (i : Nat) d h2, xs[i]? = some d → Bx h0 n r (T + c * i) h2 → WO (bindT tg d (wipeR ρ own)) fun ρ' => WE Γ e ρ' h2 fun z h3 => G z ∧ Bx h0 n r (T + c * i + c) h3) ∧
    ∀ ys h2, ys.length = xs.length → (∀ y ∈ ys, G y) → Bx h0 n r (T + c * xs.length) h2 → P (.lst ys) h2) : WE Γ (.comp own tg it (.bl true) e) ρ h P := by
  obtain ⟨xs, h1, e1, b, st, fin⟩ := w.get
  refine w_comp (.mk e1 ⟨fun i h2 ys => ys.length = i ∧ (∀ y ∈ ys, G y) ∧ Bx h0 n r (T + c * i) h2, ⟨rfl, (fun _ m => nomatch m), by rw [Nat.mul_zero]; exact b⟩, fun i d h2 ys ei ⟨l, g, bx⟩ => ?_, fun ys h2 ⟨l, g, bx⟩ => fin ys h2 l g bx⟩)
  obtain ⟨ρ', e2, w2⟩ := (st i d h2 ei bx).get
  obtain ⟨z, h3, e3, gz, bx3⟩ := w2.get
  refine .mk e2 (w_bl (.mk ⟨fun _ => .mk e3 ?_, fun q => nomatch q⟩))
  refine ⟨by simp [l], fun y m => ?_, by rw [Nat.mul_add, Nat.mul_one, ← Nat.add_assoc]; exact bx3⟩
  rcases List.mem_append.mp m with m | m
  · exact g y m
  · have : y = z := by simpa using m
    rw [this]; exact gz
def someFn : Fn := ⟨2, 5, [.asg (.tp [2, 3]) (.tup [(.call "_law_take" [(.var 0), (.int 4)]), (.idx (.var 1) (.call "_law_take" [(.var 0), (.bi .len [(.var 1)])]))]), .ife (.cmp .lt (.var 2) (.int 2)) [.ret (.bi .tuple [(.sset (.var 1))])] [], .ife (.cmp .eq (.var 2) (.int 2)) [.ret (.tup [(.var 3)])] [], .ret (.bi .tuple [(.sset (.bin .add (.lst [(.var 3)]) (.comp [4] (.nm 4) (.rng (.int 8)) (.cmp .eq (.call "_law_take" [(.var 0), (.int 3)]) (.int 0)) (.var 4))))])], false⟩
def lineFn : Fn := ⟨3, 7, [.asg (.nm 3) (.call "_law_take" [(.var 0), (.bin .sub (.var 1) (.int 1))]), .asg (.nm 4) (.bin .add (.bin .add (.var 3) (.int 1)) (.call "_law_take" [(.var 0), (.bin .sub (.bin .sub (.var 1) (.int 1)) (.var 3))])), .asg (.nm 5) (.bin .add (.int 1) (.call "_law_take" [(.var 0), (.idx (.lst [(.int 1), (.int 3), (.int 3), (.int 99)]) (.call "_law_take" [(.var 0), (.int 4)]))])), .asg (.nm 6) (.bin .add (.int 1) (.call "_law_take" [(.var 0), (.idx (.lst [(.int 1), (.int 1), (.int 2), (.int 4)]) (.call "_law_take" [(.var 0), (.int 4)]))])), .ret (.tup [(.var 3), (.var 4), (.var 5), (.call "_law_some_groups" [(.var 0), (.var 2)]), (.var 6)])], false⟩
def weavFn : Fn := ⟨1, 11, [.asg (.nm 1) (.bi .int [(.cmp .eq (.call "_law_take" [(.var 0), (.int 8)]) (.int 0))]), .asg (.nm 2) (.bin .add (.int 1) (.call "_law_take" [(.var 0), (.idx (.lst [(.int 6), (.int 12)]) (.var 1))])), .asg (.nm 3) (.comp [4] (.nm 4) (.rng (.bin .add (.int 1) (.call "_law_take" [(.var 0), (.int 3)]))) (.bl true) (.call "_law_take" [(.var 0), (.int 8)])), .own 5 (.lst []), .fors (.nm 6) (.rng (.var 2)) [.asg (.nm 7) (.call "_law_take" [(.var 0), (.idx (.lst [(.int 4), (.int 7)]) (.var 1))]), .mut .append 5 [(.bi .tuple [(.comp [8] (.nm 8) (.rng (.var 7)) (.bl true) (.idx (.var 3) (.call "_law_take" [(.var 0), (.bi .len [(.var 3)])])))])]], .asg (.nm 9) (.comp [10] (.nm 10) (.rng (.bin .mul (.call "_law_take" [(.var 0), (.idx (.lst [(.int 11), (.int 21)]) (.var 1))]) (.bi .int [(.cmp .gt (.var 2) (.int 1))]))) (.bl true) (.call "_law_line" [(.var 0), (.var 2), (.var 3)])), .ret (.tup [(.bi .tuple [(.bor 5)]), (.bi .tuple [(.var 9)])])], false⟩
/-- box, take, and what draws weavings stand -/
structure DrawFns (fns : List (String × Fn)) : Prop where
  take : fns.lookup "_law_take" = some takeFn
  some : fns.lookup "_law_some_groups" = .some someFn
  line : fns.lookup "_law_line" = .some lineFn
  weav : fns.lookup "_law_weaving" = .some weavFn
theorem some_w (F : DrawFns fns) {some : List Nat} (b : Bx h0 n r T h) (hT : T < 2 ^ 39) (s0 : some ≠ []) (s1 : some.length ≤ 8) (s2 : ∀ g ∈ some, g < 8)
    (q : ∀ (gs : List Nat) h', gs ≠ [] → Up gs → (∀ g ∈ gs, g < 8) → Bx h0 n r (T + 10) h' → P (.tup (gs.map nD)) h') : WC (callF fns (k + 2)) "_law_some_groups" [.ref n, .lst (some.map nD)] h P := by
  refine c_def F.some rfl ?_
  show WS _ someFn.body [_, _, _, _, _] _ _
  unfold someFn
  repeat kct_strs
  refine take_w F.take b (by decide) (by decide) (by omega) fun way h1 hw b1 => ?_
  repeat kct_strs
  have sl : 0 < some.length := List.length_pos_iff.mpr s0
  refine take_w F.take b1 (by rw [List.length_map]; omega) (by rw [List.length_map]; omega) (by omega) fun at_ h2 ha b2 => ?_
  rw [List.length_map] at ha
  refine x_nat (by rw [List.length_map]; omega) ?_
  rw [List.getElem_map]
  generalize hg : some[at_] = g0
  have g0m : g0 ∈ some := by rw [← hg]; exact List.getElem_mem _
  repeat kct_strs
  refine dec2 (fun c => ?_) fun c => ?_
  · repeat kct_strs
    refine .mk (sset_nat (by omega)) ?_
    repeat kct_strs
    exact q _ _ (srtN_ne s0) up_srtN (fun g m => s2 g (mem_srtN.mp m)) (b2.mono (by omega))
  · repeat kct_strs
    refine dec2 (fun c => ?_) fun c => ?_
    · repeat kct_strs
      exact q [g0] _ (by simp) (List.pairwise_singleton _ _) (fun g m => by rw [List.mem_singleton.mp m]; exact s2 _ g0m) (b2.mono (by omega))
    · repeat kct_strs
      refine w_compB (h0 := h0) (n := n) (r := r) (T := T + 1 + 1) 1 (fun d => ∃ g : Nat, d = nD g ∧ g < 8) ?_
      repeat kct_strs
      refine ⟨by decide, by decide, b2, fun i d h3 ei b3 => ?_, fun ys h3 yl yg b3 => ?_⟩
      · obtain ⟨hi, rfl⟩ := rng_at0 ei
        have hi : i < 8 := hi
        refine .mk rfl ?_
        simp only [wipeR, List.set_cons_zero, List.set_cons_succ]
        repeat kct_strs
        refine take_w F.take b3 (by decide) (by decide) (by omega) fun z h4 _ b4 => ?_
        repeat kct_strs
        refine ⟨fun _ => ?_, fun _ => ⟨fun z e => (nomatch e), b4.mono (by omega)⟩⟩
        repeat kct_strs
        exact ⟨fun z e => ⟨i, (Option.some.inj e).symm, hi⟩, b4.mono (by omega)⟩
      · obtain ⟨xs, rfl, hx⟩ := lift_map yg
        rw [rngL_len, List.length_map] at yl
        have yl : xs.length ≤ 8 := yl
        refine o_addL (by simp only [List.length_cons, List.length_nil, List.length_map]; have : lim = 4000000 := rfl; omega) ?_
        show OS (.lst ((g0 :: xs).map nD)) _
        refine .mk (sset_nat (by rw [List.length_cons]; omega)) ?_
        repeat kct_strs
        refine q _ _ (srtN_ne (by simp)) up_srtN (fun g m => ?_) (b3.mono (by rw [rngL_len]; show T + 1 + 1 + 1 * (8 : Int).toNat ≤ _; have : (8 : Int).toNat = 8 := rfl; omega))
        rcases List.mem_cons.mp (mem_srtN.mp m) with e | m
        · rw [e]; exact s2 _ g0m
        · exact hx g m
theorem line_w (F : DrawFns fns) {many : Nat} {some : List Nat} (b : Bx h0 n r T h) (hT : T < 2 ^ 38) (m2 : 2 ≤ many) (m12 : many ≤ 12) (s0 : some ≠ []) (s1 : some.length ≤ 8) (s2 : ∀ g ∈ some, g < 8)
    (q : ∀ (l : Ln) h', l.Ok many → Bx h0 n r (T + 16) h' → P l.d h') : WC (callF fns (k + 3)) "_law_line" [.ref n, nD many, .lst (some.map nD)] h P := by
  refine c_def F.line rfl ?_
  show WS _ lineFn.body [_, _, _, _, _, _, _] _ _
  unfold lineFn
  repeat kct_strs
  refine take_w F.take b (by omega) (by omega) (by omega) fun one h1 hone b1 => ?_
  repeat kct_strs
  refine take_w F.take b1 (by omega) (by omega) (by omega) fun oth h2 hoth b2 => ?_
  repeat kct_strs
  refine take_w F.take b2 (by decide) (by decide) (by omega) fun i3 h3 hi3 b3 => ?_
  refine x_mem (by simp only [List.length_cons, List.length_nil]; omega) fun z zm => ?_
  obtain ⟨zc, rfl, zc1, zc2⟩ : ∃ zc : Int, z = .int zc ∧ 1 ≤ zc ∧ zc ≤ 99 := by
    simp only [List.mem_cons, List.not_mem_nil, or_false] at zm
    rcases zm with e | e | e | e <;> exact ⟨_, e, by decide, by decide⟩
  repeat kct_strs
  refine take_w F.take b3 zc1 (by omega) (by omega) fun cost h4 hcost b4 => ?_
  repeat kct_strs
  refine take_w F.take b4 (by decide) (by decide) (by omega) fun i5 h5 hi5 b5 => ?_
  refine x_mem (by simp only [List.length_cons, List.length_nil]; omega) fun z zm => ?_
  obtain ⟨zs, rfl, zs1, zs2⟩ : ∃ zc : Int, z = .int zc ∧ 1 ≤ zc ∧ zc ≤ 4 := by
    simp only [List.mem_cons, List.not_mem_nil, or_false] at zm
    rcases zm with e | e | e | e <;> exact ⟨_, e, by decide, by decide⟩
  repeat kct_strs
  refine take_w F.take b5 zs1 (by omega) (by omega) fun str h6 hstr b6 => ?_
  repeat kct_strs
  refine some_w F b6 (by omega) s0 s1 s2 fun gs h7 g0 g1 g2 b7 => ?_
  repeat kct_strs
  show P _ _
  have := q ⟨one, one + 1 + oth, 1 + cost, gs, 1 + str⟩ h7 ⟨by show one < one + 1 + oth; omega, by show one + 1 + oth < many; omega, by show 1 ≤ 1 + cost; omega, by show 1 + cost ≤ 99; omega, g0, g1, g2, by show 1 ≤ 1 + str; omega, by show 1 + str ≤ 4; omega⟩ (b7.mono (by omega))
  simpa only [Ln.d, nD, Int.natCast_add, Int.natCast_one] using this
theorem weav_w (F : DrawFns fns) (b : Bx h0 n r T h) (hT : T < 2 ^ 30) (q : ∀ (w : Wv) h', w.Ok → Bx h0 n r (T + 500) h' → P w.d h') : WC (callF fns (k + 4)) "_law_weaving" [.ref n] h P := by
  refine c_def F.weav rfl ?_
  show WS _ weavFn.body [_, _, _, _, _, _, _, _, _, _, _] _ _
  unfold weavFn
  repeat kct_strs
  refine take_w F.take b (by decide) (by decide) (by omega) fun gr h1 hgr b1 => ?_
  repeat kct_strs
  generalize hG : (if decide ((gr : Int) = 0) = true then (1 : Int) else 0) = G
  have hG2 : G = 0 ∨ G = 1 := by rw [← hG]; split <;> simp
  have pick : ∀ (a b : Int) (P : D → Prop) (h : Hs), (∀ z : Int, (z = a ∨ z = b) → P (.int z)) → WX h (.lst [.int a, .int b]) (.int G) P := fun a b P h p => by
    rcases hG2 with e | e
    · rw [e]; exact x_lst (ixL (i := 0) (by simp)) (p a (.inl rfl))
    · rw [e]; exact x_lst (ixL (i := 1) (by simp)) (p b (.inr rfl))
  refine pick _ _ _ _ fun m hm => ?_
  repeat kct_strs
  refine take_w F.take b1 (by omega) (by omega) (by omega) fun mn h2 hmn b2 => ?_
  repeat kct_strs
  refine w_compD (h0 := h0) (n := n) (r := r) (T := T + 1 + 1 + 1) 1 (fun d => ∃ g : Nat, d = nD g ∧ g < 8) ?_
  repeat kct_strs
  refine take_w F.take b2 (by decide) (by decide) (by omega) fun sm h3 hsm b3 => ?_
  repeat kct_strs
  refine ⟨by omega, by omega, b3, fun i d h4 ei b4 => ?_, fun ys h4 yl yg b4 => ?_⟩
  · have hi := (rng_at ei).1
    refine .mk rfl ?_
    simp only [wipeR, List.set_cons_zero, List.set_cons_succ]
    repeat kct_strs
    refine take_w F.take b4 (by decide) (by decide) (by omega) fun z h5 hz b5 => ?_
    exact ⟨⟨z, rfl, by omega⟩, b5⟩
  obtain ⟨some, rfl, s2⟩ := lift_map yg
  rw [rngL_len] at yl b4
  rw [List.length_map] at yl
  have s0 : some ≠ [] := fun e => by rw [e] at yl; simp at yl; omega
  have b4 : Bx h0 n r (T + 6) h4 := b4.mono (by omega)
  repeat kct_strs
  refine s_for ?_
  repeat kct_strs
  refine ⟨by omega, by omega, fun i ρ h' => ∃ (hs : List (List Nat)) (s6 s7 s8 : Sl), ρ = [.val (.ref n), .val (.int G), .val (.int (1 + mn)), .val (.lst (some.map nD)), .un, .own (hs.map fun ds => .tup (ds.map nD)), s6, s7, s8, .un, .un] ∧ hs.length = i ∧
    (∀ ds ∈ hs, ds.length ≤ 6 ∧ ∀ g ∈ ds, g < 8) ∧ Bx h0 n r (T + 6 + 7 * i) h', ⟨[], _, _, _, rfl, rfl, (fun _ m => nomatch m), b4⟩, ?_, ?_⟩
  · rintro i d ρ h5 ei ⟨hs, s6, s7, s8, rfl, hl, hd, b5⟩
    have hi := (rng_at ei).1
    refine .mk rfl ?_
    simp only [List.set_cons_zero, List.set_cons_succ]
    repeat kct_strs
    refine pick _ _ _ _ fun dm hdm => ?_
    repeat kct_strs
    refine take_w F.take b5 (by omega) (by omega) (by omega) fun dn h6 hdn b6 => ?_
    repeat kct_strs
    refine w_compD (h0 := h0) (n := n) (r := r) (T := T + 6 + 7 * i + 1) 1 (fun d => ∃ g : Nat, d = nD g ∧ g < 8) ?_
    repeat kct_strs
    refine ⟨by omega, by omega, b6, fun j d h7 ej b7 => ?_, fun ys h7 zl zg b7 => ?_⟩
    · have hj := (rng_at ej).1
      refine .mk rfl ?_
      simp only [wipeR, List.set_cons_zero, List.set_cons_succ]
      repeat kct_strs
      refine take_w F.take b7 (by rw [List.length_map]; omega) (by rw [List.length_map]; omega) (by omega) fun z h8 hz b8 => ?_
      rw [List.length_map] at hz
      refine x_nat (by rw [List.length_map]; omega) ?_
      rw [List.getElem_map]
      exact ⟨⟨_, rfl, s2 _ (List.getElem_mem _)⟩, b8⟩
    · obtain ⟨ds, rfl, dg⟩ := lift_map zg
      rw [rngL_len] at zl b7
      rw [List.length_map] at zl
      repeat kct_strs
      refine o_app (by rw [List.length_map]; have : lim = 4000000 := rfl; omega) ?_
      repeat kct_strs
      refine ⟨hs ++ [ds], _, _, _, by rw [List.map_append]; rfl, by simp [hl], fun x m => ?_, b7.mono (by omega)⟩
      rcases List.mem_append.mp m with m | m
      · exact hd x m
      · rw [List.mem_singleton.mp m]
        exact ⟨by omega, dg⟩
  · rintro ρ h5 ⟨hs, s6, s7, s8, rfl, hl, hd, b5⟩
    rw [rngL_len] at hl b5
    repeat kct_strs
    refine w_compD (h0 := h0) (n := n) (r := r) (T := T + 6 + 7 * 12 + 1) 16 (fun d => ∃ l : Ln, d = l.d ∧ l.Ok hs.length) ?_
    repeat kct_strs
    refine pick _ _ _ _ fun lm hlm => ?_
    repeat kct_strs
    refine take_w F.take (b5.mono (show _ ≤ T + 6 + 7 * 12 by omega)) (by omega) (by omega) (by omega) fun ln h6 hln b6 => ?_
    repeat kct_strs
    refine o_mul (mulOk_l (by omega) (by omega)) ?_
    repeat kct_strs
    generalize hM : (ln : Int) * (if decide ((1 : Int) < 1 + (mn : Int)) = true then (1 : Int) else 0) = M
    have hM2 : (M = 0 ∨ (M = ln ∧ 2 ≤ hs.length)) := by
      rw [← hM]
      by_cases c : (1 : Int) < 1 + (mn : Int)
      · rw [decide_eq_true c]; exact .inr ⟨by simp, by omega⟩
      · rw [decide_eq_false c]; exact .inl (by simp)
    refine ⟨by omega, by omega, b6, fun i d h7 ei b7 => ?_, fun ys h7 zl zg b7 => ?_⟩
    · have hi := (rng_at ei).1
      refine .mk rfl ?_
      simp only [wipeR, List.set_cons_zero, List.set_cons_succ]
      repeat kct_strs
      have em : D.int (1 + (mn : Int)) = nD hs.length := by
        have : (1 + (mn : Int)) = (hs.length : Int) := by omega
        rw [this]
      rw [em]
      refine line_w F b7 (by omega) (by omega) (by omega) s0 (by omega) s2 fun l h8 lo b8 => ?_
      exact ⟨⟨l, rfl, lo⟩, b8⟩
    · obtain ⟨ls, rfl, lo⟩ := lift_map zg
      rw [rngL_len] at zl b7
      rw [List.length_map] at zl
      repeat kct_strs
      show P _ _
      exact q ⟨hs, ls⟩ h7 ⟨by show 1 ≤ hs.length; omega, by show hs.length ≤ 12; omega, hd, by show ls.length ≤ 20; omega, lo⟩ (b7.mono (by omega))
end
end Ev

namespace Ev
local macro_rules | `(tactic| kct_strs) => `(tactic| first | refine w_var rfl ?_ | refine w_int ?_ | refine w_bl ?_ | refine w_str ?_ | refine w_non ?_ | refine w_bor rfl ?_ | refine w_glob ?_ | refine w_bin ?_ | refine w_cmp ?_ | refine w_call ?_ | refine w_pcall ?_ | refine w_dnew ?_ | refine w_dnew1 ?_ | refine w_dget ?_ | refine w_din ?_ | refine w_dget2 ?_ | refine s_dput ?_ | refine w_rev ?_ | refine w_trng ?_ | refine w_lrng ?_ | refine w_cons ?_ | refine w_nil ?_ | refine w_bi ?_ | refine w_idx ?_ | refine w_tup ?_ | refine w_lst ?_ | refine w_isin ?_ | refine w_both ?_ | refine w_and ?_ | refine w_and1 ?_ | refine w_not ?_ | refine w_ife ?_ | refine w_sl ?_ | refine w_sset ?_ | refine w_sm ?_ | refine w_cmp2 ?_ | refine w_neg ?_ | refine w_alloc ?_ | refine w_over ?_ | refine w_rng ?_ | refine w_rng2 ?_ | refine w_enum ?_ | refine w_zip ?_ | refine s_nil ?_ | refine s_ret ?_ | refine s_expr ?_ | refine s_reto rfl ?_ | (refine s_retf ?_) | refine s_par ?_ | (refine s_asg ?_; simp only [List.set_cons_zero, List.set_cons_succ]) | refine s_asgT ?_ | refine s_ife ?_ | refine s_cset ?_ | (refine s_own rfl ?_; simp only [List.set_cons_zero, List.set_cons_succ]) | (refine s_mut rfl ?_; simp only [List.set_cons_zero, List.set_cons_succ]) | (refine s_frz rfl ?_; simp only [List.set_cons_zero, List.set_cons_succ]) | refine s_brk ?_ | refine s_cnt ?_ | refine s_pas ?_ | refine WB.mk ?_ | refine o_add ?_ | refine o_sub ?_ | refine o_lt ?_ | refine o_gt ?_ | refine o_le ?_ | refine o_ge ?_ | refine o_eq ?_ | refine o_ne ?_ | refine o_eqb ?_ | refine o_neb ?_ | refine o_isn ?_ | refine o_notn ?_ | refine o_isnb ?_ | refine o_notnb ?_ | refine o_lenL ?_ | refine o_lenT ?_ | refine o_lenS ?_ | refine o_lenX ?_ | refine o_abs ?_ | refine o_min ?_ | refine o_intb ?_ | refine o_listL ?_ | refine o_listT ?_ | refine o_tupL ?_ | refine o_tupT ?_ | refine ⟨Nat.le_of_ble_eq_true rfl, ?_⟩ | refine knT ?_ | refine knF ?_ | refine knTT ?_ | refine knFF ?_ | refine knTF ?_ | refine knFT ?_ | refine o_ty rfl ?_ | (refine o_bind rfl ?_; simp only [List.set_cons_zero, List.set_cons_succ]) | refine o_cutL ?_ | refine o_cutT ?_ | refine o_optX rfl ?_ | refine o_items rfl ?_ | (refine o_setPar rfl ?_; simp only [List.set_cons_zero, List.set_cons_succ]) | refine o_rev ?_ | refine o_revT ?_ | refine o_neg ?_ | refine o_negB ?_ | refine o_addB ?_ | refine o_subB ?_ | refine ⟨Or.inl rfl, ?_⟩ | refine ⟨Or.inr rfl, ?_⟩ | refine o_over rfl ?_ | refine o_alloc rfl ?_ | refine o_modL rfl ?_ | refine o_fdivL rfl ?_ | refine ⟨_, rfl, ?_⟩)
open PySem L2
mutual
def toT : D → PyData
  | .non => .none
  | .bl b => .bool b
  | .int i => .int i
  | .str x => .str x
  | .tup xs => .tuple (toTL xs)
  | .lst xs => .list (toTL xs)
  | .dct _ _ _ => .none
  | .ref _ => .none
  | .scr _ => .none
def toTL : List D → List PyData
  | [] => []
  | x :: r => toT x :: toTL r
end
mutual
theorem toPy_T : ∀ {d : D}, okD d = true → toPy d = some (toT d)
  | .non, _ => rfl
  | .bl _, _ => rfl
  | .int _, _ => rfl
  | .str _, _ => rfl
  | .tup xs, h => by simp only [okD] at h; simp only [toPy, toPyL_T h, Option.map_some, toT]
  | .lst xs, h => by simp only [okD] at h; simp only [toPy, toPyL_T h, Option.map_some, toT]
  | .dct _ _ _, h => by simp [okD] at h
  | .ref _, h => by simp [okD] at h
  | .scr _, h => by simp [okD] at h
theorem toPyL_T : ∀ {xs : List D}, okL xs = true → toPyL xs = some (toTL xs)
  | [], _ => rfl
  | x :: r, h => by
    simp only [okL, Bool.and_eq_true] at h
    simp only [toPyL, toPy_T h.1, toPyL_T h.2, toTL]
end
mutual
theorem lay_T : ∀ {d : D}, okD d = true → PyData.canLay0 (toT d) = true ∧ PyData.depth (toT d) = depD d
  | .non, _ => ⟨by simp [toT, PyData.canLay0], by simp [toT, PyData.depth, depD]⟩
  | .bl _, _ => ⟨by simp [toT, PyData.canLay0], by simp [toT, PyData.depth, depD]⟩
  | .int _, _ => ⟨by simp [toT, PyData.canLay0], by simp [toT, PyData.depth, depD]⟩
  | .str x, h => ⟨by simpa only [toT, okD] using h, by simp [toT, PyData.depth, depD]⟩
  | .tup xs, h => by
    simp only [okD] at h
    have := layL_T h
    exact ⟨by simp only [toT, PyData.canLay0]; exact this.1, by simp only [toT, PyData.depth, depD, this.2]⟩
  | .lst xs, h => by
    simp only [okD] at h
    have := layL_T h
    exact ⟨by simp only [toT, PyData.canLay0]; exact this.1, by simp only [toT, PyData.depth, depD, this.2]⟩
  | .dct _ _ _, h => by simp [okD] at h
  | .ref _, h => by simp [okD] at h
  | .scr _, h => by simp [okD] at h
theorem layL_T : ∀ {xs : List D}, okL xs = true → PyData.canLayAll0 (toTL xs) = true ∧ PyData.depthAll (toTL xs) = depL xs
  | [], _ => ⟨by simp [toTL, PyData.canLayAll0], by simp [toTL, PyData.depthAll, depL]⟩
  | x :: r, h => by
    simp only [okL, Bool.and_eq_true] at h
    have h1 := lay_T h.1
    have h2 := layL_T h.2
    exact ⟨by simp only [toTL, PyData.canLayAll0, h1.1, h2.1, Bool.and_self], by simp only [toTL, PyData.depthAll, depL, h1.2, h2.2]⟩
end
/-- data, of a depth that == goes to -/
structure Dt (d : D) : Prop where
  ok : okD d = true
  dep : depD d ≤ 60
theorem Dt.py {d : D} (h : Dt d) : pyOf d = some (toT d) := by
  unfold pyOf
  have l := lay_T h.ok
  simp only [toPy_T h.ok]
  rw [if_pos]
  unfold SeqAt.shaped
  rw [l.1, l.2, decide_eq_true (Nat.le_trans h.dep (by decide))]
  rfl
def eqB (a b : D) : Bool := PyData.eqv (toT a) (toT b)
def eqL : List D → List D → Bool
  | [], [] => true
  | x :: xs, y :: ys => eqB x y && eqL xs ys
  | [], _ :: _ => false
  | _ :: _, [] => false
theorem eqvAll_T : ∀ xs ys : List D, PyData.eqvAll (toTL xs) (toTL ys) = eqL xs ys
  | [], [] => rfl
  | x :: xs, y :: ys => by simp only [toTL, PyData.eqvAll, eqL, eqvAll_T xs ys, eqB]
  | [], _ :: _ => rfl
  | _ :: _, [] => rfl
theorem eqD_B {a b : D} (ha : Dt a) (hb : Dt b) : eqD a b = some (eqB a b) := by
  unfold eqD
  split
  · simp only [eqB, toT, PyData.eqv]
  · simp only [ha.py, hb.py, eqB]
theorem eqB_int (i j : Int) : eqB (.int i) (.int j) = decide (i = j) := by
  simp only [eqB, toT, PyData.eqv]; rfl
theorem eqB_tup (xs ys : List D) : eqB (.tup xs) (.tup ys) = eqL xs ys := by
  simp only [eqB, toT, PyData.eqv, eqvAll_T]
theorem eqB_lst (xs ys : List D) : eqB (.lst xs) (.lst ys) = eqL xs ys := by
  simp only [eqB, toT, PyData.eqv, eqvAll_T]
theorem eqB_str (x y : Str) : eqB (.str x) (.str y) = (x == y) := by
  simp only [eqB, toT, PyData.eqv]
theorem eqL_nil (xs : List D) : eqL xs [] = xs.isEmpty := by
  cases xs <;> rfl
theorem eqL_nil' (xs : List D) : eqL [] xs = xs.isEmpty := by
  cases xs <;> rfl
theorem eqL_map {α : Type} [DecidableEq α] {f : α → D} (hf : ∀ a b, eqB (f a) (f b) = decide (a = b)) : ∀ xs ys : List α, eqL (xs.map f) (ys.map f) = decide (xs = ys)
  | [], [] => rfl
  | x :: xs, y :: ys => by
    simp only [List.map_cons, eqL, hf, eqL_map hf xs ys, List.cons.injEq]
    by_cases a : x = y <;> by_cases b : xs = ys <;> simp [a, b]
  | [], _ :: _ => rfl
  | _ :: _, [] => rfl
theorem eqB_nat (a b : Nat) : eqB (nD a) (nD b) = decide (a = b) := by
  rw [eqB_int]
  by_cases h : a = b
  · rw [decide_eq_true h, decide_eq_true (by omega)]
  · rw [decide_eq_false h, decide_eq_false (by omega)]
theorem eqB_refl {d : D} (h : Dt d) : eqB d d = true := SeqAt.eqv_refl (toT d) (lay_T h.ok).1
theorem o_eqS {x y : Str} {P : Bool → Prop} (p : P (x == y)) : OC .eq (.str x) (.str y) P := .mk rfl p
theorem o_neS {x y : Str} {P : Bool → Prop} (p : P (!(x == y))) : OC .ne (.str x) (.str y) P := .mk rfl p
section
variable {P : Bool → Prop} {a b : D}
theorem o_eqD (ha : Dt a) (hb : Dt b) (p : P (eqB a b)) : OC .eq a b P := .mk (by simp only [cmpD, eqD_B ha hb]) p
theorem o_neD (ha : Dt a) (hb : Dt b) (p : P (!eqB a b)) : OC .ne a b P := .mk (by simp only [cmpD, eqD_B ha hb, Option.map_some]) p
theorem mem_T {x : D} : ∀ {ys : List D}, ((toTL ys).any fun z => PyData.eqv z (toT x)) = ys.any fun y => eqB y x
  | [] => rfl
  | y :: ys => by simp only [toTL, List.any_cons, mem_T (ys := ys), eqB]
theorem inD_tup {ys : List D} (ha : Dt a) (hb : Dt (.tup ys)) : inD a (.tup ys) = some (ys.any fun y => eqB y a) := by
  have hl : okL ys = true := by have := hb.ok; simpa only [okD] using this
  simp only [inD, ha.py, hb.py, toPyL_T hl, mem_T]
theorem inD_lst {ys : List D} (ha : Dt a) (hb : Dt (.lst ys)) : inD a (.lst ys) = some (ys.any fun y => eqB y a) := by
  have hl : okL ys = true := by have := hb.ok; simpa only [okD] using this
  simp only [inD, ha.py, hb.py, toPyL_T hl, mem_T]
theorem o_inT {ys : List D} (ha : Dt a) (hb : Dt (.tup ys)) (p : P (ys.any fun y => eqB y a)) : OC .inn a (.tup ys) P := .mk (by simp only [cmpD, inD_tup ha hb]) p
theorem o_inL {ys : List D} (ha : Dt a) (hb : Dt (.lst ys)) (p : P (ys.any fun y => eqB y a)) : OC .inn a (.lst ys) P := .mk (by simp only [cmpD, inD_lst ha hb]) p
theorem o_ninT {ys : List D} (ha : Dt a) (hb : Dt (.tup ys)) (p : P (!ys.any fun y => eqB y a)) : OC .nin a (.tup ys) P := .mk (by simp only [cmpD, inD_tup ha hb, Option.map_some]) p
theorem o_ninL {ys : List D} (ha : Dt a) (hb : Dt (.lst ys)) (p : P (!ys.any fun y => eqB y a)) : OC .nin a (.lst ys) P := .mk (by simp only [cmpD, inD_lst ha hb, Option.map_some]) p
end
theorem Dt.int {i : Int} : Dt (.int i) := ⟨rfl, by simp [depD]⟩
theorem Dt.non : Dt .non := ⟨rfl, by simp [depD]⟩
theorem Dt.bl {b : Bool} : Dt (.bl b) := ⟨rfl, by simp [depD]⟩
structure DtN (n : Nat) (d : D) : Prop where
  ok : okD d = true
  dep : depD d ≤ n
theorem DtN.dt {n : Nat} {d : D} (h : DtN n d) (hn : n ≤ 60) : Dt d := ⟨h.ok, Nat.le_trans h.dep hn⟩
theorem DtN.mono {n m : Nat} {d : D} (h : DtN n d) (hn : n ≤ m) : DtN m d := ⟨h.ok, Nat.le_trans h.dep hn⟩
theorem DtN.int {n : Nat} {i : Int} : DtN n (.int i) := ⟨rfl, by simp [depD]⟩
theorem DtN.bl {n : Nat} {i : Bool} : DtN n (.bl i) := ⟨rfl, by simp [depD]⟩
theorem DtN.non {n : Nat} : DtN n .non := ⟨rfl, by simp [depD]⟩
theorem okL_of : ∀ {xs : List D}, (∀ x ∈ xs, okD x = true) → okL xs = true
  | [], _ => rfl
  | x :: r, h => by
    simp only [okL, Bool.and_eq_true]
    exact ⟨h x List.mem_cons_self, okL_of fun y m => h y (List.mem_cons_of_mem _ m)⟩
theorem depL_of {n : Nat} : ∀ {xs : List D}, (∀ x ∈ xs, depD x ≤ n) → depL xs ≤ n
  | [], _ => by simp [depL]
  | x :: r, h => by
    simp only [depL]
    exact Nat.max_le.mpr ⟨h x List.mem_cons_self, depL_of fun y m => h y (List.mem_cons_of_mem _ m)⟩
theorem DtN.tup {n : Nat} {xs : List D} (h : ∀ x ∈ xs, DtN n x) : DtN (n + 1) (.tup xs) := ⟨by simp only [okD]; exact okL_of fun x m => (h x m).ok, by simp only [depD]; exact Nat.succ_le_succ (depL_of fun x m => (h x m).dep)⟩
theorem DtN.lst {n : Nat} {xs : List D} (h : ∀ x ∈ xs, DtN n x) : DtN (n + 1) (.lst xs) := ⟨by simp only [okD]; exact okL_of fun x m => (h x m).ok, by simp only [depD]; exact Nat.succ_le_succ (depL_of fun x m => (h x m).dep)⟩
theorem DtN.all {n : Nat} : ∀ x ∈ ([] : List D), DtN n x := fun _ m => nomatch m
theorem DtN.cons {n : Nat} {a : D} {xs : List D} (h : DtN n a) (hs : ∀ x ∈ xs, DtN n x) : ∀ x ∈ a :: xs, DtN n x := fun x m => by
  rcases List.mem_cons.mp m with e | m
  · rw [e]; exact h
  · exact hs x m
theorem DtN.map {α : Type} {n : Nat} {f : α → D} {xs : List α} (h : ∀ a ∈ xs, DtN n (f a)) : ∀ x ∈ xs.map f, DtN n x := fun x m => by
  obtain ⟨a, am, rfl⟩ := List.mem_map.mp m
  exact h a am
theorem dt_nats (xs : List Nat) : DtN 1 (.tup (xs.map nD)) := .tup (.map fun _ _ => .int)
theorem dt_natsL (xs : List Nat) : DtN 1 (.lst (xs.map nD)) := .lst (.map fun _ _ => .int)
theorem Ln.dt (l : Ln) : DtN 2 l.d := .tup (.cons .int (.cons .int (.cons .int (.cons (dt_nats _) (.cons .int .all)))))
theorem Wv.dt (w : Wv) : DtN 4 w.d := .tup (.cons ((DtN.tup (.map fun _ _ => dt_nats _)).mono (by decide)) (.cons (.tup (.map fun l _ => l.dt)) .all))
theorem cut_from {α : Type} (xs : List α) (i : Nat) : cutL xs (some (i : Int)) none = xs.drop i := by
  unfold cutL
  rw [HT.sIx_nat, HT.sIx_none, List.take_of_length_le (by simp)]
  by_cases h : i ≤ xs.length
  · rw [Nat.min_eq_left h]
  · rw [Nat.min_eq_right (by omega), List.drop_of_length_le (Nat.le_refl _), List.drop_of_length_le (by omega)]
theorem cut_to {α : Type} (xs : List α) (i : Nat) : cutL xs none (some (i : Int)) = xs.take i := by
  unfold cutL
  rw [HT.sIx_nat, HT.sIx_none, Nat.sub_zero, List.drop_zero]
  by_cases h : i ≤ xs.length
  · rw [Nat.min_eq_left h]
  · rw [Nat.min_eq_right (by omega), List.take_of_length_le (Nat.le_refl _), List.take_of_length_le (by omega)]
/-- xs[-1:] -/
theorem cut_last {α : Type} (xs : List α) : cutL xs (some (-1)) none = xs.drop (xs.length - 1) := by
  unfold cutL
  have e : HT.sIx xs.length 0 (some (-1)) = xs.length - 1 := by
    unfold HT.sIx
    simp only
    rw [if_pos (by omega)]
    omega
  rw [e, HT.sIx_none, List.take_of_length_le (by simp)]
theorem mapO_bls {α : Type} (f : α → Bool) : ∀ xs : List α, mapO asBl (xs.map fun x => D.bl (f x)) = some (xs.map f)
  | [] => rfl
  | x :: r => by simp only [List.map_cons, mapO, asBl, mapO_bls f r]
section
variable {P : D → Prop}
theorem o_all {α : Type} {f : α → Bool} {xs : List α} (p : P (.bl (xs.all f))) : OI .all [.lst (xs.map fun x => .bl (f x))] P := .mk (by simp only [biD, mapO_bls, Option.map_some, List.all_map]; rfl) p
theorem o_any {α : Type} {f : α → Bool} {xs : List α} (p : P (.bl (xs.any f))) : OI .any [.lst (xs.map fun x => .bl (f x))] P := .mk (by simp only [biD, mapO_bls, Option.map_some, List.any_map]; rfl) p
end
end Ev

namespace Ev
local macro_rules | `(tactic| kct_strs) => `(tactic| first | refine w_var rfl ?_ | refine w_int ?_ | refine w_bl ?_ | refine w_str ?_ | refine w_non ?_ | refine w_bor rfl ?_ | refine w_glob ?_ | refine w_bin ?_ | refine w_cmp ?_ | refine w_call ?_ | refine w_pcall ?_ | refine w_dnew ?_ | refine w_dnew1 ?_ | refine w_dget ?_ | refine w_din ?_ | refine w_dget2 ?_ | refine s_dput ?_ | refine w_rev ?_ | refine w_trng ?_ | refine w_lrng ?_ | refine w_cons ?_ | refine w_nil ?_ | refine w_bi ?_ | refine w_idx ?_ | refine w_tup ?_ | refine w_lst ?_ | refine w_isin ?_ | refine w_both ?_ | refine w_and ?_ | refine w_and1 ?_ | refine w_not ?_ | refine w_ife ?_ | refine w_sl ?_ | refine w_sset ?_ | refine w_sm ?_ | refine w_cmp2 ?_ | refine w_neg ?_ | refine w_alloc ?_ | refine w_over ?_ | refine w_rng ?_ | refine w_rng2 ?_ | refine w_enum ?_ | refine w_zip ?_ | refine s_nil ?_ | refine s_ret ?_ | refine s_expr ?_ | refine s_reto rfl ?_ | (refine s_retf ?_) | refine s_par ?_ | (refine s_asg ?_; simp only [List.set_cons_zero, List.set_cons_succ]) | refine s_asgT ?_ | refine s_ife ?_ | refine s_cset ?_ | (refine s_own rfl ?_; simp only [List.set_cons_zero, List.set_cons_succ]) | (refine s_mut rfl ?_; simp only [List.set_cons_zero, List.set_cons_succ]) | (refine s_frz rfl ?_; simp only [List.set_cons_zero, List.set_cons_succ]) | refine s_brk ?_ | refine s_cnt ?_ | refine s_pas ?_ | refine WB.mk ?_ | refine o_add ?_ | refine o_sub ?_ | refine o_lt ?_ | refine o_gt ?_ | refine o_le ?_ | refine o_ge ?_ | refine o_eq ?_ | refine o_ne ?_ | refine o_eqb ?_ | refine o_neb ?_ | refine o_isn ?_ | refine o_notn ?_ | refine o_isnb ?_ | refine o_notnb ?_ | refine o_lenL ?_ | refine o_lenT ?_ | refine o_lenS ?_ | refine o_lenX ?_ | refine o_abs ?_ | refine o_min ?_ | refine o_intb ?_ | refine o_listL ?_ | refine o_listT ?_ | refine o_tupL ?_ | refine o_tupT ?_ | refine ⟨Nat.le_of_ble_eq_true rfl, ?_⟩ | refine knT ?_ | refine knF ?_ | refine knTT ?_ | refine knFF ?_ | refine knTF ?_ | refine knFT ?_ | refine o_ty rfl ?_ | (refine o_bind rfl ?_; simp only [List.set_cons_zero, List.set_cons_succ]) | refine o_cutL ?_ | refine o_cutT ?_ | refine o_optX rfl ?_ | refine o_items rfl ?_ | (refine o_setPar rfl ?_; simp only [List.set_cons_zero, List.set_cons_succ]) | refine o_rev ?_ | refine o_revT ?_ | refine o_neg ?_ | refine o_negB ?_ | refine o_addB ?_ | refine o_subB ?_ | refine ⟨Or.inl rfl, ?_⟩ | refine ⟨Or.inr rfl, ?_⟩ | refine o_over rfl ?_ | refine o_alloc rfl ?_ | refine o_modL rfl ?_ | refine o_fdivL rfl ?_ | refine ⟨_, rfl, ?_⟩)
open PySem L2
def isBelow (d : D) (m : Int) : Bool := match d with
  | .int i => decide (0 ≤ i) && decide (i < m)
  | _ => false
def areG (d : D) : Bool := match d with
  | .tup xs => xs.all fun x => isBelow x 8
  | _ => false
/-- numbers that rise -/
def risI : List Int → Bool
  | x :: y :: r => decide (x < y) && risI (y :: r)
  | _ => true
def intsOf (xs : List D) : List Int := xs.filterMap asInt
def costOk (d : D) : Bool := match d with
  | .int i => decide (1 ≤ i)
  | _ => false
def gsOk (d : D) : Bool := match d with
  | .tup xs => areG (.tup xs) && !xs.isEmpty && risI (intsOf xs)
  | _ => false
def isLn (d : D) (m : Int) : Bool := match d with
  | .tup [one, .int other, cost, gs, st] => isBelow (.int other) m && isBelow one other && costOk cost && gsOk gs && isBelow st 5 && costOk st
  | _ => false
def isW (d : D) : Bool := match d with
  | .tup [.tup hs, .tup ls] => !hs.isEmpty && hs.all areG && ls.all fun l => isLn l hs.length
  | _ => false
def isBelowFn : Fn := ⟨2, 2, [.ret (.both true [(.isin (.var 0) [.int]), (.not (.isin (.var 0) [.bool])), (.cmp2 .le .lt (.int 0) (.var 0) (.var 1))])], false⟩
def areGFn : Fn := ⟨1, 2, [.ret (.both true [(.isin (.var 0) [.tuple]), (.bi .all [(.comp [1] (.nm 1) (.over (.var 0)) (.bl true) (.call "is_below" [(.var 1), (.glob "GROUPS" (.int 8))]))])])], false⟩
def isRisFn : Fn := ⟨1, 3, [.ret (.bi .all [(.comp [1, 2] (.tp [1, 2]) (.zip (.var 0) (.sl (.var 0) (.int 1) .non)) (.bl true) (.cmp .lt (.var 1) (.var 2)))])], false⟩
def isLineFn : Fn := ⟨2, 7, [.ife (.both false [(.not (.isin (.var 0) [.tuple])), (.cmp .ne (.bi .len [(.var 0)]) (.int 5))]) [.ret (.bl false)] [], .asg (.tp [2, 3, 4, 5, 6]) (.var 0), .ife (.both false [(.not (.call "is_below" [(.var 3), (.var 1)])), (.not (.call "is_below" [(.var 2), (.var 3)]))]) [.ret (.bl false)] [], .ife (.both false [(.not (.isin (.var 4) [.int])), (.isin (.var 4) [.bool]), (.cmp .lt (.var 4) (.int 1))]) [.ret (.bl false)] [], .ife (.both false [(.not (.call "are_groups" [(.var 5)])), (.cmp .eq (.bi .len [(.var 5)]) (.int 0)), (.not (.call "is_rising" [(.var 5)]))]) [.ret (.bl false)] [], .ret (.both true [(.call "is_below" [(.var 6), (.bin .add (.glob "MOST_STRANDS" (.int 4)) (.int 1))]), (.cmp .gt (.var 6) (.int 0))])], false⟩
def isWeavFn : Fn := ⟨1, 5, [.ife (.both false [(.not (.isin (.var 0) [.tuple])), (.cmp .ne (.bi .len [(.var 0)]) (.int 2))]) [.ret (.bl false)] [], .asg (.tp [1, 2]) (.var 0), .ife (.both false [(.not (.isin (.var 1) [.tuple])), (.cmp .eq (.bi .len [(.var 1)]) (.int 0)), (.not (.bi .all [(.comp [3] (.nm 3) (.over (.var 1)) (.bl true) (.call "are_groups" [(.var 3)]))]))]) [.ret (.bl false)] [], .ret (.both true [(.isin (.var 2) [.tuple]), (.bi .all [(.comp [4] (.nm 4) (.over (.var 2)) (.bl true) (.call "is_line" [(.var 4), (.bi .len [(.var 1)])]))])])], false⟩
structure IsWFns (fns : List (String × Fn)) : Prop where
  below : fns.lookup "is_below" = some isBelowFn
  are : fns.lookup "are_groups" = some areGFn
  ris : fns.lookup "is_rising" = some isRisFn
  line : fns.lookup "is_line" = some isLineFn
  weav : fns.lookup "is_weaving" = some isWeavFn
/-- a truth by what it depends on -/
theorem dec2b {b : Bool} {A B : Prop} (a : b = true → A) (c : b = false → B) : (b = true → A) ∧ (b = false → B) := ⟨a, c⟩
theorem all_mem {xs : List D} {f : D → Bool} (h : xs.all f = true) : ∀ x ∈ xs, f x = true := fun x m => (List.all_eq_true.mp h) x m
theorem below_int {d : D} {m : Int} (h : isBelow d m = true) : ∃ n : Nat, d = nD n ∧ (n : Int) < m := by
  unfold isBelow at h
  split at h
  · rename_i i
    rw [Bool.and_eq_true] at h
    have h1 := of_decide_eq_true h.1
    have h2 := of_decide_eq_true h.2
    exact ⟨i.toNat, by rw [nD, Int.toNat_of_nonneg h1], by omega⟩
  · cases h
theorem areG_nats {xs : List D} (h : areG (.tup xs) = true) : ∃ gs : List Nat, xs = gs.map nD ∧ ∀ g ∈ gs, g < 8 := by
  refine lift_map fun y m => ?_
  obtain ⟨n, e, l⟩ := below_int (all_mem h y m)
  exact ⟨n, e, by omega⟩
theorem intsOf_nats (gs : List Nat) : intsOf (gs.map nD) = gs.map fun n : Nat => (n : Int) := by
  induction gs with
  | nil => rfl
  | cons g r ih => simp only [intsOf, List.map_cons, List.filterMap_cons, asInt] at ih ⊢; rw [ih]
def risN : List Nat → Bool
  | x :: y :: r => decide (x < y) && risN (y :: r)
  | _ => true
theorem risI_nats : ∀ gs : List Nat, risI (gs.map fun n : Nat => (n : Int)) = risN gs
  | [] => rfl
  | [x] => rfl
  | x :: y :: r => by
    have := risI_nats (y :: r)
    simp only [List.map_cons] at this ⊢
    simp only [risI, risN, this]
    congr 1
    by_cases h : x < y
    · rw [decide_eq_true h, decide_eq_true (by omega)]
    · rw [decide_eq_false h, decide_eq_false (by omega)]
theorem risN_up : ∀ {gs : List Nat}, risN gs = true ↔ Up gs
  | [] => by simp [risN, Up]
  | [x] => by simp [risN, Up]
  | x :: y :: r => by
    have ih := risN_up (gs := y :: r)
    simp only [risN, Bool.and_eq_true, decide_eq_true_eq, ih]
    constructor
    · rintro ⟨a, b⟩
      refine List.pairwise_cons.mpr ⟨fun z m => ?_, b⟩
      rcases List.mem_cons.mp m with e | m
      · rw [e]; exact a
      · exact Nat.lt_trans a ((List.pairwise_cons.mp b).1 z m)
    · intro h
      have h' := List.pairwise_cons.mp h
      exact ⟨h'.1 y List.mem_cons_self, h'.2⟩
def ltT (d : D) : Bool := match d with
  | .tup [.int i, .int j] => decide (i < j)
  | _ => false
theorem ris_pairs : ∀ gs : List Nat, (pairs (gs.map nD) ((gs.map nD).drop 1)).all ltT = risN gs
  | [] => rfl
  | [x] => rfl
  | x :: y :: r => by
    have ih := ris_pairs (y :: r)
    simp only [List.map_cons, List.drop_succ_cons, List.drop_zero, pairs] at ih ⊢
    simp only [List.zipWith_cons_cons, List.all_cons, risN, ih]
    congr 1
    simp only [ltT]
    by_cases h : x < y
    · rw [decide_eq_true h, decide_eq_true (by omega)]
    · rw [decide_eq_false h, decide_eq_false (by omega)]
theorem mem_pairs2 : ∀ {xs ys : List D} {p : D}, p ∈ pairs xs ys → ∃ a ∈ xs, ∃ b ∈ ys, p = .tup [a, b]
  | [], _, _, m => by simp [pairs] at m
  | _ :: _, [], _, m => by simp [pairs] at m
  | x :: xs, y :: ys, p, m => by
    rcases List.mem_cons.mp (show p ∈ .tup [x, y] :: pairs xs ys from m) with e | m
    · exact ⟨x, List.mem_cons_self, y, List.mem_cons_self, e⟩
    · obtain ⟨a, am, b, bm, e⟩ := mem_pairs2 m
      exact ⟨a, List.mem_cons_of_mem _ am, b, List.mem_cons_of_mem _ bm, e⟩
theorem natsD_len (gs : List Nat) : (gs.map nD).length = gs.length := List.length_map _
section
variable {fns : List (String × Fn)} {k : Nat} {h : Hs}
theorem below_e (F : IsWFns fns) {d : D} (m : Int) (ok : okD d = true) : callF fns (k + 1) "is_below" [d, .int m] h = some (.bl (isBelow d m), h) := by
  refine WC.eq (c_def F.below rfl ?_)
  show WS _ isBelowFn.body [_, _] _ _
  unfold isBelowFn
  cases d <;> (try (simp [okD] at ok; done)) <;> repeat kct_strs <;> try (exact ⟨rfl, rfl⟩)
  rename_i i
  refine ⟨fun c => ?_, fun c => ?_⟩
  · repeat kct_strs
    exact ⟨by simp only [isBelow, c, Bool.false_and], rfl⟩
  · repeat kct_strs
    exact ⟨by simp only [isBelow, c, Bool.true_and], rfl⟩
theorem areG_e (F : IsWFns fns) {d : D} (ok : okD d = true) : callF fns (k + 2) "are_groups" [d] h = some (.bl (areG d), h) := by
  refine WC.eq (c_def F.are rfl ?_)
  show WS _ areGFn.body [_, _] _ _
  unfold areGFn
  cases d <;> (try (simp [okD] at ok; done)) <;> repeat kct_strs <;> try (exact ⟨rfl, rfl⟩)
  rename_i xs
  simp only [okD] at ok
  refine w_compm ?_
  repeat kct_strs
  refine ⟨fun x => .bl (isBelow x 8), fun x m => ?_, ?_⟩
  · simp only [wipeR, List.set_cons_zero, List.set_cons_succ]
    repeat kct_strs
    exact .mk (below_e F 8 (okL_mem ok x m)) ⟨rfl, rfl⟩
  · repeat kct_strs
    refine o_all ?_
    repeat kct_strs
    exact ⟨rfl, rfl⟩
theorem ris_e (F : IsWFns fns) (gs : List Nat) : callF fns (k + 1) "is_rising" [.tup (gs.map nD)] h = some (.bl (risN gs), h) := by
  refine WC.eq (c_def F.ris rfl ?_)
  show WS _ isRisFn.body [_, _, _] _ _
  unfold isRisFn
  repeat kct_strs
  refine w_compm ?_
  repeat kct_strs
  rw [show (1 : Int) = ((1 : Nat) : Int) from rfl, cut_from]
  refine ⟨fun p => .bl (ltT p), fun x m => ?_, ?_⟩
  · obtain ⟨a, am, b, bm, rfl⟩ := mem_pairs2 m
    obtain ⟨i, _, rfl⟩ := List.mem_map.mp am
    obtain ⟨j, _, rfl⟩ := List.mem_map.mp (List.mem_of_mem_drop bm)
    repeat kct_strs
    exact ⟨rfl, rfl⟩
  · repeat kct_strs
    refine o_all ?_
    rw [ris_pairs]
    exact ⟨rfl, rfl⟩
/-- a tuple of five -/
theorem tup5 {xs : List D} (h : xs.length = 5) : ∃ a b c d e, xs = [a, b, c, d, e] := by
  match xs, h with
  | [a, b, c, d, e], _ => exact ⟨a, b, c, d, e, rfl⟩
theorem tup2 {xs : List D} (h : xs.length = 2) : ∃ a b, xs = [a, b] := by
  match xs, h with
  | [a, b], _ => exact ⟨a, b, rfl⟩
theorem isLn_ne {xs : List D} {m : Int} (h : xs.length ≠ 5) : isLn (.tup xs) m = false := by
  unfold isLn
  split
  · rename_i e
    cases e
    simp at h
  · rfl
theorem line_e (F : IsWFns fns) {d : D} (m : Int) (ok : okD d = true) : callF fns (k + 3) "is_line" [d, .int m] h = some (.bl (isLn d m), h) := by
  refine WC.eq (c_def F.line rfl ?_)
  show WS _ isLineFn.body [_, _, _, _, _, _, _] _ _
  unfold isLineFn
  cases d <;> (try (simp [okD] at ok; done)) <;> repeat kct_strs <;> try (exact ⟨rfl, rfl⟩)
  rename_i xs
  simp only [okD] at ok
  refine dec2n (fun hc => ?_) fun hc => ?_
  · repeat kct_strs
    exact ⟨by rw [isLn_ne (by omega)], rfl⟩
  obtain ⟨a, b, c, d, e, rfl⟩ := tup5 (xs := xs) (by omega)
  simp only [okL, Bool.and_eq_true] at ok
  obtain ⟨oa, ob, oc, od, oe, _⟩ := ok
  repeat kct_strs
  refine .mk (below_e F m ob) ?_
  repeat kct_strs
  cases hb : isBelow b m with
  | false =>
    repeat kct_strs
    refine ⟨?_, rfl⟩
    cases b <;> first | rfl | simp only [isLn, hb, Bool.false_and]
  | true =>
    obtain ⟨n, rfl, _⟩ := below_int hb
    repeat kct_strs
    refine .mk (below_e F n oa) ?_
    repeat kct_strs
    cases ha : isBelow a n with
    | false =>
      repeat kct_strs
      exact ⟨by simp only [isLn, hb, ha, Bool.true_and, Bool.false_and], rfl⟩
    | true =>
      repeat kct_strs
      have ha2 : isBelow a (n : Int) = true := ha
      have fl : ∀ {X Y : Bool}, costOk c = false → (isLn (.tup [a, nD n, c, d, e]) m) = false := fun {X Y} q => by simp only [isLn, q, Bool.and_false, Bool.false_and]
      cases c <;> (try (simp [okD] at oc; done)) <;> repeat kct_strs <;> try (exact ⟨by rw [fl (X := true) (Y := true) rfl], rfl⟩)
      rename_i ci
      refine dec2 (fun hci => ?_) fun hci => ?_
      · repeat kct_strs
        exact ⟨by rw [fl (X := true) (Y := true) (by simp only [costOk]; exact decide_eq_false (by omega))], rfl⟩
      have hcost : costOk (.int ci) = true := decide_eq_true (by omega)
      repeat kct_strs
      refine .mk (areG_e F od) ?_
      repeat kct_strs
      have fg : gsOk d = false → (isLn (.tup [a, nD n, .int ci, d, e]) m) = false := fun q => by simp only [isLn, q, Bool.and_false, Bool.false_and]
      cases hd : areG d with
      | false =>
        repeat kct_strs
        refine ⟨?_, rfl⟩
        rw [fg]
        cases d <;> first | rfl | simp only [gsOk, hd, Bool.false_and]
      | true =>
        repeat kct_strs
        cases d with
        | tup gsd =>
          obtain ⟨gs, rfl, g8⟩ := areG_nats hd
          repeat kct_strs
          rw [natsD_len]
          refine dec2o (fun hl => ?_) fun hl => ?_
          · repeat kct_strs
            refine .mk (ris_e F gs) ?_
            repeat kct_strs
            have hne : (gs.map nD).isEmpty = false := by
              cases gs with
              | nil => exact absurd rfl hl
              | cons g r => rfl
            cases hr : risN gs with
            | false =>
              repeat kct_strs
              exact ⟨by rw [fg (by simp only [gsOk, intsOf_nats, risI_nats, hr, Bool.and_false])], rfl⟩
            | true =>
              have hg : gsOk (.tup (gs.map nD)) = true := by simp only [gsOk, hd, hne, intsOf_nats, risI_nats, hr, Bool.not_false, Bool.and_self]
              repeat kct_strs
              refine .mk (below_e F _ oe) ?_
              repeat kct_strs
              have key : isLn (.tup [a, nD n, .int ci, .tup (gs.map nD), e]) m = (isBelow e 5 && costOk e) := by
                simp only [isLn, hb, ha2, hcost, hg, Bool.true_and]
              rw [key]
              cases he : isBelow e 5 with
              | false =>
                rw [show ((4 : Int) + 1) = 5 from rfl, he]
                repeat kct_strs
                exact ⟨by rw [Bool.false_and], rfl⟩
              | true =>
                rw [show ((4 : Int) + 1) = 5 from rfl, he]
                repeat kct_strs
                obtain ⟨ne, rfl, _⟩ := below_int he
                repeat kct_strs
                refine ⟨?_, rfl⟩
                rw [Bool.true_and]
                simp only [costOk]
                congr 1
          · repeat kct_strs
            refine dec2 (fun _ => ?_) fun q => absurd hl q
            repeat kct_strs
            have : gs = [] := by
              cases gs with
              | nil => rfl
              | cons g r => simp at hl; omega
            subst this
            exact ⟨by rw [fg rfl], rfl⟩
        | _ => simp [areG] at hd
theorem isW_ne {xs : List D} (h : xs.length ≠ 2) : isW (.tup xs) = false := by
  unfold isW
  split
  · rename_i e
    cases e
    simp at h
  · rfl
theorem weav_e (F : IsWFns fns) {d : D} (ok : okD d = true) : callF fns (k + 4) "is_weaving" [d] h = some (.bl (isW d), h) := by
  refine WC.eq (c_def F.weav rfl ?_)
  show WS _ isWeavFn.body [_, _, _, _, _] _ _
  unfold isWeavFn
  cases d <;> (try (simp [okD] at ok; done)) <;> repeat kct_strs <;> try (exact ⟨rfl, rfl⟩)
  rename_i xs
  simp only [okD] at ok
  refine dec2n (fun hc => ?_) fun hc => ?_
  · repeat kct_strs
    exact ⟨by rw [isW_ne (by omega)], rfl⟩
  obtain ⟨a, b, rfl⟩ := tup2 (xs := xs) (by omega)
  simp only [okL, Bool.and_eq_true] at ok
  obtain ⟨oa, ob, _⟩ := ok
  repeat kct_strs
  cases a with
  | tup hs =>
    simp only [okD] at oa
    repeat kct_strs
    refine dec2o (fun hl => ?_) fun hl => ?_
    · have hne : hs.isEmpty = false := by
        cases hs with
        | nil => exact absurd rfl hl
        | cons g r => rfl
      repeat kct_strs
      refine w_compm ?_
      repeat kct_strs
      refine ⟨fun x => .bl (areG x), fun x m => ?_, ?_⟩
      · simp only [wipeR, List.set_cons_zero, List.set_cons_succ]
        repeat kct_strs
        exact .mk (areG_e F (okL_mem oa x m)) ⟨rfl, rfl⟩
      repeat kct_strs
      refine o_all ?_
      repeat kct_strs
      cases hh : hs.all areG with
      | false =>
        repeat kct_strs
        refine ⟨?_, rfl⟩
        cases b <;> first | rfl | simp only [isW, hh, hne, Bool.and_false, Bool.false_and]
      | true =>
        repeat kct_strs
        cases b <;> (try (simp [okD] at ob; done)) <;> repeat kct_strs <;> try (exact ⟨rfl, rfl⟩)
        rename_i ls
        simp only [okD] at ob
        refine w_compm ?_
        repeat kct_strs
        refine ⟨fun x => .bl (isLn x hs.length), fun x m => ?_, ?_⟩
        · simp only [wipeR, List.set_cons_zero, List.set_cons_succ]
          repeat kct_strs
          exact .mk (line_e F _ (okL_mem ob x m)) ⟨rfl, rfl⟩
        repeat kct_strs
        refine o_all ?_
        repeat kct_strs
        exact ⟨by simp only [isW, hh, hne, Bool.not_false, Bool.true_and], rfl⟩
    · repeat kct_strs
      refine dec2 (fun _ => ?_) fun q => absurd hl q
      repeat kct_strs
      have : hs = [] := by
        cases hs with
        | nil => rfl
        | cons g r => simp at hl; omega
      subst this
      refine ⟨?_, rfl⟩
      cases b <;> rfl
  | dct _ _ _ => simp [okD] at oa
  | ref _ => simp [okD] at oa
  | scr _ => simp [okD] at oa
  | _ =>
    repeat kct_strs
    exact ⟨rfl, rfl⟩
end
end Ev

namespace Ev
local macro_rules | `(tactic| kct_strs) => `(tactic| first | refine w_var rfl ?_ | refine w_int ?_ | refine w_bl ?_ | refine w_str ?_ | refine w_non ?_ | refine w_bor rfl ?_ | refine w_glob ?_ | refine w_bin ?_ | refine w_cmp ?_ | refine w_call ?_ | refine w_pcall ?_ | refine w_dnew ?_ | refine w_dnew1 ?_ | refine w_dget ?_ | refine w_din ?_ | refine w_dget2 ?_ | refine s_dput ?_ | refine w_rev ?_ | refine w_trng ?_ | refine w_lrng ?_ | refine w_cons ?_ | refine w_nil ?_ | refine w_bi ?_ | refine w_idx ?_ | refine w_tup ?_ | refine w_lst ?_ | refine w_isin ?_ | refine w_both ?_ | refine w_and ?_ | refine w_and1 ?_ | refine w_not ?_ | refine w_ife ?_ | refine w_sl ?_ | refine w_sset ?_ | refine w_sm ?_ | refine w_cmp2 ?_ | refine w_neg ?_ | refine w_alloc ?_ | refine w_over ?_ | refine w_rng ?_ | refine w_rng2 ?_ | refine w_enum ?_ | refine w_zip ?_ | refine s_nil ?_ | refine s_ret ?_ | refine s_expr ?_ | refine s_reto rfl ?_ | (refine s_retf ?_) | refine s_par ?_ | (refine s_asg ?_; simp only [List.set_cons_zero, List.set_cons_succ]) | refine s_asgT ?_ | refine s_ife ?_ | refine s_cset ?_ | (refine s_own rfl ?_; simp only [List.set_cons_zero, List.set_cons_succ]) | (refine s_mut rfl ?_; simp only [List.set_cons_zero, List.set_cons_succ]) | (refine s_frz rfl ?_; simp only [List.set_cons_zero, List.set_cons_succ]) | refine s_brk ?_ | refine s_cnt ?_ | refine s_pas ?_ | refine WB.mk ?_ | refine o_add ?_ | refine o_sub ?_ | refine o_lt ?_ | refine o_gt ?_ | refine o_le ?_ | refine o_ge ?_ | refine o_eq ?_ | refine o_ne ?_ | refine o_eqb ?_ | refine o_neb ?_ | refine o_isn ?_ | refine o_notn ?_ | refine o_isnb ?_ | refine o_notnb ?_ | refine o_lenL ?_ | refine o_lenT ?_ | refine o_lenS ?_ | refine o_lenX ?_ | refine o_abs ?_ | refine o_min ?_ | refine o_intb ?_ | refine o_listL ?_ | refine o_listT ?_ | refine o_tupL ?_ | refine o_tupT ?_ | refine ⟨Nat.le_of_ble_eq_true rfl, ?_⟩ | refine knT ?_ | refine knF ?_ | refine knTT ?_ | refine knFF ?_ | refine knTF ?_ | refine knFT ?_ | refine o_ty rfl ?_ | (refine o_bind rfl ?_; simp only [List.set_cons_zero, List.set_cons_succ]) | refine o_cutL ?_ | refine o_cutT ?_ | refine o_optX rfl ?_ | refine o_items rfl ?_ | (refine o_setPar rfl ?_; simp only [List.set_cons_zero, List.set_cons_succ]) | refine o_rev ?_ | refine o_revT ?_ | refine o_neg ?_ | refine o_negB ?_ | refine o_addB ?_ | refine o_subB ?_ | refine ⟨Or.inl rfl, ?_⟩ | refine ⟨Or.inr rfl, ?_⟩ | refine o_over rfl ?_ | refine o_alloc rfl ?_ | refine o_modL rfl ?_ | refine o_fdivL rfl ?_ | refine ⟨_, rfl, ?_⟩)
open PySem L2
mutual
/-- numbers below 10 ^ 40, lists of sixty at most -/
def bnd : D → Bool
  | .int i => decide (i < 10 ^ 40)
  | .tup xs => decide (xs.length ≤ 60) && bndL xs
  | .lst xs => decide (xs.length ≤ 60) && bndL xs
  | _ => true
def bndL : List D → Bool
  | [] => true
  | x :: r => bnd x && bndL r
end
theorem bndL_mem : ∀ {xs : List D}, bndL xs = true → ∀ d ∈ xs, bnd d = true
  | x :: r, h, d, m => by
    simp only [bndL, Bool.and_eq_true] at h
    rcases List.mem_cons.mp m with e | m
    · rw [e]; exact h.1
    · exact bndL_mem h.2 d m
theorem bndL_of : ∀ {xs : List D}, (∀ d ∈ xs, bnd d = true) → bndL xs = true
  | [], _ => rfl
  | x :: r, h => by
    simp only [bndL, Bool.and_eq_true]
    exact ⟨h x List.mem_cons_self, bndL_of fun y m => h y (List.mem_cons_of_mem _ m)⟩
/-- small data -/
structure Sml (d : D) : Prop where
  ok : okD d = true
  dep : depD d ≤ 60
  bd : bnd d = true
theorem Sml.dt {d : D} (h : Sml d) : Dt d := ⟨h.ok, h.dep⟩
theorem Sml.mem {xs : List D} (h : Sml (.tup xs)) : ∀ x ∈ xs, Sml x := fun x m => by
  have ok := h.ok
  have dep := h.dep
  have bd := h.bd
  simp only [okD] at ok
  simp only [depD] at dep
  simp only [bnd, Bool.and_eq_true] at bd
  exact ⟨okL_mem ok x m, by have := depL_mem m; omega, bndL_mem bd.2 x m⟩
theorem Sml.memL {xs : List D} (h : Sml (.lst xs)) : ∀ x ∈ xs, Sml x := fun x m => by
  have ok := h.ok
  have dep := h.dep
  have bd := h.bd
  simp only [okD] at ok
  simp only [depD] at dep
  simp only [bnd, Bool.and_eq_true] at bd
  exact ⟨okL_mem ok x m, by have := depL_mem m; omega, bndL_mem bd.2 x m⟩
theorem Sml.len {xs : List D} (h : Sml (.tup xs)) : xs.length ≤ 60 := by
  have bd := h.bd
  simp only [bnd, Bool.and_eq_true, decide_eq_true_eq] at bd
  exact bd.1
def wholeN (d : D) (a b : Int) : Bool := match d with
  | .int i => decide (a ≤ i) && decide (i < b)
  | _ => false
theorem wholeN_below (d : D) (m : Int) : wholeN d 0 m = isBelow d m := by
  cases d <;> rfl
def lwhFn : Fn := ⟨3, 3, [.ret (.both true [(.isin (.var 0) [.int]), (.not (.isin (.var 0) [.bool])), (.cmp2 .le .lt (.var 1) (.var 0) (.var 2))])], false⟩
def lareFn : Fn := ⟨1, 2, [.ret (.both true [(.isin (.var 0) [.tuple]), (.cmp .eq (.comp [1] (.nm 1) (.over (.var 0)) (.not (.call "_law_whole_number" [(.var 1), (.int 0), (.int 8)])) (.var 1)) (.lst []))])], false⟩
def llineFn : Fn := ⟨2, 2, [.ife (.both false [(.not (.isin (.var 0) [.tuple])), (.cmp .ne (.bi .len [(.var 0)]) (.int 5)), (.not (.call "_law_are_groups" [(.idx (.var 0) (.int 3))])), (.cmp .eq (.idx (.var 0) (.int 3)) (.tup []))]) [.ret (.bl false)] [], .ife (.both false [(.cmp .ne (.bi .list [(.idx (.var 0) (.int 3))]) (.sset (.idx (.var 0) (.int 3)))), (.not (.call "_law_whole_number" [(.idx (.var 0) (.int 0)), (.int 0), (.var 1)]))]) [.ret (.bl false)] [], .ife (.both false [(.not (.call "_law_whole_number" [(.idx (.var 0) (.int 1)), (.bin .add (.idx (.var 0) (.int 0)) (.int 1)), (.var 1)])), (.not (.call "_law_whole_number" [(.idx (.var 0) (.int 4)), (.int 1), (.int 5)]))]) [.ret (.bl false)] [], .ret (.call "_law_whole_number" [(.idx (.var 0) (.int 2)), (.int 1), (.bin .pow (.int 10) (.int 40))])], false⟩
def lweavFn : Fn := ⟨1, 3, [.ife (.both false [(.not (.isin (.var 0) [.tuple])), (.cmp .ne (.bi .len [(.var 0)]) (.int 2)), (.not (.isin (.idx (.var 0) (.int 0)) [.tuple])), (.cmp .eq (.idx (.var 0) (.int 0)) (.tup []))]) [.ret (.bl false)] [], .ife (.both false [(.not (.isin (.idx (.var 0) (.int 1)) [.tuple])), (.not (.bi .all [(.comp [1] (.nm 1) (.over (.idx (.var 0) (.int 0))) (.bl true) (.call "_law_are_groups" [(.var 1)]))]))]) [.ret (.bl false)] [], .ret (.bi .all [(.comp [2] (.nm 2) (.over (.idx (.var 0) (.int 1))) (.bl true) (.call "_law_is_line" [(.var 2), (.bi .len [(.idx (.var 0) (.int 0))])]))])], false⟩
structure LawWFns (fns : List (String × Fn)) : Prop where
  whole : fns.lookup "_law_whole_number" = some lwhFn
  are : fns.lookup "_law_are_groups" = some lareFn
  line : fns.lookup "_law_is_line" = some llineFn
  weav : fns.lookup "_law_is_weaving" = some lweavFn
theorem filter_empty {xs : List D} {f : D → Bool} : (xs.filter fun x => !f x).isEmpty = xs.all f := by
  induction xs with
  | nil => rfl
  | cons x r ih =>
    rw [List.filter_cons, List.all_cons]
    cases h : f x with
    | false => simp
    | true => simpa using ih
theorem Dt.nil : Dt (.lst []) := ⟨rfl, by simp [depD, depL]⟩
theorem Dt.nilT : Dt (.tup []) := ⟨rfl, by simp [depD, depL]⟩
theorem Dt.sub {xs ys : List D} (h : Dt (.tup xs)) (s : ∀ y ∈ ys, y ∈ xs) : Dt (.lst ys) := by
  have ok := h.ok
  have dep := h.dep
  simp only [okD] at ok
  simp only [depD] at dep
  exact ⟨by simp only [okD]; exact okL_of fun y m => okL_mem ok y (s y m), by simp only [depD]; have := depL_of (n := 59) (xs := ys) fun y m => (by have := depL_mem (s y m); omega); omega⟩
section
variable {fns : List (String × Fn)} {k : Nat} {h : Hs}
theorem lwh_e (F : LawWFns fns) {d : D} (a b : Int) (ok : okD d = true) : callF fns (k + 1) "_law_whole_number" [d, .int a, .int b] h = some (.bl (wholeN d a b), h) := by
  refine WC.eq (c_def F.whole rfl ?_)
  show WS _ lwhFn.body [_, _, _] _ _
  unfold lwhFn
  cases d <;> (try (simp [okD] at ok; done)) <;> repeat kct_strs <;> try (exact ⟨rfl, rfl⟩)
  rename_i i
  refine ⟨fun c => ?_, fun c => ?_⟩
  · repeat kct_strs
    exact ⟨by simp only [wholeN, c, Bool.false_and], rfl⟩
  · repeat kct_strs
    exact ⟨by simp only [wholeN, c, Bool.true_and], rfl⟩
theorem lare_e (F : LawWFns fns) {d : D} (s : Dt d) : callF fns (k + 2) "_law_are_groups" [d] h = some (.bl (areG d), h) := by
  refine WC.eq (c_def F.are rfl ?_)
  show WS _ lareFn.body [_, _] _ _
  unfold lareFn
  have ok := s.ok
  cases d <;> (try (simp [okD] at ok; done)) <;> repeat kct_strs <;> try (exact ⟨rfl, rfl⟩)
  rename_i xs
  simp only [okD] at ok
  refine w_comp0 ?_
  repeat kct_strs
  refine ⟨fun x => !isBelow x 8, id, fun x m => ?_, ?_⟩
  · refine .mk rfl ?_
    simp only [wipeR, List.set_cons_zero, List.set_cons_succ]
    repeat kct_strs
    refine .mk (lwh_e F 0 8 (okL_mem ok x m)) ?_
    repeat kct_strs
    rw [wholeN_below]
    refine ⟨fun q => ?_, fun q => ⟨rfl, by simp [q]⟩⟩
    repeat kct_strs
    exact ⟨rfl, by simp [q]⟩
  · repeat kct_strs
    rw [List.map_id]
    refine o_eqD (s.sub fun y m => (List.mem_filter.mp m).1) Dt.nil ?_
    rw [eqB_lst, eqL_nil, filter_empty]
    repeat kct_strs
    exact ⟨rfl, rfl⟩
theorem srt_eq {gs : List Nat} : decide (gs = srtN gs) = risN gs := by
  by_cases h : Up gs
  · rw [srtN_up h, decide_eq_true rfl, risN_up.mpr h]
  · rw [decide_eq_false (fun e => h (by rw [e]; exact up_srtN))]
    cases q : risN gs with
    | false => rfl
    | true => exact absurd (risN_up.mp q) h
theorem eqL_nats (a b : List Nat) : eqL (a.map nD) (b.map nD) = decide (a = b) := eqL_map eqB_nat a b
theorem lline_e (F : LawWFns fns) {d : D} (m : Int) (s : Sml d) : callF fns (k + 3) "_law_is_line" [d, .int m] h = some (.bl (isLn d m), h) := by
  refine WC.eq (c_def F.line rfl ?_)
  show WS _ llineFn.body [_, _] _ _
  unfold llineFn
  have ok := s.ok
  cases d <;> (try (simp [okD] at ok; done)) <;> repeat kct_strs <;> try (exact ⟨rfl, rfl⟩)
  rename_i xs
  refine dec2on (fun hc => ?_) fun hc => ?_
  rotate_left
  · repeat kct_strs
    refine dec2n (fun _ => ?_) fun q => absurd q hc
    repeat kct_strs
    exact ⟨by rw [isLn_ne (by omega)], rfl⟩
  obtain ⟨a, b, c, d, e, rfl⟩ := tup5 (xs := xs) (by omega)
  have sa := s.mem a (by simp)
  have sb := s.mem b (by simp)
  have sc := s.mem c (by simp)
  have sd := s.mem d (by simp)
  have se := s.mem e (by simp)
  repeat kct_strs
  refine x_tup rfl ?_
  repeat kct_strs
  refine .mk (lare_e F sd.dt) ?_
  repeat kct_strs
  have fg : gsOk d = false → (isLn (.tup [a, b, c, d, e]) m) = false := fun q => by
    cases b <;> simp only [isLn, q, Bool.and_false, Bool.false_and]
  cases hd : areG d with
  | false =>
    repeat kct_strs
    refine ⟨?_, rfl⟩
    rw [fg]
    cases d <;> first | rfl | simp only [gsOk, hd, Bool.false_and]
  | true =>
    cases d with
    | tup gsd =>
      obtain ⟨gs, rfl, g8⟩ := areG_nats hd
      have gl := sd.len
      rw [natsD_len] at gl
      repeat kct_strs
      refine x_tup rfl ?_
      repeat kct_strs
      refine o_eqD sd.dt Dt.nilT ?_
      rw [eqB_tup, eqL_nil]
      repeat kct_strs
      cases hne : (gs.map nD).isEmpty with
      | true =>
        repeat kct_strs
        exact ⟨by rw [fg (by simp only [gsOk, hne, Bool.not_true, Bool.and_false, Bool.false_and])], rfl⟩
      | false =>
        repeat kct_strs
        refine x_tup rfl ?_
        repeat kct_strs
        refine x_tup rfl ?_
        repeat kct_strs
        refine .mk (sset_natT (by omega)) ?_
        refine o_neD (dt_natsL _ |>.dt (by decide)) (dt_natsL _ |>.dt (by decide)) ?_
        rw [eqB_lst, eqL_nats, srt_eq]
        have hg0 : gsOk (.tup (gs.map nD)) = risN gs := by simp only [gsOk, hd, hne, intsOf_nats, risI_nats, Bool.not_false, Bool.true_and]
        cases hr : risN gs with
        | false =>
          repeat kct_strs
          exact ⟨by rw [fg (by rw [hg0, hr])], rfl⟩
        | true =>
          rw [hr] at hg0
          repeat kct_strs
          refine x_tup rfl ?_
          repeat kct_strs
          refine .mk (lwh_e F 0 m sa.ok) ?_
          repeat kct_strs
          rw [wholeN_below]
          cases ha : isBelow a m with
          | false =>
            repeat kct_strs
            refine ⟨?_, rfl⟩
            cases b with
            | int o =>
              simp only [isLn]
              cases h1 : isBelow (.int o) m with
              | false => simp only [Bool.false_and]
              | true =>
                cases h2 : isBelow a o with
                | false => simp only [Bool.false_and, Bool.and_false]
                | true =>
                  obtain ⟨na, rfl, l1⟩ := below_int h2
                  obtain ⟨no, e, l2⟩ := below_int h1
                  cases e
                  have : isBelow (nD na) m = true := by
                    show (decide (0 ≤ (na : Int)) && decide ((na : Int) < m)) = true
                    rw [decide_eq_true (by omega), decide_eq_true (by omega)]; rfl
                  rw [ha] at this; cases this
            | _ => rfl
          | true =>
            obtain ⟨na, rfl, la⟩ := below_int ha
            repeat kct_strs
            refine x_tup rfl ?_
            repeat kct_strs
            refine x_tup rfl ?_
            repeat kct_strs
            refine .mk (lwh_e F _ m sb.ok) ?_
            repeat kct_strs
            have hb : ∀ o : Int, b = .int o → wholeN b ((na : Int) + 1) m = (isBelow (.int o) m && isBelow (nD na) o) := by
              rintro o rfl
              simp only [wholeN, isBelow]
              by_cases q1 : (na : Int) + 1 ≤ o
              · rw [decide_eq_true q1, decide_eq_true (show (0 : Int) ≤ o by omega), decide_eq_true (show (0 : Int) ≤ (na : Int) by omega), decide_eq_true (show (na : Int) < o by omega)]
                simp
              · rw [decide_eq_false q1, decide_eq_false (show ¬(na : Int) < o by omega)]
                simp
            cases hw : wholeN b ((na : Int) + 1) m with
            | false =>
              repeat kct_strs
              refine ⟨?_, rfl⟩
              cases b with
              | int o =>
                rw [hb o rfl] at hw
                simp only [isLn, hw, Bool.false_and]
              | _ => rfl
            | true =>
              obtain ⟨o, rfl⟩ : ∃ o : Int, b = .int o := by
                cases b <;> first | exact ⟨_, rfl⟩ | (simp [wholeN] at hw; done)
              rw [hb o rfl] at hw
              repeat kct_strs
              refine x_tup rfl ?_
              repeat kct_strs
              refine .mk (lwh_e F 1 5 se.ok) ?_
              repeat kct_strs
              have he : wholeN e 1 5 = (isBelow e 5 && costOk e) := by
                cases e <;> first | rfl | skip
                rename_i i
                simp only [wholeN, isBelow, costOk]
                by_cases q1 : 1 ≤ i
                · rw [decide_eq_true q1, decide_eq_true (show (0 : Int) ≤ i by omega)]; simp
                · rw [decide_eq_false q1]; simp
              have key : isLn (.tup [nD na, .int o, c, .tup (gs.map nD), e]) m = (costOk c && (isBelow e 5 && costOk e)) := by
                simp only [isLn, hw, hg0, Bool.true_and, Bool.and_true, Bool.and_assoc]
              rw [he]
              cases hE : (isBelow e 5 && costOk e) with
              | false =>
                repeat kct_strs
                exact ⟨by rw [key, hE, Bool.and_false], rfl⟩
              | true =>
                repeat kct_strs
                refine x_tup rfl ?_
                repeat kct_strs
                refine .mk (b_pow (by rfl)) ?_
                repeat kct_strs
                refine .mk (lwh_e F _ _ sc.ok) ?_
                refine ⟨?_, rfl⟩
                rw [key, hE, Bool.and_true]
                have hcb := sc.bd
                cases c <;> first | rfl | skip
                simp only [bnd] at hcb
                simp only [wholeN, costOk]
                rw [show ((40 : Int).toNat) = 40 from rfl, hcb, Bool.and_true]
    | _ => simp [areG] at hd
theorem lweav_e (F : LawWFns fns) {d : D} (s : Sml d) : callF fns (k + 4) "_law_is_weaving" [d] h = some (.bl (isW d), h) := by
  refine WC.eq (c_def F.weav rfl ?_)
  show WS _ lweavFn.body [_, _, _] _ _
  unfold lweavFn
  have ok := s.ok
  cases d <;> (try (simp [okD] at ok; done)) <;> repeat kct_strs <;> try (exact ⟨rfl, rfl⟩)
  rename_i xs
  refine dec2on (fun hc => ?_) fun hc => ?_
  rotate_left
  · repeat kct_strs
    refine dec2n (fun _ => ?_) fun q => absurd q hc
    repeat kct_strs
    exact ⟨by rw [isW_ne (by omega)], rfl⟩
  obtain ⟨a, b, rfl⟩ := tup2 (xs := xs) (by omega)
  have sa := s.mem a (by simp)
  have sb := s.mem b (by simp)
  repeat kct_strs
  refine x_tup rfl ?_
  have oa := sa.ok
  have ob := sb.ok
  cases a <;> (try (simp [okD] at oa; done)) <;> repeat kct_strs <;> try (exact ⟨rfl, rfl⟩)
  rename_i hs
  refine x_tup rfl ?_
  repeat kct_strs
  refine o_eqD sa.dt Dt.nilT ?_
  rw [eqB_tup, eqL_nil]
  repeat kct_strs
  cases hne : hs.isEmpty with
  | true =>
    repeat kct_strs
    refine ⟨?_, rfl⟩
    cases b <;> first | rfl | simp only [isW, hne, Bool.not_true, Bool.false_and]
  | false =>
    repeat kct_strs
    refine x_tup rfl ?_
    cases b <;> (try (simp [okD] at ob; done)) <;> repeat kct_strs <;> try (exact ⟨rfl, rfl⟩)
    rename_i ls
    refine w_compm ?_
    repeat kct_strs
    refine x_tup rfl ?_
    repeat kct_strs
    refine ⟨fun x => .bl (areG x), fun x m => ?_, ?_⟩
    · simp only [wipeR, List.set_cons_zero, List.set_cons_succ]
      repeat kct_strs
      exact .mk (lare_e F (sa.mem x m).dt) ⟨rfl, rfl⟩
    repeat kct_strs
    refine o_all ?_
    repeat kct_strs
    cases hh : hs.all areG with
    | false =>
      repeat kct_strs
      exact ⟨by simp only [isW, hh, Bool.and_false, Bool.false_and], rfl⟩
    | true =>
      repeat kct_strs
      refine w_compm ?_
      repeat kct_strs
      refine x_tup rfl ?_
      repeat kct_strs
      refine ⟨fun x => .bl (isLn x hs.length), fun x m => ?_, ?_⟩
      · simp only [wipeR, List.set_cons_zero, List.set_cons_succ]
        repeat kct_strs
        refine x_tup rfl ?_
        repeat kct_strs
        exact .mk (lline_e F _ (sb.mem x m)) ⟨rfl, rfl⟩
      repeat kct_strs
      refine o_all ?_
      repeat kct_strs
      exact ⟨by simp only [isW, hh, hne, Bool.not_false, Bool.true_and], rfl⟩
end
end Ev

namespace Ev
local macro_rules | `(tactic| kct_strs) => `(tactic| first | refine w_var rfl ?_ | refine w_int ?_ | refine w_bl ?_ | refine w_str ?_ | refine w_non ?_ | refine w_bor rfl ?_ | refine w_glob ?_ | refine w_bin ?_ | refine w_cmp ?_ | refine w_call ?_ | refine w_pcall ?_ | refine w_dnew ?_ | refine w_dnew1 ?_ | refine w_dget ?_ | refine w_din ?_ | refine w_dget2 ?_ | refine s_dput ?_ | refine w_rev ?_ | refine w_trng ?_ | refine w_lrng ?_ | refine w_cons ?_ | refine w_nil ?_ | refine w_bi ?_ | refine w_idx ?_ | refine w_tup ?_ | refine w_lst ?_ | refine w_isin ?_ | refine w_both ?_ | refine w_and ?_ | refine w_and1 ?_ | refine w_not ?_ | refine w_ife ?_ | refine w_sl ?_ | refine w_sset ?_ | refine w_sm ?_ | refine w_cmp2 ?_ | refine w_neg ?_ | refine w_alloc ?_ | refine w_over ?_ | refine w_rng ?_ | refine w_rng2 ?_ | refine w_enum ?_ | refine w_zip ?_ | refine s_nil ?_ | refine s_ret ?_ | refine s_expr ?_ | refine s_reto rfl ?_ | (refine s_retf ?_) | refine s_par ?_ | (refine s_asg ?_; simp only [List.set_cons_zero, List.set_cons_succ]) | refine s_asgT ?_ | refine s_ife ?_ | refine s_cset ?_ | (refine s_own rfl ?_; simp only [List.set_cons_zero, List.set_cons_succ]) | (refine s_mut rfl ?_; simp only [List.set_cons_zero, List.set_cons_succ]) | (refine s_frz rfl ?_; simp only [List.set_cons_zero, List.set_cons_succ]) | refine s_brk ?_ | refine s_cnt ?_ | refine s_pas ?_ | refine WB.mk ?_ | refine o_add ?_ | refine o_sub ?_ | refine o_lt ?_ | refine o_gt ?_ | refine o_le ?_ | refine o_ge ?_ | refine o_eq ?_ | refine o_ne ?_ | refine o_eqb ?_ | refine o_neb ?_ | refine o_isn ?_ | refine o_notn ?_ | refine o_isnb ?_ | refine o_notnb ?_ | refine o_lenL ?_ | refine o_lenT ?_ | refine o_lenS ?_ | refine o_lenX ?_ | refine o_abs ?_ | refine o_min ?_ | refine o_intb ?_ | refine o_listL ?_ | refine o_listT ?_ | refine o_tupL ?_ | refine o_tupT ?_ | refine ⟨Nat.le_of_ble_eq_true rfl, ?_⟩ | refine knT ?_ | refine knF ?_ | refine knTT ?_ | refine knFF ?_ | refine knTF ?_ | refine knFT ?_ | refine o_ty rfl ?_ | (refine o_bind rfl ?_; simp only [List.set_cons_zero, List.set_cons_succ]) | refine o_cutL ?_ | refine o_cutT ?_ | refine o_optX rfl ?_ | refine o_items rfl ?_ | (refine o_setPar rfl ?_; simp only [List.set_cons_zero, List.set_cons_succ]) | refine o_rev ?_ | refine o_revT ?_ | refine o_neg ?_ | refine o_negB ?_ | refine o_addB ?_ | refine o_subB ?_ | refine ⟨Or.inl rfl, ?_⟩ | refine ⟨Or.inr rfl, ?_⟩ | refine o_over rfl ?_ | refine o_alloc rfl ?_ | refine o_modL rfl ?_ | refine o_fdivL rfl ?_ | refine ⟨_, rfl, ?_⟩)
open PySem L2
theorem box_w {fns : List (String × Fn)} {k : Nat} {h : Hs} {P : D → Hs → Prop} (hf : fns.lookup "_law_box" = some boxFn) (ns : List Int) {i : Int} (hi : 0 ≤ i)
    (q : ∀ h', h'.length = h.length + 1 → (∀ m, m < h.length → h'[m]? = h[m]?) → Bx h' h.length [] 0 h' → P (.ref h.length) h') : WC (callF fns (k + 1)) "_law_box" [.scr ns, .int i] h P := by
  obtain ⟨h', e, b, l, o⟩ := box_ok (k := k) hf ns hi h
  refine .mk e (q h' l o ⟨?_, rfl, fun _ _ => rfl⟩)
  obtain ⟨g, c, t, g0, t0, tT, e⟩ := b
  exact ⟨g, c, t, g0, t0, tT, e⟩
/-- the law's first loop: each number of the script, at most m, and one more -/
theorem o_turns {ns : List Int} {m : Int} {P : D → Prop} (m0 : 0 ≤ m) (m1 : m ≤ 100) (p : ∀ j : Int, 0 ≤ j → j ≤ m → P (.int j)) : OI .min2 [.int m, .int (ns.length : Int)] P := by
  refine o_min (p _ ?_ ?_) <;> split <;> omega
structure SmN (n : Nat) (d : D) : Prop where
  dt : DtN n d
  bd : bnd d = true
theorem SmN.sml {n : Nat} {d : D} (h : SmN n d) (hn : n ≤ 60) : Sml d := ⟨h.dt.ok, Nat.le_trans h.dt.dep hn, h.bd⟩
theorem SmN.mono {n m : Nat} {d : D} (h : SmN n d) (hn : n ≤ m) : SmN m d := ⟨h.dt.mono hn, h.bd⟩
theorem SmN.int {n : Nat} {i : Int} (l : i < 10 ^ 40) : SmN n (.int i) := ⟨.int, by simp only [bnd]; exact decide_eq_true l⟩
theorem SmN.bl {n : Nat} {i : Bool} : SmN n (.bl i) := ⟨.bl, rfl⟩
theorem SmN.non {n : Nat} : SmN n .non := ⟨.non, rfl⟩
theorem SmN.tup {n : Nat} {xs : List D} (l : xs.length ≤ 60) (h : ∀ x ∈ xs, SmN n x) : SmN (n + 1) (.tup xs) := ⟨.tup fun x m => (h x m).dt, by simp only [bnd, Bool.and_eq_true, decide_eq_true_eq]; exact ⟨l, bndL_of fun x m => (h x m).bd⟩⟩
theorem SmN.lst {n : Nat} {xs : List D} (l : xs.length ≤ 60) (h : ∀ x ∈ xs, SmN n x) : SmN (n + 1) (.lst xs) := ⟨.lst fun x m => (h x m).dt, by simp only [bnd, Bool.and_eq_true, decide_eq_true_eq]; exact ⟨l, bndL_of fun x m => (h x m).bd⟩⟩
theorem SmN.all {n : Nat} : ∀ x ∈ ([] : List D), SmN n x := fun _ m => nomatch m
theorem SmN.cons {n : Nat} {a : D} {xs : List D} (h : SmN n a) (hs : ∀ x ∈ xs, SmN n x) : ∀ x ∈ a :: xs, SmN n x := fun x m => by
  rcases List.mem_cons.mp m with e | m
  · rw [e]; exact h
  · exact hs x m
theorem SmN.map {α : Type} {n : Nat} {f : α → D} {xs : List α} (h : ∀ a ∈ xs, SmN n (f a)) : ∀ x ∈ xs.map f, SmN n x := fun x m => by
  obtain ⟨a, am, rfl⟩ := List.mem_map.mp m
  exact h a am
theorem SmN.app {n : Nat} {xs ys : List D} (h : ∀ x ∈ xs, SmN n x) (hs : ∀ x ∈ ys, SmN n x) : ∀ x ∈ xs ++ ys, SmN n x := fun x m => by
  rcases List.mem_append.mp m with m | m
  · exact h x m
  · exact hs x m
theorem sm_nats {xs : List Nat} (l : xs.length ≤ 60) (h : ∀ x ∈ xs, x < 1000) : SmN 1 (.tup (xs.map nD)) := .tup (by rw [List.length_map]; exact l) (.map fun a m => .int (by have := h a m; omega))
theorem Ln.Ok.gl {m : Nat} {l : Ln} (o : l.Ok m) : l.gs.length ≤ 8 := up_len8 o.g1 o.g2
theorem Ln.Ok.sm {m : Nat} {l : Ln} (o : l.Ok m) (hm : m ≤ 60) : SmN 2 l.d := by
  have := o.a
  have := o.b
  have := o.c2
  have := o.s2
  exact .tup (by simp) (.cons (.int (by omega)) (.cons (.int (by omega)) (.cons (.int (by omega)) (.cons (sm_nats (by have := o.gl; omega) fun x m => by have := o.g2 x m; omega) (.cons (.int (by omega)) .all)))))
theorem cst_one {K : PySem.W.Frag} {mg : Str → Option Value} {x : Str} {g : GD} {r : List (Str × GD)} (h : ∃ u v, mg x = some u ∧ RelV v u ∧ ∀ M L H, Rep K M L H g.d v)
    (hr : ∀ y g', r.lookup y = some g' → ∃ u v, mg y = some u ∧ RelV v u ∧ ∀ M L H, Rep K M L H g'.d v) : ∀ y g', ((x, g) :: r).lookup y = some g' → ∃ u v, mg y = some u ∧ RelV v u ∧ ∀ M L H, Rep K M L H g'.d v := fun y g' e => by
  rw [List.lookup_cons] at e
  by_cases q : y == x
  · rw [q] at e
    cases e
    rw [show y = x by simpa using q]
    exact h
  · rw [show (y == x) = false by simpa using q] at e
    exact hr y g' e
theorem cst_int {K : PySem.W.Frag} {mg : Str → Option Value} {x : Str} {i : Int} {t : Tok} (h : mg x = some (.int i t)) : ∃ u v, mg x = some u ∧ RelV v u ∧ ∀ M L H, Rep K M L H (GD.d (.int i)) v := ⟨_, .int i, h, ⟨_, rfl⟩, fun _ _ _ => rep_int i⟩
theorem cst_str {K : PySem.W.Frag} {mg : Str → Option Value} {x y : Str} {t : Tok} (h : mg x = some (.str y t)) (l : y.length ≤ sizeLine) : ∃ u v, mg x = some u ∧ RelV v u ∧ ∀ M L H, Rep K M L H (GD.d (.str y)) v := ⟨_, .str y, h, ⟨_, rfl⟩, fun _ _ _ => rep_str l⟩
/-- a right weaving, of as many houses as you like -/
structure Wv.Fit (w : Wv) : Prop where
  h0 : 1 ≤ w.hs.length
  h1 : w.hs.length ≤ 20
  h2 : ∀ ds ∈ w.hs, ds.length ≤ 6 ∧ ∀ g ∈ ds, g < 8
  l1 : w.ls.length ≤ 20
  l2 : ∀ l ∈ w.ls, l.Ok w.hs.length
theorem Wv.Ok.fit {w : Wv} (o : w.Ok) : w.Fit := ⟨o.h0, by have := o.h1; omega, o.h2, o.l1, o.l2⟩
theorem Wv.Fit.smH {w : Wv} (o : w.Fit) : ∀ x ∈ w.hs.map fun ds => D.tup (ds.map nD), SmN 1 x := .map fun ds m => sm_nats (by have := (o.h2 ds m).1; omega) fun x xm => by have := (o.h2 ds m).2 x xm; omega
theorem Wv.Fit.smL {w : Wv} (o : w.Fit) : ∀ x ∈ w.ls.map Ln.d, SmN 2 x := .map fun l m => (o.l2 l m).sm (by have := o.h1; omega)
theorem Wv.Fit.sm {w : Wv} (o : w.Fit) : SmN 4 w.d :=
  .tup (by simp) (.cons ((SmN.tup (by rw [List.length_map]; have := o.h1; omega) o.smH).mono (by decide)) (.cons (.tup (by rw [List.length_map]; have := o.l1; omega) o.smL) .all))
theorem areG_ok {gs : List Nat} (h : ∀ g ∈ gs, g < 8) : areG (.tup (gs.map nD)) = true := by
  simp only [areG, List.all_map]
  rw [List.all_eq_true]
  intro g m
  have := h g m
  show (decide (0 ≤ (g : Int)) && decide ((g : Int) < 8)) = true
  rw [decide_eq_true (by omega), decide_eq_true (by omega)]; rfl
theorem below_ok {n : Nat} {m : Int} (h : (n : Int) < m) : isBelow (nD n) m = true := by
  show (decide (0 ≤ (n : Int)) && decide ((n : Int) < m)) = true
  rw [decide_eq_true (by omega), decide_eq_true h]; rfl
theorem gsOk_ok {gs : List Nat} (h0 : gs ≠ []) (h1 : Up gs) (h : ∀ g ∈ gs, g < 8) : gsOk (.tup (gs.map nD)) = true := by
  have hne : (gs.map nD).isEmpty = false := by
    cases gs with
    | nil => exact absurd rfl h0
    | cons g r => rfl
  simp only [gsOk, areG_ok h, hne, intsOf_nats, risI_nats, risN_up.mpr h1, Bool.not_false, Bool.and_self]
theorem Ln.Ok.is {m : Nat} {l : Ln} (o : l.Ok m) : isLn l.d m = true := by
  have h1 := o.a
  have h2 := o.b
  have h3 := o.c1
  have h4 := o.s1
  have h5 := o.s2
  have e1 : isBelow (.int (l.other : Int)) (m : Int) = true := below_ok (by omega)
  have e2 : isBelow (nD l.one) (l.other : Int) = true := below_ok (by omega)
  have e3 : costOk (nD l.cost) = true := decide_eq_true (by omega)
  have e4 : isBelow (nD l.str) 5 = true := below_ok (by omega)
  have e5 : costOk (nD l.str) = true := decide_eq_true (by omega)
  simp only [Ln.d, isLn, e1, e2, e3, e4, e5, gsOk_ok o.g0 o.g1 o.g2, Bool.and_self]
theorem Wv.Fit.is {w : Wv} (o : w.Fit) : isW w.d = true := by
  have hne : (w.hs.map fun ds => D.tup (ds.map nD)).isEmpty = false := by
    have := o.h0
    cases h : w.hs with
    | nil => rw [h] at this; simp at this
    | cons g r => rfl
  simp only [Wv.d, Wv.hd, Wv.ld, isW, hne, Bool.not_false, Bool.true_and, Bool.and_eq_true, List.all_eq_true, List.length_map]
  refine ⟨fun x m => ?_, fun x m => ?_⟩
  · obtain ⟨ds, dm, rfl⟩ := List.mem_map.mp m
    exact areG_ok (o.h2 ds dm).2
  · obtain ⟨l, lm, rfl⟩ := List.mem_map.mp m
    exact (o.l2 l lm).is
theorem isW_badH {hs ls : List D} {x : D} (m : x ∈ hs) (h : areG x = false) : isW (.tup [.tup hs, .tup ls]) = false := by
  have : hs.all areG = false := by
    rw [← Bool.not_eq_true, List.all_eq_true]
    intro q
    rw [q x m] at h; cases h
  simp only [isW, this, Bool.and_false, Bool.false_and]
theorem isW_badL {hs ls : List D} {x : D} (m : x ∈ ls) (h : isLn x hs.length = false) : isW (.tup [.tup hs, .tup ls]) = false := by
  have : (ls.all fun l => isLn l hs.length) = false := by
    rw [← Bool.not_eq_true, List.all_eq_true]
    intro q
    have := q x m
    rw [h] at this; cases this
  simp only [isW, this, Bool.and_false]
end Ev

namespace Ev
local macro_rules | `(tactic| kct_strs) => `(tactic| first | refine w_var rfl ?_ | refine w_int ?_ | refine w_bl ?_ | refine w_str ?_ | refine w_non ?_ | refine w_bor rfl ?_ | refine w_glob ?_ | refine w_bin ?_ | refine w_cmp ?_ | refine w_call ?_ | refine w_pcall ?_ | refine w_dnew ?_ | refine w_dnew1 ?_ | refine w_dget ?_ | refine w_din ?_ | refine w_dget2 ?_ | refine s_dput ?_ | refine w_rev ?_ | refine w_trng ?_ | refine w_lrng ?_ | refine w_cons ?_ | refine w_nil ?_ | refine w_bi ?_ | refine w_idx ?_ | refine w_tup ?_ | refine w_lst ?_ | refine w_isin ?_ | refine w_both ?_ | refine w_and ?_ | refine w_and1 ?_ | refine w_not ?_ | refine w_ife ?_ | refine w_sl ?_ | refine w_sset ?_ | refine w_sm ?_ | refine w_cmp2 ?_ | refine w_neg ?_ | refine w_alloc ?_ | refine w_over ?_ | refine w_rng ?_ | refine w_rng2 ?_ | refine w_enum ?_ | refine w_zip ?_ | refine s_nil ?_ | refine s_ret ?_ | refine s_expr ?_ | refine s_reto rfl ?_ | (refine s_retf ?_) | refine s_par ?_ | (refine s_asg ?_; simp only [List.set_cons_zero, List.set_cons_succ]) | refine s_asgT ?_ | refine s_ife ?_ | refine s_cset ?_ | (refine s_own rfl ?_; simp only [List.set_cons_zero, List.set_cons_succ]) | (refine s_mut rfl ?_; simp only [List.set_cons_zero, List.set_cons_succ]) | (refine s_frz rfl ?_; simp only [List.set_cons_zero, List.set_cons_succ]) | refine s_brk ?_ | refine s_cnt ?_ | refine s_pas ?_ | refine WB.mk ?_ | refine o_add ?_ | refine o_sub ?_ | refine o_lt ?_ | refine o_gt ?_ | refine o_le ?_ | refine o_ge ?_ | refine o_eq ?_ | refine o_ne ?_ | refine o_eqb ?_ | refine o_neb ?_ | refine o_isn ?_ | refine o_notn ?_ | refine o_isnb ?_ | refine o_notnb ?_ | refine o_lenL ?_ | refine o_lenT ?_ | refine o_lenS ?_ | refine o_lenX ?_ | refine o_abs ?_ | refine o_min ?_ | refine o_intb ?_ | refine o_listL ?_ | refine o_listT ?_ | refine o_tupL ?_ | refine o_tupT ?_ | refine ⟨Nat.le_of_ble_eq_true rfl, ?_⟩ | refine knT ?_ | refine knF ?_ | refine knTT ?_ | refine knFF ?_ | refine knTF ?_ | refine knFT ?_ | refine o_ty rfl ?_ | (refine o_bind rfl ?_; simp only [List.set_cons_zero, List.set_cons_succ]) | refine o_cutL ?_ | refine o_cutT ?_ | refine o_optX rfl ?_ | refine o_items rfl ?_ | (refine o_setPar rfl ?_; simp only [List.set_cons_zero, List.set_cons_succ]) | refine o_rev ?_ | refine o_revT ?_ | refine o_neg ?_ | refine o_negB ?_ | refine o_addB ?_ | refine o_subB ?_ | refine ⟨Or.inl rfl, ?_⟩ | refine ⟨Or.inr rfl, ?_⟩ | refine o_over rfl ?_ | refine o_alloc rfl ?_ | refine o_modL rfl ?_ | refine o_fdivL rfl ?_ | refine ⟨_, rfl, ?_⟩)
open PySem L2
mutual
/-- a bound of a text's length -/
def szD : D → Nat
  | .non => 4
  | .bl _ => 5
  | .int i => if i.natAbs < 10 ^ 60 then 61 else 1000000000
  | .str x => 10 * x.length + 2
  | .tup xs => szL xs + 3
  | .lst xs => szL xs + 3
  | _ => 1000000000
def szL : List D → Nat
  | [] => 0
  | x :: r => szD x + 2 + szL r
end
theorem int_len {i : Int} (h : i.natAbs < 10 ^ 60) : (Str.ofString (toString i)).length ≤ 61 ∧ i.natAbs.log2 < 1920 := by
  refine ⟨?_, ?_⟩
  · by_cases q : 0 ≤ i
    · have := PyProof.Rows.toString_length_le q (k := 60) (by decide) (by omega)
      omega
    · rw [PyProof.Rows.len_text_neg (by omega)]
      have := PyProof.Rows.toString_length_le (v := 0 - i) (by omega) (k := 60) (by decide) (by omega)
      omega
  · by_cases z : i.natAbs = 0
    · rw [z]; decide
    · rw [Nat.log2_lt z]
      exact Nat.lt_trans h (by decide +kernel)
theorem listText_len (ts : List Str) : (listText ts).length ≤ piled ts + 3 := by
  unfold listText
  rw [strLen_append]
  have e1 : (("]" : String) : Str).length = 1 := by decide +kernel
  have e2 : (("[" : String) : Str).length = 1 := by decide +kernel
  rw [e1]
  cases ts with
  | nil =>
    show (("[" : String) : Str).length + 1 ≤ _
    rw [e2]; omega
  | cons t r =>
    show (textFrom 1 (("[" : String) ++ (if 0 > 0 then ", " else "" : String) ++ t) r).length + 1 ≤ _
    rw [textFrom_length_pos _ _ _ (by decide), piled_cons, strLen_append, strLen_append, e2]
    have e3 : (((if 0 > 0 then ", " else "" : String) : String) : Str).length = 0 := by decide +kernel
    rw [e3]
    omega
theorem tupleText_len (ts : List Str) : (tupleText ts).length ≤ piled ts + 3 := by
  unfold tupleText
  rw [strLen_append, strLen_append]
  have e1 : (("(" : String) : Str).length = 1 := by decide +kernel
  have e2 : (((if ts.length == 1 then ",)" else ")" : String) : String) : Str).length ≤ 2 := by split <;> decide +kernel
  rw [e1]
  cases ts with
  | nil =>
    have e3 : (Str.join ", " []).length = 0 := by decide +kernel
    rw [e3]; omega
  | cons t r =>
    have := join_length_add (t :: r) (by simp)
    omega
theorem str_ok {x : Str} (h : PyData.canLay0 (.str x) = true) : ∀ c ∈ x.cps.toList, c < 16 ^ 8 := fun c m => by
  have h' : PyData.strOk x = true := by simpa only [PyData.canLay0] using h
  unfold PyData.strOk at h'
  have := (Array.all_eq_true'.mp h') c (by simpa using m)
  have := of_decide_eq_true this
  omega
mutual
theorem shown_len : ∀ {d : D}, okD d = true → szD d ≤ 900000000 → (toT d).shown.length ≤ szD d ∧ (toT d).showable = true
  | .non, _, _ => by simp only [toT, PyData.shown, szD, PyData.showable]; exact ⟨by decide +kernel, trivial⟩
  | .bl b, _, _ => by simp only [toT, PyData.shown, szD, PyData.showable]; exact ⟨by cases b <;> decide +kernel, trivial⟩
  | .int i, _, h => by
    simp only [szD] at h ⊢
    split at h
    · rename_i g
      rw [if_pos g]
      have := int_len g
      simp only [toT, PyData.shown, PyData.showable]
      exact ⟨this.1, decide_eq_true this.2⟩
    · omega
  | .str x, ok, _ => by
    simp only [toT, PyData.shown, szD, PyData.showable]
    exact ⟨PySem.StrLaws.reprText_len x (str_ok (by simpa only [okD] using ok)), trivial⟩
  | .tup xs, ok, h => by
    simp only [szD] at h
    simp only [okD] at ok
    have := shownL_len ok (by omega)
    simp only [toT, PyData.shown, szD, PyData.showable]
    have t := tupleText_len (PyData.shownAll (toTL xs))
    exact ⟨by omega, this.2⟩
  | .lst xs, ok, h => by
    simp only [szD] at h
    simp only [okD] at ok
    have := shownL_len ok (by omega)
    simp only [toT, PyData.shown, szD, PyData.showable]
    have t := listText_len (PyData.shownAll (toTL xs))
    exact ⟨by omega, this.2⟩
  | .dct _ _ _, ok, _ => by simp [okD] at ok
  | .ref _, ok, _ => by simp [okD] at ok
  | .scr _, ok, _ => by simp [okD] at ok
theorem shownL_len : ∀ {xs : List D}, okL xs = true → szL xs ≤ 900000000 → piled (PyData.shownAll (toTL xs)) ≤ szL xs ∧ PyData.showableAll (toTL xs) = true
  | [], _, _ => ⟨by simp [toTL, PyData.shownAll, piled, szL], by simp [toTL, PyData.showableAll]⟩
  | x :: r, ok, h => by
    simp only [szL] at h
    simp only [okL, Bool.and_eq_true] at ok
    have h1 := shown_len ok.1 (by omega)
    have h2 := shownL_len ok.2 (by omega)
    simp only [toTL, PyData.shownAll, PyData.showableAll, szL, piled_cons, h1.2, h2.2, Bool.and_self]
    exact ⟨by omega, trivial⟩
end
def strT (d : D) : Str := match d with
  | .str x => x
  | d => (toT d).shown
/-- data whose text is short -/
theorem o_str {d : D} {P : D → Prop} (h : Dt d) (z : szD d ≤ 3000000) (p : P (.str (strT d))) : OI .str [d] P := by
  have s := shown_len h.ok (by omega)
  have hl : lim = 4000000 := rfl
  have seq : pyOf d = some (toT d) := h.py
  cases d with
  | non => exact .mk rfl p
  | bl b => exact .mk rfl p
  | int i =>
    have h1 := s.1
    have h2 := s.2
    simp only [toT, PyData.shown, PyData.showable] at h1 h2
    have h2 := of_decide_eq_true h2
    refine .mk ?_ p
    simp only [biD]
    rw [if_pos ⟨h2, by omega⟩]
    rfl
  | str x => exact .mk rfl p
  | tup xs =>
    refine .mk ?_ p
    simp only [biD, strD, seq]
    rw [if_pos ⟨s.2, by omega⟩]
    rfl
  | lst xs =>
    refine .mk ?_ p
    simp only [biD, strD, seq]
    rw [if_pos ⟨s.2, by omega⟩]
    rfl
  | dct _ _ _ => have := h.ok; simp [okD] at this
  | ref _ => have := h.ok; simp [okD] at this
  | scr _ => have := h.ok; simp [okD] at this
theorem szL_append : ∀ xs ys : List D, szL (xs ++ ys) = szL xs + szL ys
  | [], ys => by simp [szL]
  | x :: xs, ys => by simp only [List.cons_append, szL, szL_append xs ys]; omega
theorem szL_le {c : Nat} : ∀ {xs : List D}, (∀ x ∈ xs, szD x ≤ c) → szL xs ≤ (c + 2) * xs.length
  | [], _ => by simp [szL]
  | x :: r, h => by
    have h1 := h x List.mem_cons_self
    have h2 := szL_le (xs := r) fun y m => h y (List.mem_cons_of_mem _ m)
    simp only [szL, List.length_cons, Nat.mul_add, Nat.mul_one]
    omega
theorem sz_int {i : Int} (h : i.natAbs < 10 ^ 60) : szD (.int i) = 61 := by
  simp only [szD]
  rw [if_pos h]
theorem sz_nats {xs : List Nat} (h : ∀ x ∈ xs, x < 1000) : szL (xs.map nD) ≤ 63 * xs.length := by
  have := szL_le (c := 61) (xs := xs.map nD) fun d m => by
    obtain ⟨x, xm, rfl⟩ := List.mem_map.mp m
    rw [sz_int (by have := h x xm; omega)]
    exact Nat.le_refl _
  rwa [List.length_map] at this
theorem Ln.Ok.sz {m : Nat} {l : Ln} (o : l.Ok m) (hm : m ≤ 60) : szD l.d ≤ 1000 := by
  have h1 := o.a
  have h2 := o.b
  have h3 := o.c2
  have h4 := o.s2
  have h5 := sz_nats (xs := l.gs) fun x xm => by have := o.g2 x xm; omega
  have h6 := o.gl
  simp only [Ln.d, szD, szL]
  rw [if_pos (by omega), if_pos (by omega), if_pos (by omega), if_pos (by omega)]
  omega
theorem Wv.Fit.szH {w : Wv} (o : w.Fit) : szL (w.hs.map fun ds => D.tup (ds.map nD)) ≤ 10000 := by
  have := szL_le (c := 381) (xs := w.hs.map fun ds => D.tup (ds.map nD)) fun d m => by
    obtain ⟨ds, dm, rfl⟩ := List.mem_map.mp m
    have h2 := o.h2 ds dm
    have h5 := sz_nats (xs := ds) fun x xm => by have := h2.2 x xm; omega
    simp only [szD]
    omega
  rw [List.length_map] at this
  have := o.h1
  omega
theorem Wv.Fit.szL {w : Wv} (o : w.Fit) : Ev.szL (w.ls.map Ln.d) ≤ 25000 := by
  have := szL_le (c := 1000) (xs := w.ls.map Ln.d) fun d m => by
    obtain ⟨l, lm, rfl⟩ := List.mem_map.mp m
    exact (o.l2 l lm).sz (by have := o.h1; omega)
  rw [List.length_map] at this
  have := o.l1
  omega
theorem Wv.Fit.sz {w : Wv} (o : w.Fit) : szD w.d ≤ 40000 := by
  have h1 := o.szH
  have h2 := o.szL
  simp only [Wv.d, Wv.hd, Wv.ld, szD, Ev.szL]
  omega
end Ev

namespace Ev
local macro_rules | `(tactic| kct_strs) => `(tactic| first | refine w_var rfl ?_ | refine w_int ?_ | refine w_bl ?_ | refine w_str ?_ | refine w_non ?_ | refine w_bor rfl ?_ | refine w_glob ?_ | refine w_bin ?_ | refine w_cmp ?_ | refine w_call ?_ | refine w_pcall ?_ | refine w_dnew ?_ | refine w_dnew1 ?_ | refine w_dget ?_ | refine w_din ?_ | refine w_dget2 ?_ | refine s_dput ?_ | refine w_rev ?_ | refine w_trng ?_ | refine w_lrng ?_ | refine w_cons ?_ | refine w_nil ?_ | refine w_bi ?_ | refine w_idx ?_ | refine w_tup ?_ | refine w_lst ?_ | refine w_isin ?_ | refine w_both ?_ | refine w_and ?_ | refine w_and1 ?_ | refine w_not ?_ | refine w_ife ?_ | refine w_sl ?_ | refine w_sset ?_ | refine w_sm ?_ | refine w_cmp2 ?_ | refine w_neg ?_ | refine w_alloc ?_ | refine w_over ?_ | refine w_rng ?_ | refine w_rng2 ?_ | refine w_enum ?_ | refine w_zip ?_ | refine s_nil ?_ | refine s_ret ?_ | refine s_expr ?_ | refine s_reto rfl ?_ | (refine s_retf ?_) | refine s_par ?_ | (refine s_asg ?_; simp only [List.set_cons_zero, List.set_cons_succ]) | refine s_asgT ?_ | refine s_ife ?_ | refine s_cset ?_ | (refine s_own rfl ?_; simp only [List.set_cons_zero, List.set_cons_succ]) | (refine s_mut rfl ?_; simp only [List.set_cons_zero, List.set_cons_succ]) | (refine s_frz rfl ?_; simp only [List.set_cons_zero, List.set_cons_succ]) | refine s_brk ?_ | refine s_cnt ?_ | refine s_pas ?_ | refine WB.mk ?_ | refine o_add ?_ | refine o_sub ?_ | refine o_lt ?_ | refine o_gt ?_ | refine o_le ?_ | refine o_ge ?_ | refine o_eq ?_ | refine o_ne ?_ | refine o_eqb ?_ | refine o_neb ?_ | refine o_isn ?_ | refine o_notn ?_ | refine o_isnb ?_ | refine o_notnb ?_ | refine o_lenL ?_ | refine o_lenT ?_ | refine o_lenS ?_ | refine o_lenX ?_ | refine o_abs ?_ | refine o_min ?_ | refine o_intb ?_ | refine o_listL ?_ | refine o_listT ?_ | refine o_tupL ?_ | refine o_tupT ?_ | refine ⟨Nat.le_of_ble_eq_true rfl, ?_⟩ | refine knT ?_ | refine knF ?_ | refine knTT ?_ | refine knFF ?_ | refine knTF ?_ | refine knFT ?_ | refine o_ty rfl ?_ | (refine o_bind rfl ?_; simp only [List.set_cons_zero, List.set_cons_succ]) | refine o_cutL ?_ | refine o_cutT ?_ | refine o_optX rfl ?_ | refine o_items rfl ?_ | (refine o_setPar rfl ?_; simp only [List.set_cons_zero, List.set_cons_succ]) | refine o_rev ?_ | refine o_revT ?_ | refine o_neg ?_ | refine o_negB ?_ | refine o_addB ?_ | refine o_subB ?_ | refine ⟨Or.inl rfl, ?_⟩ | refine ⟨Or.inr rfl, ?_⟩ | refine o_over rfl ?_ | refine o_alloc rfl ?_ | refine o_modL rfl ?_ | refine o_fdivL rfl ?_ | refine ⟨_, rfl, ?_⟩)
open PySem L2
/-- falls -/
structure Fa where
  hs : List Nat
  ss : List (Nat × Nat)
def sD (p : Nat × Nat) : D := .tup [nD p.1, nD p.2]
def Fa.hd (f : Fa) : D := .tup (f.hs.map nD)
def Fa.sd (f : Fa) : D := .tup (f.ss.map sD)
def Fa.d (f : Fa) : D := .tup [f.hd, f.sd]
def ltP (p q : Nat × Nat) : Prop := p.1 < q.1 ∨ (p.1 = q.1 ∧ p.2 < q.2)
/-- a strand of some lines -/
def IsS (ls : List Ln) (p : Nat × Nat) : Prop := ∃ l, ls[p.1]? = some l ∧ p.2 < l.str
structure Fa.Ok (w : Wv) (f : Fa) : Prop where
  h1 : Up f.hs
  h2 : ∀ h ∈ f.hs, h < w.hs.length
  s1 : f.ss.Pairwise ltP
  s2 : ∀ p ∈ f.ss, IsS w.ls p
  sl : f.ss.length ≤ 80
theorem up_len {n : Nat} {xs : List Nat} (u : Up xs) (h : ∀ x ∈ xs, x < n) : xs.length ≤ n := up_len8 u h
theorem Fa.Ok.hl {w : Wv} {f : Fa} (o : f.Ok w) : f.hs.length ≤ w.hs.length := up_len o.h1 o.h2
theorem eqB_sD (p q : Nat × Nat) : eqB (sD p) (sD q) = decide (p = q) := by
  simp only [sD, eqB_tup, eqL, eqB_nat, Bool.and_true]
  obtain ⟨a, b⟩ := p
  obtain ⟨c, d⟩ := q
  simp only [Prod.mk.injEq]
  by_cases h1 : a = c <;> by_cases h2 : b = d <;> simp [h1, h2]
theorem any_map {α : Type} [DecidableEq α] {f : α → D} (hf : ∀ a b, eqB (f a) (f b) = decide (a = b)) (xs : List α) (a : α) : ((xs.map f).any fun y => eqB y (f a)) = decide (a ∈ xs) := by
  induction xs with
  | nil => simp
  | cons x r ih =>
    rw [List.map_cons, List.any_cons, ih, hf]
    by_cases h : x = a
    · subst h; simp
    · have : a ≠ x := fun e => h e.symm
      simp [h, this]
theorem dt_sD (p : Nat × Nat) : DtN 1 (sD p) := .tup (.cons .int (.cons .int .all))
theorem dt_sDs (ps : List (Nat × Nat)) : DtN 2 (.tup (ps.map sD)) := .tup (.map fun p _ => dt_sD p)
theorem Fa.dt (f : Fa) : DtN 4 f.d := .tup (.cons ((dt_nats _).mono (by decide)) (.cons ((dt_sDs _).mono (by decide)) .all))
theorem okD_noRef : ∀ {d : D}, okD d = true → noRef d = true
  | .non, _ => rfl
  | .bl _, _ => rfl
  | .int _, _ => rfl
  | .str _, _ => rfl
  | .tup xs, h => by simp only [okD] at h; simp only [noRef]; exact okL_noRef h
  | .lst xs, h => by simp only [okD] at h; simp only [noRef]; exact okL_noRef h
  | .dct _ _ _, h => by simp [okD] at h
  | .ref _, h => by simp [okD] at h
  | .scr _, h => by simp [okD] at h
where okL_noRef : ∀ {xs : List D}, okL xs = true → noRefL xs = true
  | [], _ => rfl
  | x :: r, h => by
    simp only [okL, Bool.and_eq_true] at h
    simp only [noRefL, okD_noRef h.1, okL_noRef h.2, Bool.and_self]
/-- the numbers of a line's whole strands -/
def wholeL (w : Wv) (f : Fa) (l : Nat) : List Nat := (List.range ((w.ls[l]?.map Ln.str).getD 0)).filter fun n => decide ((l, n) ∉ f.ss)
def standB (w : Wv) (f : Fa) (l : Nat) : Bool := match w.ls[l]? with
  | some ln => decide (ln.one ∉ f.hs) && decide (ln.other ∉ f.hs) && !(wholeL w f l).isEmpty
  | none => false
def standL (w : Wv) (f : Fa) (g : Nat) : List Nat := (List.range w.ls.length).filter fun l => decide (g ∈ ((w.ls[l]?.map Ln.gs).getD [])) && standB w f l
def groupsL (w : Wv) : List Nat := srtN ((w.hs ++ w.ls.map Ln.gs).flatten)
def wholeFn : Fn := ⟨3, 4, [.retf (.comp [3] (.nm 3) (.rng (.idx (.idx (.idx (.var 0) (.int 1)) (.var 2)) (.int 4))) (.cmp .nin (.tup [(.var 2), (.var 3)]) (.idx (.var 1) (.int 1))) (.var 3))], true⟩
def standsFn : Fn := ⟨3, 5, [.asg (.tp [3, 4]) (.sl (.idx (.idx (.var 0) (.int 1)) (.var 2)) .non (.int 2)), .ife (.both false [(.cmp .inn (.var 3) (.idx (.var 1) (.int 0))), (.cmp .inn (.var 4) (.idx (.var 1) (.int 0)))]) [.ret (.bl false)] [], .ret (.cmp .gt (.bi .len [(.call "whole_strands" [(.var 0), (.var 1), (.var 2)])]) (.int 0))], false⟩
def standingFn : Fn := ⟨3, 6, [.asg (.nm 3) (.comp [4, 5] (.tp [4, 5]) (.enum (.idx (.var 0) (.int 1))) (.cmp .inn (.var 2) (.idx (.var 5) (.int 3))) (.var 4)), .retf (.comp [4] (.nm 4) (.over (.var 3)) (.call "stands" [(.var 0), (.var 1), (.var 4)]) (.var 4))], true⟩
def lstandsFn : Fn := ⟨3, 6, [.own 3 (.lst []), .fors (.tp [4, 5]) (.enum (.idx (.var 0) (.int 1))) [.ife (.both true [(.cmp .nin (.idx (.var 5) (.int 0)) (.idx (.var 1) (.int 0))), (.cmp .nin (.idx (.var 5) (.int 1)) (.idx (.var 1) (.int 0))), (.cmp .inn (.var 2) (.idx (.var 5) (.int 3)))]) [.mut .extend 3 [(.bin .mul (.lst [(.var 4)]) (.bi .int [(.cmp .ne (.call "_law_whole" [(.var 0), (.var 1), (.var 4)]) (.lst []))]))]] []], .reto 3], true⟩
def groupsFn : Fn := ⟨1, 6, [.asg (.tp [1, 2]) (.var 0), .own 3 (.lst []), .fors (.nm 4) (.over (.bin .add (.bi .list [(.var 1)]) (.comp [5] (.nm 5) (.over (.var 2)) (.bl true) (.idx (.var 5) (.int 3))))) [.mut .extend 3 [(.var 4)]], .retf (.sset (.bor 3))], true⟩
def lgroupsFn : Fn := ⟨1, 4, [.own 1 (.lst []), .fors (.nm 2) (.over (.idx (.var 0) (.int 0))) [.mut .extend 1 [(.var 2)]], .fors (.nm 3) (.over (.idx (.var 0) (.int 1))) [.mut .extend 1 [(.idx (.var 3) (.int 3))]], .retf (.sset (.bor 1))], true⟩
def lfallsFn : Fn := ⟨2, 9, [.par [2, 3, 4] [false, true, true] [(.call "_law_take" [(.var 0), (.int 4)]), (.lst []), (.lst [])], .fors (.nm 5) (.rng (.bi .len [(.idx (.var 1) (.int 0))])) [.mut .extend 3 [(.bin .mul (.lst [(.var 5)]) (.bi .int [(.both true [(.cmp .gt (.var 2) (.int 1)), (.cmp .eq (.call "_law_take" [(.var 0), (.int 6)]) (.int 0))])]))]], .fors (.tp [6, 7]) (.enum (.idx (.var 1) (.int 1))) [.fors (.nm 8) (.rng (.idx (.var 7) (.int 4))) [.mut .extend 4 [(.bin .mul (.lst [(.tup [(.var 6), (.var 8)])]) (.bi .int [(.both true [(.cmp .gt (.var 2) (.int 0)), (.cmp .eq (.call "_law_take" [(.var 0), (.int 4)]) (.int 0))])]))]]], .ret (.tup [(.bi .tuple [(.bor 3)]), (.bi .tuple [(.bor 4)])])], false⟩
/-- filter, then map, of data made from parts -/
theorem filter_map_eq {α : Type} {f : α → D} {q : D → Bool} {p : α → Bool} (h : ∀ a, q (f a) = p a) : ∀ xs : List α, (xs.map f).filter q = (xs.filter p).map f
  | [] => rfl
  | x :: r => by
    rw [List.map_cons, List.filter_cons, List.filter_cons, h]
    split
    · rw [List.map_cons, filter_map_eq h r]
    · exact filter_map_eq h r
theorem rngL0 (n : Nat) : rngL 0 n = (List.range n).map nD := by
  unfold rngL
  refine List.map_congr_left fun i _ => ?_
  rw [Int.zero_add]
theorem o_mulL {x : List D} {j : Int} {P : D → Prop} (h : x.length * j.toNat ≤ lim ∧ j < 2 ^ 62 ∧ -(2 ^ 62) < j) (p : P (.lst (List.replicate j.toNat x).flatten)) : OB .mul (.lst x) (.int j) P := .mk (by simp only [binD]; rw [if_pos h]) p
/-- a list of one or none -/
theorem o_mulB {a : D} {b : Bool} {P : D → Prop} (p : P (.lst (if b = true then [a] else []))) : OB .mul (.lst [a]) (.int (if b = true then 1 else 0)) P := by
  refine o_mulL (by cases b <;> exact ⟨by show 1 * _ ≤ _; decide, by decide, by decide⟩) ?_
  cases b <;> exact p
section
variable {fns : List (String × Fn)} {k : Nat} {h : Hs} {w : Wv} {f : Fa} {l : Nat}
theorem ld_at {ln : Ln} (e : w.ls[l]? = some ln) : idxD (.tup (w.ls.map Ln.d)) (nD l) = some ln.d := by
  have hl : l < w.ls.length := by
    rcases Nat.lt_or_ge l w.ls.length with q | q
    · exact q
    · rw [List.getElem?_eq_none q] at e; cases e
  rw [ixT (by rw [List.length_map]; exact hl), List.getElem_map]
  rw [List.getElem?_eq_getElem hl] at e
  rw [Option.some.inj e]
/-- whole_strands and _law_whole -/
theorem whole_e {nm : String} (hf : fns.lookup nm = some wholeFn) (fo : f.Ok w) {ln : Ln} (e : w.ls[l]? = some ln) (hs : ln.str ≤ 4) : callF fns (k + 1) nm [w.d, f.d, nD l] h = some (.lst ((wholeL w f l).map nD), h) := by
  refine WC.eq (c_defF hf rfl ?_)
  show WS _ wholeFn.body [_, _, _, _] _ _
  unfold wholeFn Wv.d Wv.ld Fa.d Fa.sd
  refine s_retf (w_comp0 ?_)
  repeat kct_strs
  refine x_tup rfl ?_
  repeat kct_strs
  refine x_tup (ld_at e) ?_
  repeat kct_strs
  unfold Ln.d
  refine x_tup rfl ?_
  repeat kct_strs
  refine ⟨by omega, by omega, fun d => match d with | .int n => decide ((l, n.toNat) ∉ f.ss) | _ => false, id, fun d m => ?_, ?_⟩
  · rw [Int.toNat_natCast, rngL0] at m
    obtain ⟨n, nm', rfl⟩ := List.mem_map.mp m
    refine .mk rfl ?_
    simp only [wipeR, List.set_cons_zero, List.set_cons_succ]
    repeat kct_strs
    refine x_tup rfl ?_
    refine o_ninT (dt_sD (l, n) |>.dt (by decide)) (dt_sDs f.ss |>.dt (by decide)) ?_
    rw [show D.tup [nD l, D.int (n : Int)] = sD (l, n) from rfl, any_map eqB_sD]
    repeat kct_strs
    refine ⟨fun q => ?_, fun q => ⟨rfl, ?_⟩⟩
    · repeat kct_strs
      refine ⟨rfl, ?_⟩
      simp only [Int.toNat_natCast]
      rw [if_pos (by simpa using q)]
      rfl
    · simp only [Int.toNat_natCast]
      rw [if_neg (by simpa using q)]
  · repeat kct_strs
    rw [List.map_id, Int.toNat_natCast, rngL0, filter_map_eq (p := fun n => decide ((l, n) ∉ f.ss)) (fun n => rfl)]
    have : wholeL w f l = (List.range ln.str).filter fun n => decide ((l, n) ∉ f.ss) := by
      unfold wholeL
      rw [e]
      rfl
    rw [this]
    exact ⟨rfl, rfl⟩
theorem inN (x : Nat) (xs : List Nat) : ((xs.map nD).any fun y => eqB y (nD x)) = decide (x ∈ xs) := any_map eqB_nat xs x
theorem stands_e (hf : fns.lookup "stands" = some standsFn) (hw : fns.lookup "whole_strands" = some wholeFn) (fo : f.Ok w) {ln : Ln} (e : w.ls[l]? = some ln) (hs : ln.str ≤ 4) : callF fns (k + 2) "stands" [w.d, f.d, nD l] h = some (.bl (standB w f l), h) := by
  refine WC.eq (c_def hf rfl ?_)
  show WS _ standsFn.body [_, _, _, _, _] _ _
  have we := whole_e (k := k) (h := h) hw fo e hs
  unfold standsFn
  have e0 : standB w f l = (decide (ln.one ∉ f.hs) && decide (ln.other ∉ f.hs) && !(wholeL w f l).isEmpty) := by
    unfold standB
    rw [e]
  repeat kct_strs
  refine x_tup (z := w.ld) rfl ?_
  repeat kct_strs
  refine x_tup (z := ln.d) (ld_at e) ?_
  unfold Ln.d
  repeat kct_strs
  refine x_tup (z := f.hd) rfl ?_
  unfold Fa.hd
  refine o_inT Dt.int (dt_nats _ |>.dt (by decide)) ?_
  rw [inN]
  repeat kct_strs
  refine dec2o (fun c1 => ?_) fun c1 => ?_
  · repeat kct_strs
    refine x_tup (z := f.hd) rfl ?_
    unfold Fa.hd
    refine o_inT Dt.int (dt_nats _ |>.dt (by decide)) ?_
    rw [inN]
    repeat kct_strs
    refine dec2 (fun c2 => ?_) fun c2 => ?_
    · repeat kct_strs
      exact ⟨by rw [e0]; simp [c1, c2], rfl⟩
    · repeat kct_strs
      refine .mk we ?_
      repeat kct_strs
      refine ⟨?_, rfl⟩
      rw [e0]
      congr 1
      cases hwl : wholeL w f l <;> simp [c1, c2]
  · repeat kct_strs
    refine dec2 (fun _ => ?_) fun q => absurd c1 q
    repeat kct_strs
    exact ⟨by rw [e0]; simp [c1], rfl⟩
theorem mem_enum {xs : List D} {p : D} (m : p ∈ pairs (rngL 0 xs.length) xs) : ∃ (i : Nat) (h : i < xs.length), p = .tup [nD i, xs[i]] := by
  obtain ⟨i, hi, e⟩ := List.getElem_of_mem m
  unfold pairs at hi e
  rw [List.length_zipWith, rngL_len] at hi
  rw [List.getElem_zipWith] at e
  refine ⟨i, by omega, ?_⟩
  rw [← e]
  unfold rngL
  rw [List.getElem_map, List.getElem_range, Int.zero_add]
theorem enum_get {xs : List D} {i : Nat} {d : D} (e : (pairs (rngL 0 xs.length) xs)[i]? = some d) : ∃ h : i < xs.length, d = .tup [nD i, xs[i]] := by
  have hi : i < xs.length := by
    rcases Nat.lt_or_ge i xs.length with q | q
    · exact q
    · rw [List.getElem?_eq_none (by unfold pairs; rw [List.length_zipWith, rngL_len]; omega)] at e; cases e
  have h1 : (rngL 0 xs.length)[i]? = some (nD i) := by
    unfold rngL
    rw [List.getElem?_map, List.getElem?_range hi, Option.map_some, Int.zero_add]
  have := pairs_get h1 (List.getElem?_eq_getElem hi)
  rw [this] at e
  exact ⟨hi, (Option.some.inj e).symm⟩
/-- the places of those that a test takes -/
theorem enum_pick {α : Type} {g : α → D} {t : α → Bool} {q : D → Bool} {m : D → D} (hq : ∀ (i : Nat) (a : α), q (.tup [nD i, g a]) = t a) (hm : ∀ (i : Nat) (a : α), m (.tup [nD i, g a]) = nD i) (xs : List α) :
    ((pairs (rngL 0 (xs.map g).length) (xs.map g)).filter q).map m = ((List.range xs.length).filter fun i => (xs[i]?.map t).getD false).map nD := by
  have key : ∀ (ys : List α) (lo : Nat), ((pairs (rngL lo (ys.map g).length) (ys.map g)).filter q).map m = ((List.range' lo ys.length).filter fun i => (ys[i - lo]?.map t).getD false).map nD := by
    intro ys
    induction ys with
    | nil => intro lo; rfl
    | cons y r ih =>
      intro lo
      have e1 : rngL lo ((y :: r).map g).length = nD lo :: rngL ((lo + 1 : Nat) : Int) (r.map g).length := by
        unfold rngL
        rw [List.map_cons, List.length_cons, List.range_succ_eq_map, List.map_cons, List.map_map]
        have a1 : D.int ((lo : Int) + ((0 : Nat) : Int)) = nD lo := by
          show D.int ((lo : Int) + ((0 : Nat) : Int)) = D.int (lo : Int)
          rw [show (lo : Int) + ((0 : Nat) : Int) = (lo : Int) by omega]
        have a2 : ∀ i : Nat, D.int ((lo : Int) + ((i + 1 : Nat) : Int)) = D.int (((lo + 1 : Nat) : Int) + (i : Nat)) := fun i => by
          rw [show (lo : Int) + ((i + 1 : Nat) : Int) = ((lo + 1 : Nat) : Int) + (i : Nat) by omega]
        rw [a1]
        exact congrArg (List.cons (nD lo)) (List.map_congr_left fun i _ => a2 i)
      have e2 : pairs (rngL lo ((y :: r).map g).length) ((y :: r).map g) = .tup [nD lo, g y] :: pairs (rngL ((lo + 1 : Nat) : Int) (r.map g).length) (r.map g) := by
        rw [e1]; rfl
      have e3 : ((List.range' (lo + 1) r.length).filter fun i => ((y :: r)[i - lo]?.map t).getD false) = (List.range' (lo + 1) r.length).filter fun i => (r[i - (lo + 1)]?.map t).getD false := by
        refine List.filter_congr fun i m => ?_
        have := (List.mem_range'_1.mp m).1
        rw [show i - lo = (i - (lo + 1)) + 1 by omega, List.getElem?_cons_succ]
      rw [e2, List.filter_cons, List.length_cons, List.range'_succ, List.filter_cons, hq, e3]
      have e4 : (((y :: r)[lo - lo]?.map t).getD false) = t y := by simp
      rw [e4]
      split
      · rw [List.map_cons, List.map_cons, ih (lo + 1), hm]
      · exact ih (lo + 1)
  have := key xs 0
  rw [show ((0 : Nat) : Int) = 0 from rfl] at this
  rw [this, List.range_eq_range']
  rfl
theorem standing_e (hf : fns.lookup "standing" = some standingFn) (hs : fns.lookup "stands" = some standsFn) (hw : fns.lookup "whole_strands" = some wholeFn) (fo : f.Ok w) (h4 : ∀ l ∈ w.ls, l.str ≤ 4) (g : Nat) :
    callF fns (k + 3) "standing" [w.d, f.d, nD g] h = some (.lst ((standL w f g).map nD), h) := by
  refine WC.eq (c_defF hf rfl ?_)
  show WS _ standingFn.body [_, _, _, _, _, _] _ _
  unfold standingFn
  repeat kct_strs
  refine w_comp0 ?_
  repeat kct_strs
  refine x_tup (z := w.ld) rfl ?_
  unfold Wv.ld
  repeat kct_strs
  refine ⟨fun d => match d with | .tup [_, .tup [_, _, _, .tup gs, _]] => gs.any fun y => eqB y (nD g) | _ => false, fun d => match d with | .tup [i, _] => i | _ => .non, fun d m => ?_, ?_⟩
  · obtain ⟨i, hi, rfl⟩ := mem_enum m
    rw [List.getElem_map]
    generalize w.ls[i]'(by simpa using hi) = ln
    refine .mk rfl ?_
    simp only [wipeR, List.set_cons_zero, List.set_cons_succ]
    unfold Ln.d
    repeat kct_strs
    refine x_tup rfl ?_
    refine o_inT Dt.int (dt_nats _ |>.dt (by decide)) ?_
    repeat kct_strs
    refine ⟨fun q => ?_, fun q => ⟨rfl, ?_⟩⟩
    · repeat kct_strs
      refine ⟨rfl, ?_⟩
      simp only [q, if_true]
    · simp only [q, Bool.false_eq_true, if_false]
  · rw [enum_pick (g := Ln.d) (t := fun ln => decide (g ∈ ln.gs)) (fun i ln => by simp only [Ln.d]; exact inN g ln.gs) (fun i ln => by simp only [Ln.d])]
    repeat kct_strs
    refine w_comp0 ?_
    repeat kct_strs
    refine ⟨fun d => match d with | .int n => standB w f n.toNat | _ => false, id, fun d m => ?_, ?_⟩
    · obtain ⟨n, nm, rfl⟩ := List.mem_map.mp m
      have hn := List.mem_range.mp (List.mem_filter.mp nm).1
      have en : w.ls[n]? = some w.ls[n] := List.getElem?_eq_getElem hn
      refine .mk rfl ?_
      simp only [wipeR, List.set_cons_zero, List.set_cons_succ]
      repeat kct_strs
      refine .mk (stands_e hs hw fo en (h4 _ (List.getElem_mem hn))) ?_
      repeat kct_strs
      refine ⟨fun q => ?_, fun q => ⟨rfl, ?_⟩⟩
      · repeat kct_strs
        refine ⟨rfl, ?_⟩
        simp only [Int.toNat_natCast, q, if_true, id]
      · simp only [Int.toNat_natCast, q, Bool.false_eq_true, if_false]
    · repeat kct_strs
      rw [List.map_id, filter_map_eq (p := fun n => standB w f n) (fun n => by simp only [Int.toNat_natCast]), List.filter_filter]
      refine ⟨?_, rfl⟩
      congr 2
      unfold standL
      refine List.filter_congr fun i m => ?_
      have hi := List.mem_range.mp m
      rw [List.getElem?_eq_getElem hi]
      simp only [Option.map_some, Option.getD_some]
      exact Bool.and_comm _ _
theorem lstands_e (hf : fns.lookup "_law_stands" = some lstandsFn) (hw : fns.lookup "_law_whole" = some wholeFn) (fo : f.Ok w) (h4 : ∀ l ∈ w.ls, l.str ≤ 4) (hl : w.ls.length ≤ 1000) (g : Nat) :
    callF fns (k + 2) "_law_stands" [w.d, f.d, nD g] h = some (.lst ((standL w f g).map nD), h) := by
  refine WC.eq (c_defF hf rfl ?_)
  show WS _ lstandsFn.body [_, _, _, _, _, _] _ _
  unfold lstandsFn
  repeat kct_strs
  refine s_for ?_
  repeat kct_strs
  refine x_tup (z := w.ld) rfl ?_
  unfold Wv.ld
  repeat kct_strs
  have tk : ∀ i, i < w.ls.length → (List.range (i + 1)).filter (fun l => decide (g ∈ ((w.ls[l]?.map Ln.gs).getD [])) && standB w f l) = (List.range i).filter (fun l => decide (g ∈ ((w.ls[l]?.map Ln.gs).getD [])) && standB w f l) ++ (if (decide (g ∈ ((w.ls[i]?.map Ln.gs).getD [])) && standB w f i) = true then [i] else []) := fun i hi => by
    rw [List.range_succ, List.filter_append, List.filter_cons, List.filter_nil]
  refine ⟨fun i ρ h' => h' = h ∧ ∃ s4 s5, ρ = [.val w.d, .val f.d, .val (nD g), .own (((List.range i).filter fun l => decide (g ∈ ((w.ls[l]?.map Ln.gs).getD [])) && standB w f l).map nD), s4, s5], ⟨rfl, _, _, rfl⟩, ?_, ?_⟩
  · rintro i d ρ h' ei ⟨rfl, s4, s5, rfl⟩
    obtain ⟨hj, e⟩ := enum_get ei
    rw [List.length_map] at hj
    subst e
    rw [List.getElem_map]
    have en : w.ls[i]? = some w.ls[i] := List.getElem?_eq_getElem hj
    have hs4 := h4 _ (List.getElem_mem hj)
    generalize w.ls[i] = ln at en hs4
    have nxt := tk i hj
    have eb : standB w f i = (decide (ln.one ∉ f.hs) && decide (ln.other ∉ f.hs) && !(wholeL w f i).isEmpty) := by
      unfold standB
      rw [en]
    have eg : ((w.ls[i]?.map Ln.gs).getD []) = ln.gs := by rw [en]; rfl
    rw [eg, eb] at nxt
    have stay : (decide (g ∈ ln.gs) && (decide (ln.one ∉ f.hs) && decide (ln.other ∉ f.hs) && !(wholeL w f i).isEmpty)) = false → WS (callF fns (k + 1)) [] [.val w.d, .val f.d, .val (nD g), .own (((List.range i).filter fun l => decide (g ∈ ((w.ls[l]?.map Ln.gs).getD [])) && standB w f l).map nD), .val (nD i), .val ln.d] h'
        (Seq (callF fns (k + 1)) [] (LpE (fun ρ h2 => h2 = h' ∧ ∃ s4 s5, ρ = [.val w.d, .val f.d, .val (nD g), .own (((List.range (i + 1)).filter fun l => decide (g ∈ ((w.ls[l]?.map Ln.gs).getD [])) && standB w f l).map nD), s4, s5]) (Seq (callF fns (k + 1)) [.reto 3] (RetF fun d1 h1 => d1 = .lst ((standL w f g).map nD) ∧ h1 = h')))) := fun q => by
      repeat kct_strs
      refine ⟨rfl, .val (nD i), .val ln.d, ?_⟩
      rw [nxt, q]
      simp
    refine .mk rfl ?_
    simp only [List.set_cons_zero, List.set_cons_succ]
    refine s_ife ?_
    have hd1 : ∀ (Q : D → Prop), Q (nD ln.one) → WX h' ln.d (.int 0) Q := fun Q q => x_tup rfl q
    have hd2 : ∀ (Q : D → Prop), Q (nD ln.other) → WX h' ln.d (.int 1) Q := fun Q q => x_tup rfl q
    have hd3 : ∀ (Q : D → Prop), Q (.tup (ln.gs.map nD)) → WX h' ln.d (.int 3) Q := fun Q q => x_tup rfl q
    repeat kct_strs
    refine hd1 _ ?_
    repeat kct_strs
    refine x_tup (z := f.hd) rfl ?_
    unfold Fa.hd
    refine o_ninT Dt.int (dt_nats _ |>.dt (by decide)) ?_
    rw [inN]
    repeat kct_strs
    refine dec2an (fun c1 => ?_) fun c1 => ?_
    rotate_left
    · repeat kct_strs
      refine dec2n (fun q => absurd c1 q) fun _ => ?_
      exact stay (by simp [c1])
    repeat kct_strs
    refine hd2 _ ?_
    repeat kct_strs
    refine x_tup (z := f.hd) rfl ?_
    unfold Fa.hd
    refine o_ninT Dt.int (dt_nats _ |>.dt (by decide)) ?_
    rw [inN]
    repeat kct_strs
    refine dec2an (fun c2 => ?_) fun c2 => ?_
    rotate_left
    · repeat kct_strs
      refine dec2n (fun q => absurd c2 q) fun _ => ?_
      exact stay (by simp [c2])
    repeat kct_strs
    refine hd3 _ ?_
    refine o_inT Dt.int (dt_nats _ |>.dt (by decide)) ?_
    rw [inN]
    repeat kct_strs
    refine dec2 (fun c3 => ?_) fun c3 => ?_
    rotate_left
    · exact stay (by simp [c3])
    repeat kct_strs
    refine .mk (whole_e hw fo en hs4) ?_
    repeat kct_strs
    refine o_neD (dt_natsL _ |>.dt (by decide)) Dt.nil ?_
    rw [eqB_lst, eqL_nil]
    repeat kct_strs
    refine o_mulB ?_
    repeat kct_strs
    have hlim : lim = 4000000 := rfl
    have hlen : ((List.range i).filter fun l => decide (g ∈ ((w.ls[l]?.map Ln.gs).getD [])) && standB w f l).length ≤ i := by
      have := List.length_filter_le (fun l => decide (g ∈ ((w.ls[l]?.map Ln.gs).getD [])) && standB w f l) (List.range i)
      rwa [List.length_range] at this
    refine o_ext ?_ ?_
    · rw [List.length_map]
      split <;> simp <;> omega
    · repeat kct_strs
      refine ⟨rfl, .val (nD i), .val ln.d, ?_⟩
      rw [nxt]
      have e5 : (List.map nD (wholeL w f i)).isEmpty = (wholeL w f i).isEmpty := by cases wholeL w f i <;> rfl
      rw [e5, List.map_append]
      cases hwl : (wholeL w f i).isEmpty <;> simp [c1, c2, c3]
  · rintro ρ h' ⟨rfl, s4, s5, rfl⟩
    repeat kct_strs
    refine ⟨?_, rfl⟩
    unfold standL
    rw [show (pairs (rngL 0 (w.ls.map Ln.d).length) (w.ls.map Ln.d)).length = w.ls.length by unfold pairs; rw [List.length_zipWith, rngL_len]; simp]
end
end Ev

namespace Ev
local macro_rules | `(tactic| kct_strs) => `(tactic| first | refine w_var rfl ?_ | refine w_int ?_ | refine w_bl ?_ | refine w_str ?_ | refine w_non ?_ | refine w_bor rfl ?_ | refine w_glob ?_ | refine w_bin ?_ | refine w_cmp ?_ | refine w_call ?_ | refine w_pcall ?_ | refine w_dnew ?_ | refine w_dnew1 ?_ | refine w_dget ?_ | refine w_din ?_ | refine w_dget2 ?_ | refine s_dput ?_ | refine w_rev ?_ | refine w_trng ?_ | refine w_lrng ?_ | refine w_cons ?_ | refine w_nil ?_ | refine w_bi ?_ | refine w_idx ?_ | refine w_tup ?_ | refine w_lst ?_ | refine w_isin ?_ | refine w_both ?_ | refine w_and ?_ | refine w_and1 ?_ | refine w_not ?_ | refine w_ife ?_ | refine w_sl ?_ | refine w_sset ?_ | refine w_sm ?_ | refine w_cmp2 ?_ | refine w_neg ?_ | refine w_alloc ?_ | refine w_over ?_ | refine w_rng ?_ | refine w_rng2 ?_ | refine w_enum ?_ | refine w_zip ?_ | refine s_nil ?_ | refine s_ret ?_ | refine s_expr ?_ | refine s_reto rfl ?_ | (refine s_retf ?_) | refine s_par ?_ | (refine s_asg ?_; simp only [List.set_cons_zero, List.set_cons_succ]) | refine s_asgT ?_ | refine s_ife ?_ | refine s_cset ?_ | (refine s_own rfl ?_; simp only [List.set_cons_zero, List.set_cons_succ]) | (refine s_mut rfl ?_; simp only [List.set_cons_zero, List.set_cons_succ]) | (refine s_frz rfl ?_; simp only [List.set_cons_zero, List.set_cons_succ]) | refine s_brk ?_ | refine s_cnt ?_ | refine s_pas ?_ | refine WB.mk ?_ | refine o_add ?_ | refine o_sub ?_ | refine o_lt ?_ | refine o_gt ?_ | refine o_le ?_ | refine o_ge ?_ | refine o_eq ?_ | refine o_ne ?_ | refine o_eqb ?_ | refine o_neb ?_ | refine o_isn ?_ | refine o_notn ?_ | refine o_isnb ?_ | refine o_notnb ?_ | refine o_lenL ?_ | refine o_lenT ?_ | refine o_lenS ?_ | refine o_lenX ?_ | refine o_abs ?_ | refine o_min ?_ | refine o_intb ?_ | refine o_listL ?_ | refine o_listT ?_ | refine o_tupL ?_ | refine o_tupT ?_ | refine ⟨Nat.le_of_ble_eq_true rfl, ?_⟩ | refine knT ?_ | refine knF ?_ | refine knTT ?_ | refine knFF ?_ | refine knTF ?_ | refine knFT ?_ | refine o_ty rfl ?_ | (refine o_bind rfl ?_; simp only [List.set_cons_zero, List.set_cons_succ]) | refine o_cutL ?_ | refine o_cutT ?_ | refine o_optX rfl ?_ | refine o_items rfl ?_ | (refine o_setPar rfl ?_; simp only [List.set_cons_zero, List.set_cons_succ]) | refine o_rev ?_ | refine o_revT ?_ | refine o_neg ?_ | refine o_negB ?_ | refine o_addB ?_ | refine o_subB ?_ | refine ⟨Or.inl rfl, ?_⟩ | refine ⟨Or.inr rfl, ?_⟩ | refine o_over rfl ?_ | refine o_alloc rfl ?_ | refine o_modL rfl ?_ | refine o_fdivL rfl ?_ | refine ⟨_, rfl, ?_⟩)
open PySem L2
section
variable {fns : List (String × Fn)} {k : Nat} {h : Hs} {w : Wv}
theorem groups_sset {xs : List Nat} (l : xs.length < 4000) (h8 : ∀ x ∈ xs, x < 8) : ssetD (.lst (xs.map nD)) = some (.lst ((srtN xs).map nD)) := by
  refine (sset_natB l ?_).1
  have := up_len8 (b := 8) (up_srtN (ns := xs)) fun g m => h8 g (mem_srtN.mp m)
  omega
theorem flat_len {c : Nat} : ∀ {xs : List (List Nat)}, (∀ x ∈ xs, x.length ≤ c) → xs.flatten.length ≤ c * xs.length
  | [], _ => by simp
  | x :: r, h => by
    have h1 := h x List.mem_cons_self
    have h2 := flat_len (xs := r) fun y m => h y (List.mem_cons_of_mem _ m)
    rw [List.flatten_cons, List.length_append, List.length_cons, Nat.mul_add, Nat.mul_one]
    omega
def gsAll (w : Wv) : List (List Nat) := w.hs ++ w.ls.map Ln.gs
theorem Wv.Fit.gs {w : Wv} (o : w.Fit) : (∀ x ∈ gsAll w, x.length ≤ 8 ∧ ∀ g ∈ x, g < 8) ∧ (gsAll w).length ≤ 40 := by
  refine ⟨fun x m => ?_, ?_⟩
  · rcases List.mem_append.mp m with m | m
    · have := o.h2 x m
      exact ⟨by omega, this.2⟩
    · obtain ⟨l, lm, rfl⟩ := List.mem_map.mp m
      exact ⟨(o.l2 l lm).gl, (o.l2 l lm).g2⟩
  · have := o.h1
    have := o.l1
    unfold gsAll
    rw [List.length_append, List.length_map]
    omega
/-- groups are gathered one tuple behind the other -/
theorem take_flat (xs : List (List Nat)) {i : Nat} (hi : i < xs.length) : (xs.take (i + 1)).flatten = (xs.take i).flatten ++ xs[i] := by
  rw [List.take_succ_eq_append_getElem hi, List.flatten_append]
  simp
theorem groups_e (hf : fns.lookup "groups_of" = some groupsFn) (o : w.Fit) : callF fns (k + 1) "groups_of" [w.d] h = some (.lst ((groupsL w).map nD), h) := by
  refine WC.eq (c_defF hf rfl ?_)
  show WS _ groupsFn.body [_, _, _, _, _, _] _ _
  unfold groupsFn Wv.d Wv.hd Wv.ld
  have hlim : lim = 4000000 := rfl
  have og := o.gs
  have oh := o.h1
  have ol := o.l1
  repeat kct_strs
  refine s_for ?_
  repeat kct_strs
  refine w_compm ?_
  repeat kct_strs
  refine ⟨fun d => match d with | .tup [_, _, _, gs, _] => gs | _ => .non, fun d m => ?_, ?_⟩
  · obtain ⟨l, lm, rfl⟩ := List.mem_map.mp m
    unfold Ln.d
    simp only [wipeR, List.set_cons_zero, List.set_cons_succ]
    repeat kct_strs
    exact x_tup rfl ⟨rfl, rfl⟩
  · have e1 : (w.ls.map Ln.d).map (fun d => match d with | .tup [_, _, _, gs, _] => gs | _ => D.non) = (w.ls.map Ln.gs).map fun gs => .tup (gs.map nD) := by
      rw [List.map_map, List.map_map]
      rfl
    rw [e1]
    refine o_addL (by simp only [List.length_map]; omega) ?_
    rw [← List.map_append]
    show WO (overD (.lst ((gsAll w).map fun gs => .tup (gs.map nD)))) _
    repeat kct_strs
    refine ⟨fun i ρ h' => h' = h ∧ ∃ s4 s5, ρ = [.val (.tup [.tup (w.hs.map fun ds => .tup (ds.map nD)), .tup (w.ls.map Ln.d)]), .val (.tup (w.hs.map fun ds => .tup (ds.map nD))), .val (.tup (w.ls.map Ln.d)), .own ((((gsAll w).take i).flatten).map nD), s4, s5], ⟨rfl, _, _, rfl⟩, ?_, ?_⟩
    · rintro i d ρ h' ei ⟨rfl, s4, s5, rfl⟩
      rw [List.getElem?_map] at ei
      obtain ⟨gs, eg, rfl⟩ := Option.map_eq_some_iff.mp ei
      have hi : i < (gsAll w).length := by
        rcases Nat.lt_or_ge i (gsAll w).length with q | q
        · exact q
        · rw [List.getElem?_eq_none q] at eg; cases eg
      rw [List.getElem?_eq_getElem hi] at eg
      have eg := Option.some.inj eg
      have hg := og.1 gs (by rw [← eg]; exact List.getElem_mem _)
      have ht := flat_len (c := 8) (xs := (gsAll w).take i) fun x m => (og.1 x (List.mem_of_mem_take m)).1
      rw [List.length_take] at ht
      have : 8 * min i (gsAll w).length ≤ 8 * 40 := Nat.mul_le_mul_left _ (by omega)
      refine .mk rfl ?_
      simp only [List.set_cons_zero, List.set_cons_succ]
      repeat kct_strs
      refine o_extT (by rw [List.length_map, List.length_map]; omega) ?_
      repeat kct_strs
      refine ⟨rfl, .val (.tup (gs.map nD)), s5, ?_⟩
      rw [take_flat _ hi, eg, List.map_append]
    · rintro ρ h' ⟨rfl, s4, s5, rfl⟩
      rw [List.length_map, List.take_of_length_le (Nat.le_refl _)]
      have ht := flat_len (c := 8) (xs := gsAll w) fun x m => (og.1 x m).1
      have : 8 * (gsAll w).length ≤ 8 * 40 := Nat.mul_le_mul_left _ (by omega)
      repeat kct_strs
      refine .mk (groups_sset (by omega) fun x m => ?_) ?_
      · obtain ⟨y, ym, xm⟩ := List.mem_flatten.mp m
        exact (og.1 y ym).2 x xm
      · repeat kct_strs
        exact ⟨rfl, rfl⟩
theorem lgroups_e (hf : fns.lookup "_law_groups" = some lgroupsFn) (o : w.Fit) : callF fns (k + 1) "_law_groups" [w.d] h = some (.lst ((groupsL w).map nD), h) := by
  refine WC.eq (c_defF hf rfl ?_)
  show WS _ lgroupsFn.body [_, _, _, _] _ _
  unfold lgroupsFn Wv.d Wv.hd Wv.ld
  have hlim : lim = 4000000 := rfl
  have og := o.gs
  have oh := o.h1
  have ol := o.l1
  have big : ∀ xs : List (List Nat), (∀ x ∈ xs, x ∈ gsAll w) → xs.length ≤ 40 → xs.flatten.length ≤ 320 := fun xs h1 h2 => by
    have ht := flat_len (c := 8) (xs := xs) fun x m => (og.1 x (h1 x m)).1
    have : 8 * xs.length ≤ 8 * 40 := Nat.mul_le_mul_left _ h2
    omega
  repeat kct_strs
  refine s_for ?_
  repeat kct_strs
  refine x_tup rfl ?_
  repeat kct_strs
  refine ⟨fun i ρ h' => h' = h ∧ ∃ s2 s3, ρ = [.val (.tup [.tup (w.hs.map fun ds => .tup (ds.map nD)), .tup (w.ls.map Ln.d)]), .own (((w.hs.take i).flatten).map nD), s2, s3], ⟨rfl, _, _, rfl⟩, ?_, ?_⟩
  · rintro i d ρ h' ei ⟨rfl, s2, s3, rfl⟩
    rw [List.getElem?_map] at ei
    obtain ⟨gs, eg, rfl⟩ := Option.map_eq_some_iff.mp ei
    have hi : i < w.hs.length := by
      rcases Nat.lt_or_ge i w.hs.length with q | q
      · exact q
      · rw [List.getElem?_eq_none q] at eg; cases eg
    rw [List.getElem?_eq_getElem hi] at eg
    have eg := Option.some.inj eg
    have hg := og.1 gs (by rw [← eg]; exact List.mem_append_left _ (List.getElem_mem _))
    have hb := big (w.hs.take i) (fun x m => List.mem_append_left _ (List.mem_of_mem_take m)) (by rw [List.length_take]; omega)
    refine .mk rfl ?_
    simp only [List.set_cons_zero, List.set_cons_succ]
    repeat kct_strs
    refine o_extT (by rw [List.length_map, List.length_map]; omega) ?_
    repeat kct_strs
    refine ⟨rfl, .val (.tup (gs.map nD)), s3, ?_⟩
    rw [take_flat _ hi, eg, List.map_append]
  · rintro ρ h' ⟨rfl, s2, s3, rfl⟩
    rw [List.length_map, List.take_of_length_le (Nat.le_refl _)]
    refine s_for ?_
    repeat kct_strs
    refine x_tup rfl ?_
    repeat kct_strs
    refine ⟨fun i ρ h2 => h2 = h' ∧ ∃ s2 s3, ρ = [.val (.tup [.tup (w.hs.map fun ds => .tup (ds.map nD)), .tup (w.ls.map Ln.d)]), .own ((w.hs.flatten ++ ((w.ls.map Ln.gs).take i).flatten).map nD), s2, s3], ⟨rfl, s2, s3, by simp⟩, ?_, ?_⟩
    · rintro i d ρ h2 ei ⟨rfl, t2, t3, rfl⟩
      rw [List.getElem?_map] at ei
      obtain ⟨l, el, rfl⟩ := Option.map_eq_some_iff.mp ei
      have hi : i < w.ls.length := by
        rcases Nat.lt_or_ge i w.ls.length with q | q
        · exact q
        · rw [List.getElem?_eq_none q] at el; cases el
      rw [List.getElem?_eq_getElem hi] at el
      have el := Option.some.inj el
      have lm : l ∈ w.ls := by rw [← el]; exact List.getElem_mem _
      have hg := og.1 l.gs (List.mem_append_right _ (List.mem_map.mpr ⟨l, lm, rfl⟩))
      have hb := big (w.hs ++ (w.ls.map Ln.gs).take i) (fun x m => by
        rcases List.mem_append.mp m with m | m
        · exact List.mem_append_left _ m
        · exact List.mem_append_right _ (List.mem_of_mem_take m)) (by rw [List.length_append, List.length_take, List.length_map]; omega)
      rw [List.flatten_append] at hb
      refine .mk rfl ?_
      simp only [List.set_cons_zero, List.set_cons_succ]
      unfold Ln.d
      repeat kct_strs
      refine x_tup rfl ?_
      repeat kct_strs
      refine o_extT (by rw [List.length_map, List.length_map]; omega) ?_
      repeat kct_strs
      refine ⟨rfl, t2, .val l.d, ?_⟩
      have hi' : i < (w.ls.map Ln.gs).length := by rw [List.length_map]; exact hi
      rw [take_flat _ hi', List.getElem_map, el]
      simp only [List.map_append, List.append_assoc]
      rfl
    · rintro ρ h2 ⟨rfl, t2, t3, rfl⟩
      rw [show ((w.ls.map Ln.gs).take (w.ls.map Ln.d).length) = w.ls.map Ln.gs by rw [List.take_of_length_le (by simp)], ← List.flatten_append]
      have hb := big (gsAll w) (fun x m => m) og.2
      repeat kct_strs
      refine .mk (groups_sset (xs := (gsAll w).flatten) (by omega) fun x m => ?_) ?_
      · obtain ⟨y, ym, xm⟩ := List.mem_flatten.mp m
        exact (og.1 y ym).2 x xm
      · repeat kct_strs
        exact ⟨rfl, rfl⟩
end
section
variable {fns : List (String × Fn)} {k : Nat} {h0 h : Hs} {n T : Nat} {r : List D} {P : D → Hs → Prop} {w : Wv}
theorem up_snoc {xs : List Nat} {x : Nat} (u : Up xs) (h : ∀ y ∈ xs, y < x) : Up (xs ++ [x]) := List.pairwise_append.mpr ⟨u, List.pairwise_singleton _ _, fun a am b bm => by rw [List.mem_singleton.mp bm]; exact h a am⟩
theorem lfalls_wT (hk : fns.lookup "_law_take" = some takeFn) (hf : fns.lookup "_law_falls" = some lfallsFn) (o : w.Fit) (b : Bx h0 n r T h) (hT : T < 2 ^ 30) (q : ∀ (f : Fa) h', f.Ok w → Bx h0 n r (T + 101) h' → P f.d h') : WC (callF fns (k + 2)) "_law_falls" [.ref n, w.d] h P := by
  refine c_def hf rfl ?_
  show WS _ lfallsFn.body [_, _, _, _, _, _, _, _, _] _ _
  unfold lfallsFn
  have hlim : lim = 4000000 := rfl
  have oh := o.h1
  have ol := o.l1
  repeat kct_strs
  refine take_w hk b (by decide) (by decide) (by omega) fun way h1 hway b1 => ?_
  repeat kct_strs
  refine s_for ?_
  repeat kct_strs
  refine x_tup (z := w.hd) rfl ?_
  unfold Wv.hd
  repeat kct_strs
  rw [List.length_map]
  refine ⟨by omega, by omega, fun i ρ h' => Bx h0 n r (T + 1 + i) h' ∧ ∃ (hs : List Nat) (s5 s6 s7 s8 : Sl), Up hs ∧ (∀ x ∈ hs, x < i) ∧ ρ = [.val (.ref n), .val w.d, .val (nD way), .own (hs.map nD), .own [], s5, s6, s7, s8], ⟨b1, [], _, _, _, _, List.Pairwise.nil, (fun _ m => nomatch m), rfl⟩, ?_, ?_⟩
  · rintro i d ρ h2 ei ⟨b2, hs, s5, s6, s7, s8, u, hu, rfl⟩
    obtain ⟨hi, rfl⟩ := rng_at0 ei
    rw [Int.toNat_natCast] at hi
    have hl := up_len u hu
    have go : ∀ (z : Bool) (h3 : Hs), Bx h0 n r (T + 1 + (i + 1)) h3 → OU .extend (hs.map nD) [.lst (if z = true then [nD i] else [])] fun r_1 => WS (callF fns (k + 1)) [] [.val (.ref n), .val w.d, .val (nD way), .own r_1.1, .own [], .val (nD i), s6, s7, s8] h3
        (LpE (fun ρ h' => Bx h0 n r (T + 1 + (i + 1)) h' ∧ ∃ (hs : List Nat) (s5 s6 s7 s8 : Sl), Up hs ∧ (∀ x ∈ hs, x < i + 1) ∧ ρ = [.val (.ref n), .val w.d, .val (nD way), .own (hs.map nD), .own [], s5, s6, s7, s8])
          (Seq (callF fns (k + 1)) [.fors (.tp [6, 7]) (.enum (.idx (.var 1) (.int 1))) [.fors (.nm 8) (.rng (.idx (.var 7) (.int 4))) [.mut .extend 4 [(.bin .mul (.lst [(.tup [(.var 6), (.var 8)])]) (.bi .int [(.both true [(.cmp .gt (.var 2) (.int 0)), (.cmp .eq (.call "_law_take" [(.var 0), (.int 4)]) (.int 0))])]))]]], .ret (.tup [(.bi .tuple [(.bor 3)]), (.bi .tuple [(.bor 4)])])] (Ret P))) := fun z h3 b3 => by
      refine o_ext (by rw [List.length_map]; split <;> simp <;> omega) ?_
      repeat kct_strs
      refine ⟨b3, hs ++ (if z = true then [i] else []), .val (nD i), s6, s7, s8, ?_, fun x m => ?_, ?_⟩
      · cases z with
        | true => exact up_snoc u hu
        | false => simpa using u
      · rcases List.mem_append.mp m with m | m
        · have := hu x m; omega
        · cases z with
          | true => have := List.mem_singleton.mp m; omega
          | false => cases m
      · rw [List.map_append]
        cases z <;> rfl
    refine .mk rfl ?_
    simp only [List.set_cons_zero, List.set_cons_succ]
    repeat kct_strs
    refine dec2a (fun c => ?_) fun c => ?_
    · repeat kct_strs
      refine take_w hk b2 (by decide) (by decide) (by omega) fun z h3 _ b3 => ?_
      repeat kct_strs
      refine o_mulB ?_
      repeat kct_strs
      exact go _ h3 (b3.mono (by omega))
    · repeat kct_strs
      refine o_mulB ?_
      repeat kct_strs
      exact go _ h2 (b2.mono (by omega))
  · rintro ρ h2 ⟨b2, hs, s5, s6, s7, s8, u, hu, rfl⟩
    rw [rngL_len, Int.toNat_natCast] at b2 hu
    refine s_for ?_
    repeat kct_strs
    refine x_tup (z := w.ld) rfl ?_
    unfold Wv.ld
    repeat kct_strs
    refine ⟨fun i ρ h' => ∃ (ss : List (Nat × Nat)) (s5 s6 s7 s8 : Sl), Bx h0 n r (T + 1 + w.hs.length + 4 * i) h' ∧ ss.length ≤ 4 * i ∧ ss.Pairwise ltP ∧ (∀ p ∈ ss, IsS w.ls p ∧ p.1 < i) ∧ ρ = [.val (.ref n), .val w.d, .val (nD way), .own (hs.map nD), .own (ss.map sD), s5, s6, s7, s8],
      ⟨[], _, _, _, _, b2, by simp, List.Pairwise.nil, (fun _ m => nomatch m), rfl⟩, ?_, ?_⟩
    · rintro i d ρ h3 ei ⟨ss, t5, t6, t7, t8, b3, sl, su, sm, rfl⟩
      obtain ⟨hi, e⟩ := enum_get ei
      rw [List.length_map] at hi
      subst e
      rw [List.getElem_map]
      have en : w.ls[i]? = some w.ls[i] := List.getElem?_eq_getElem hi
      have lo := o.l2 _ (List.getElem_mem hi)
      generalize w.ls[i] = ln at en lo
      have ls4 := lo.s2
      refine .mk rfl ?_
      simp only [List.set_cons_zero, List.set_cons_succ]
      refine s_for ?_
      repeat kct_strs
      refine x_tup (y := .int 4) (z := nD ln.str) rfl ?_
      refine ⟨_, rfl, by omega, by omega, fun j ρ h' => ∃ (ss : List (Nat × Nat)) (s8 : Sl), Bx h0 n r (T + 1 + w.hs.length + 4 * i + j) h' ∧ ss.length ≤ 4 * i + j ∧ ss.Pairwise ltP ∧ (∀ p ∈ ss, IsS w.ls p ∧ (p.1 < i ∨ (p.1 = i ∧ p.2 < j))) ∧ ρ = [.val (.ref n), .val w.d, .val (nD way), .own (hs.map nD), .own (ss.map sD), t5, .val (nD i), .val ln.d, s8],
        ⟨ss, t8, b3, sl, su, fun p m => ⟨(sm p m).1, .inl (sm p m).2⟩, rfl⟩, ?_, ?_⟩
      · rintro j d ρ h4 ej ⟨s', u8, b4, sl', su', sm', rfl⟩
        obtain ⟨hj, rfl⟩ := rng_at0 ej
        rw [Int.toNat_natCast] at hj
        have go : ∀ (z : Bool) (h5 : Hs), Bx h0 n r (T + 1 + w.hs.length + 4 * i + (j + 1)) h5 → ∃ (ss : List (Nat × Nat)) (s8 : Sl), Bx h0 n r (T + 1 + w.hs.length + 4 * i + (j + 1)) h5 ∧ ss.length ≤ 4 * i + (j + 1) ∧ ss.Pairwise ltP ∧ (∀ p ∈ ss, IsS w.ls p ∧ (p.1 < i ∨ (p.1 = i ∧ p.2 < j + 1))) ∧
            [.val (.ref n), .val w.d, .val (nD way), .own (hs.map nD), .own (s'.map sD ++ (if z = true then [.tup [nD i, nD j]] else [])), t5, .val (nD i), .val ln.d, .val (nD j)] = [Sl.val (.ref n), .val w.d, .val (nD way), .own (hs.map nD), .own (ss.map sD), t5, .val (nD i), .val ln.d, s8] := fun z h5 b5 => by
          refine ⟨s' ++ (if z = true then [(i, j)] else []), .val (nD j), b5, ?_, ?_, fun p m => ?_, ?_⟩
          · rw [List.length_append]
            cases z <;> simp <;> omega
          · cases z with
            | true =>
              refine List.pairwise_append.mpr ⟨su', List.pairwise_singleton _ _, fun a am b bm => ?_⟩
              rw [List.mem_singleton.mp bm]
              rcases (sm' a am).2 with q | ⟨q1, q2⟩
              · exact .inl q
              · exact .inr ⟨q1, q2⟩
            | false => simpa using su'
          · rcases List.mem_append.mp m with m | m
            · obtain ⟨x, y⟩ := sm' p m
              exact ⟨x, by omega⟩
            · cases z with
              | true =>
                rw [List.mem_singleton.mp m]
                exact ⟨⟨ln, en, hj⟩, .inr ⟨rfl, Nat.lt_succ_self _⟩⟩
              | false => cases m
          · rw [List.map_append]
            cases z <;> rfl
        refine .mk rfl ?_
        simp only [List.set_cons_zero, List.set_cons_succ]
        repeat kct_strs
        refine dec2a (fun c => ?_) fun c => ?_
        · repeat kct_strs
          refine take_w hk b4 (by decide) (by decide) (by omega) fun z h5 _ b5 => ?_
          repeat kct_strs
          refine o_mulB ?_
          repeat kct_strs
          refine o_ext (by rw [List.length_map]; split <;> simp <;> omega) ?_
          repeat kct_strs
          exact go _ h5 (b5.mono (by omega))
        · repeat kct_strs
          refine o_mulB ?_
          repeat kct_strs
          refine o_ext (by rw [List.length_map]; split <;> simp <;> omega) ?_
          repeat kct_strs
          exact go _ h4 (b4.mono (by omega))
      · rintro ρ h4 ⟨s', u8, b4, sl', su', sm', rfl⟩
        rw [rngL_len, Int.toNat_natCast] at b4 sl' sm'
        repeat kct_strs
        exact ⟨s', t5, .val (nD i), .val ln.d, u8, b4.mono (by omega), by omega, su', fun p m => ⟨(sm' p m).1, by have := (sm' p m).2; omega⟩, rfl⟩
    · rintro ρ h3 ⟨ss, t5, t6, t7, t8, b3, sl, su, sm, rfl⟩
      have el : (pairs (rngL 0 (w.ls.map Ln.d).length) (w.ls.map Ln.d)).length = w.ls.length := by
        unfold pairs
        rw [List.length_zipWith, rngL_len]
        simp
      rw [el] at b3 sl sm
      repeat kct_strs
      show P _ _
      exact q ⟨hs, ss⟩ h3 ⟨u, hu, su, fun p m => (sm p m).1, by show ss.length ≤ 80; omega⟩ (b3.mono (by omega))
theorem lfalls_w (F : DrawFns fns) (hf : fns.lookup "_law_falls" = some lfallsFn) (o : w.Fit) (b : Bx h0 n r T h) (hT : T < 2 ^ 30) (q : ∀ (f : Fa) h', f.Ok w → Bx h0 n r (T + 101) h' → P f.d h') : WC (callF fns (k + 2)) "_law_falls" [.ref n, w.d] h P := lfalls_wT F.take hf o b hT q
end
end Ev

namespace Ev
local macro_rules | `(tactic| kct_strs) => `(tactic| first | refine w_var rfl ?_ | refine w_int ?_ | refine w_bl ?_ | refine w_str ?_ | refine w_non ?_ | refine w_bor rfl ?_ | refine w_glob ?_ | refine w_bin ?_ | refine w_cmp ?_ | refine w_call ?_ | refine w_pcall ?_ | refine w_dnew ?_ | refine w_dnew1 ?_ | refine w_dget ?_ | refine w_din ?_ | refine w_dget2 ?_ | refine s_dput ?_ | refine w_rev ?_ | refine w_trng ?_ | refine w_lrng ?_ | refine w_cons ?_ | refine w_nil ?_ | refine w_bi ?_ | refine w_idx ?_ | refine w_tup ?_ | refine w_lst ?_ | refine w_isin ?_ | refine w_both ?_ | refine w_and ?_ | refine w_and1 ?_ | refine w_not ?_ | refine w_ife ?_ | refine w_sl ?_ | refine w_sset ?_ | refine w_sm ?_ | refine w_cmp2 ?_ | refine w_neg ?_ | refine w_alloc ?_ | refine w_over ?_ | refine w_rng ?_ | refine w_rng2 ?_ | refine w_enum ?_ | refine w_zip ?_ | refine s_nil ?_ | refine s_ret ?_ | refine s_expr ?_ | refine s_reto rfl ?_ | (refine s_retf ?_) | refine s_par ?_ | (refine s_asg ?_; simp only [List.set_cons_zero, List.set_cons_succ]) | refine s_asgT ?_ | refine s_ife ?_ | refine s_cset ?_ | (refine s_own rfl ?_; simp only [List.set_cons_zero, List.set_cons_succ]) | (refine s_mut rfl ?_; simp only [List.set_cons_zero, List.set_cons_succ]) | (refine s_frz rfl ?_; simp only [List.set_cons_zero, List.set_cons_succ]) | refine s_brk ?_ | refine s_cnt ?_ | refine s_pas ?_ | refine WB.mk ?_ | refine o_add ?_ | refine o_sub ?_ | refine o_lt ?_ | refine o_gt ?_ | refine o_le ?_ | refine o_ge ?_ | refine o_eq ?_ | refine o_ne ?_ | refine o_eqb ?_ | refine o_neb ?_ | refine o_isn ?_ | refine o_notn ?_ | refine o_isnb ?_ | refine o_notnb ?_ | refine o_lenL ?_ | refine o_lenT ?_ | refine o_lenS ?_ | refine o_lenX ?_ | refine o_abs ?_ | refine o_min ?_ | refine o_intb ?_ | refine o_listL ?_ | refine o_listT ?_ | refine o_tupL ?_ | refine o_tupT ?_ | refine ⟨Nat.le_of_ble_eq_true rfl, ?_⟩ | refine knT ?_ | refine knF ?_ | refine knTT ?_ | refine knFF ?_ | refine knTF ?_ | refine knFT ?_ | refine o_ty rfl ?_ | (refine o_bind rfl ?_; simp only [List.set_cons_zero, List.set_cons_succ]) | refine o_cutL ?_ | refine o_cutT ?_ | refine o_optX rfl ?_ | refine o_items rfl ?_ | (refine o_setPar rfl ?_; simp only [List.set_cons_zero, List.set_cons_succ]) | refine o_rev ?_ | refine o_revT ?_ | refine o_neg ?_ | refine o_negB ?_ | refine o_addB ?_ | refine o_subB ?_ | refine ⟨Or.inl rfl, ?_⟩ | refine ⟨Or.inr rfl, ?_⟩ | refine o_over rfl ?_ | refine o_alloc rfl ?_ | refine o_modL rfl ?_ | refine o_fdivL rfl ?_ | refine ⟨_, rfl, ?_⟩)
open PySem L2
theorem nodup_len : ∀ {n : Nat} {l : List Nat}, l.Nodup → (∀ x ∈ l, x < n) → l.length ≤ n
  | 0, [], _, _ => Nat.le_refl _
  | 0, x :: _, _, h => absurd (h x List.mem_cons_self) (Nat.not_lt_zero _)
  | n + 1, l, nd, h => by
    have h1 := nodup_len (n := n) (l := l.filter fun x => !decide (x = n)) (nd.filter _) fun x m => by
      have m := List.mem_filter.mp m
      have := h x m.1
      have q : x ≠ n := by simpa using m.2
      omega
    have h2 : (l.filter fun x => decide (x = n)).length ≤ 1 := by
      have nd2 : (l.filter fun x => decide (x = n)).Nodup := nd.filter _
      have al : ∀ x ∈ l.filter fun x => decide (x = n), x = n := fun x m => of_decide_eq_true (List.mem_filter.mp m).2
      generalize (l.filter fun x => decide (x = n)) = q at nd2 al
      match q, nd2, al with
      | [], _, _ => exact Nat.zero_le _
      | [_], _, _ => exact Nat.le_refl _
      | a :: b :: r, nd2, al =>
        have e1 := al a List.mem_cons_self
        have e2 := al b (List.mem_cons_of_mem _ List.mem_cons_self)
        exact absurd (by rw [e1, ← e2]; exact List.mem_cons_self) (List.nodup_cons.mp nd2).1
    have h3 : l.length = (l.filter fun x => decide (x = n)).length + (l.filter fun x => !decide (x = n)).length := by
      clear h1 h2 h nd
      induction l with
      | nil => rfl
      | cons a r ih =>
        simp only [List.filter_cons, List.length_cons]
        by_cases q : a = n
        · rw [if_pos (decide_eq_true q), if_neg (by rw [decide_eq_true q]; simp), List.length_cons]; omega
        · rw [if_neg (by rw [decide_eq_false q]; simp), if_pos (by rw [decide_eq_false q]; rfl), List.length_cons]; omega
    omega
/-- houses come to from a house by some lines, given by their ends -/
inductive Rch (E : List (Nat × Nat)) (h : Nat) : Nat → Prop where
  | refl : Rch E h h
  | fwd {a b : Nat} : Rch E h a → (a, b) ∈ E → Rch E h b
  | bwd {a b : Nat} : Rch E h a → (b, a) ∈ E → Rch E h b
def Clo (E : List (Nat × Nat)) (S : List Nat) : Prop := ∀ p ∈ E, (p.1 ∈ S → p.2 ∈ S) ∧ (p.2 ∈ S → p.1 ∈ S)
structure Pc (E : List (Nat × Nat)) (h : Nat) (S : List Nat) : Prop where
  here : h ∈ S
  cl : Clo E S
  rc : ∀ x ∈ S, Rch E h x
theorem Pc.all {E : List (Nat × Nat)} {h : Nat} {S : List Nat} (p : Pc E h S) {x : Nat} (r : Rch E h x) : x ∈ S := by
  induction r with
  | refl => exact p.here
  | fwd _ m ih => exact (p.cl _ m).1 ih
  | bwd _ m ih => exact (p.cl _ m).2 ih
theorem Pc.same {E : List (Nat × Nat)} {h : Nat} {S T : List Nat} (p : Pc E h S) (q : Pc E h T) (x : Nat) : x ∈ S ↔ x ∈ T := ⟨fun m => q.all (p.rc x m), fun m => p.all (q.rc x m)⟩
theorem up_ext : ∀ {xs ys : List Nat}, Up xs → Up ys → (∀ x, x ∈ xs ↔ x ∈ ys) → xs = ys
  | [], [], _, _, _ => rfl
  | [], y :: ys, _, _, h => absurd ((h y).mpr List.mem_cons_self) (List.not_mem_nil)
  | x :: xs, [], _, _, h => absurd ((h x).mp List.mem_cons_self) (List.not_mem_nil)
  | x :: xs, y :: ys, hx, hy, h => by
    have hx' := List.pairwise_cons.mp hx
    have hy' := List.pairwise_cons.mp hy
    have e : x = y := by
      rcases List.mem_cons.mp ((h x).mp List.mem_cons_self) with e | m
      · exact e
      · rcases List.mem_cons.mp ((h y).mpr List.mem_cons_self) with e | m2
        · exact e.symm
        · have := hy'.1 x m
          have := hx'.1 y m2
          omega
    subst e
    rw [up_ext hx'.2 hy'.2 fun z => ⟨fun m => ?_, fun m => ?_⟩]
    · rcases List.mem_cons.mp ((h z).mp (List.mem_cons_of_mem _ m)) with e | m2
      · have := hx'.1 z m; omega
      · exact m2
    · rcases List.mem_cons.mp ((h z).mpr (List.mem_cons_of_mem _ m)) with e | m2
      · have := hy'.1 z m; omega
      · exact m2
def visit1 (x : Nat) (f : List Nat) (p : Nat × Nat) : List Nat := if (x = p.1 ∨ x = p.2) ∧ p.1 + p.2 - x ∉ f then f ++ [p.1 + p.2 - x] else f
def visit (x : Nat) (E : List (Nat × Nat)) (f : List Nat) : List Nat := E.foldl (visit1 x) f
def bfs1 (E : List (Nat × Nat)) (f : List Nat) (i : Nat) : List Nat := match f[i]? with
  | some x => visit x E f
  | none => f
def bfs (E : List (Nat × Nat)) (h k : Nat) : List Nat := (List.range k).foldl (bfs1 E) [h]
theorem bfs_succ (E : List (Nat × Nat)) (h k : Nat) : bfs E h (k + 1) = bfs1 E (bfs E h k) k := by
  unfold bfs
  rw [List.range_succ, List.foldl_append]; rfl
/-- a list of houses on the way -/
structure Fnd (n : Nat) (E : List (Nat × Nat)) (h : Nat) (f : List Nat) : Prop where
  nd : f.Nodup
  lt : ∀ x ∈ f, x < n
  rc : ∀ x ∈ f, Rch E h x
  here : h ∈ f
theorem nodup_snoc {f : List Nat} {y : Nat} (nd : f.Nodup) (h : y ∉ f) : (f ++ [y]).Nodup := by
  rw [List.nodup_append]
  exact ⟨nd, by simp, fun a m b m2 e => h (by rw [List.mem_singleton.mp m2] at e; rw [← e]; exact m)⟩
theorem Fnd.add {n : Nat} {E : List (Nat × Nat)} {h y : Nat} {f : List Nat} (F : Fnd n E h f) (hy : y ∉ f) (l : y < n) (r : Rch E h y) : Fnd n E h (f ++ [y]) where
  nd := nodup_snoc F.nd hy
  lt := fun x m => by
    rcases List.mem_append.mp m with m | m
    · exact F.lt x m
    · rw [List.mem_singleton.mp m]; exact l
  rc := fun x m => by
    rcases List.mem_append.mp m with m | m
    · exact F.rc x m
    · rw [List.mem_singleton.mp m]; exact r
  here := List.mem_append_left _ F.here
structure Gd2 (n : Nat) (E : List (Nat × Nat)) : Prop where
  lt : ∀ p ∈ E, p.1 < n ∧ p.2 < n
  ne : ∀ p ∈ E, p.1 ≠ p.2
theorem visit_ok {n : Nat} {E0 : List (Nat × Nat)} {h x : Nat} (G : Gd2 n E0) : ∀ {E : List (Nat × Nat)} {f : List Nat}, (∀ p ∈ E, p ∈ E0) → Fnd n E0 h f → x ∈ f →
    Fnd n E0 h (visit x E f) ∧ (∃ r, visit x E f = f ++ r) ∧ ∀ p ∈ E, (x = p.1 → p.2 ∈ visit x E f) ∧ (x = p.2 → p.1 ∈ visit x E f)
  | [], f, _, F, _ => ⟨F, ⟨[], by simp [visit]⟩, fun _ m => nomatch m⟩
  | p :: E, f, hE, F, hx => by
    have pm := hE p List.mem_cons_self
    have key : Fnd n E0 h (visit1 x f p) ∧ (∃ r, visit1 x f p = f ++ r) ∧ (x = p.1 → p.2 ∈ visit1 x f p) ∧ (x = p.2 → p.1 ∈ visit1 x f p) := by
      unfold visit1
      split
      · rename_i g
        have rx := F.rc x hx
        refine ⟨F.add g.2 ?_ ?_, ⟨_, rfl⟩, fun e => ?_, fun e => ?_⟩
        · have := G.lt p pm
          rcases g.1 with e | e <;> rw [e] <;> omega
        · rcases g.1 with e | e
          · have : p.1 + p.2 - x = p.2 := by omega
            rw [this]
            exact .fwd rx (by rw [e]; exact pm)
          · have : p.1 + p.2 - x = p.1 := by omega
            rw [this]
            exact .bwd rx (by rw [e]; exact pm)
        · have : p.1 + p.2 - x = p.2 := by omega
          rw [this]; simp
        · have : p.1 + p.2 - x = p.1 := by omega
          rw [this]; simp
      · rename_i g
        refine ⟨F, ⟨[], by simp⟩, fun e => ?_, fun e => ?_⟩
        · have : p.1 + p.2 - x = p.2 := by omega
          rw [this] at g
          exact Classical.byContradiction fun q => g ⟨.inl e, q⟩
        · have : p.1 + p.2 - x = p.1 := by omega
          rw [this] at g
          exact Classical.byContradiction fun q => g ⟨.inr e, q⟩
    obtain ⟨F1, ⟨r1, e1⟩, k1, k2⟩ := key
    obtain ⟨F2, ⟨r2, e2⟩, k3⟩ := visit_ok (x := x) G (fun q m => hE q (List.mem_cons_of_mem _ m)) F1 (by rw [e1]; exact List.mem_append_left _ hx)
    have ev : visit x (p :: E) f = visit x E (visit1 x f p) := rfl
    rw [ev]
    refine ⟨F2, ⟨r1 ++ r2, by rw [e2, e1, List.append_assoc]⟩, fun q m => ?_⟩
    rcases List.mem_cons.mp m with e | m
    · subst e
      exact ⟨fun e => by rw [e2]; exact List.mem_append_left _ (k1 e), fun e => by rw [e2]; exact List.mem_append_left _ (k2 e)⟩
    · exact k3 q m
theorem bfs_ok {n : Nat} {E : List (Nat × Nat)} {h : Nat} (G : Gd2 n E) (hh : h < n) : ∀ k : Nat, Fnd n E h (bfs E h k) ∧ ∀ i x, i < k → (bfs E h k)[i]? = some x → ∀ p ∈ E, (x = p.1 → p.2 ∈ bfs E h k) ∧ (x = p.2 → p.1 ∈ bfs E h k)
  | 0 => ⟨⟨by simp [bfs], fun x m => by rw [List.mem_singleton.mp (show x ∈ [h] from m)]; exact hh, fun x m => by rw [List.mem_singleton.mp (show x ∈ [h] from m)]; exact .refl, List.mem_cons_self⟩, fun i x hi => absurd hi (Nat.not_lt_zero _)⟩
  | k + 1 => by
    obtain ⟨F, c⟩ := bfs_ok G hh k
    rw [bfs_succ]
    unfold bfs1
    split
    · rename_i y ey
      obtain ⟨F2, ⟨r, er⟩, c2⟩ := visit_ok (x := y) G (fun _ m => m) F (List.mem_of_getElem? ey)
      refine ⟨F2, fun i x hi ex => ?_⟩
      have hk : k < (bfs E h k).length := by
        rcases Nat.lt_or_ge k (bfs E h k).length with q | q
        · exact q
        · rw [List.getElem?_eq_none q] at ey; cases ey
      rw [er, List.getElem?_append_left (by omega)] at ex
      rcases Nat.lt_or_ge i k with q | q
      · intro p m
        have := c i x q ex p m
        rw [er]
        exact ⟨fun e => List.mem_append_left _ (this.1 e), fun e => List.mem_append_left _ (this.2 e)⟩
      · have : i = k := by omega
        subst this
        rw [ey] at ex
        cases ex
        exact c2
    · rename_i ey
      refine ⟨F, fun i x hi ex => ?_⟩
      rcases Nat.lt_or_ge i k with q | q
      · exact c i x q ex
      · have : i = k := by omega
        subst this
        rw [ey] at ex; cases ex
theorem bfs_pc {n : Nat} {E : List (Nat × Nat)} {h : Nat} (G : Gd2 n E) (hh : h < n) : Pc E h (bfs E h n) ∧ Fnd n E h (bfs E h n) := by
  obtain ⟨F, c⟩ := bfs_ok G hh n
  have hl := nodup_len F.nd F.lt
  refine ⟨⟨F.here, fun p m => ⟨fun q => ?_, fun q => ?_⟩, F.rc⟩, F⟩
  · obtain ⟨i, hi, e⟩ := List.getElem_of_mem q
    exact (c i p.1 (by omega) (by rw [List.getElem?_eq_getElem hi, e]) p m).1 rfl
  · obtain ⟨i, hi, e⟩ := List.getElem_of_mem q
    exact (c i p.2 (by omega) (by rw [List.getElem?_eq_getElem hi, e]) p m).2 rfl
def lst1 (f : List Nat) (p : Nat × Nat) : List Nat := f ++ [p.1, p.2].filter fun e => decide (e ∉ f) && (decide (p.1 ∈ f) || decide (p.2 ∈ f))
def lpass (E : List (Nat × Nat)) (f : List Nat) : List Nat := E.foldl lst1 f
def lcl (E : List (Nat × Nat)) (h : Nat) : Nat → List Nat
  | 0 => [h]
  | k + 1 => lpass E (lcl E h k)
theorem lst1_eq {f : List Nat} {p : Nat × Nat} : lst1 f p = if p.1 ∈ f ∧ p.2 ∉ f then f ++ [p.2] else if p.2 ∈ f ∧ p.1 ∉ f then f ++ [p.1] else f := by
  unfold lst1
  by_cases a : p.1 ∈ f <;> by_cases b : p.2 ∈ f <;> simp [a, b]
theorem lpass_ok {n : Nat} {E0 : List (Nat × Nat)} {h : Nat} (G : Gd2 n E0) : ∀ {E : List (Nat × Nat)} {f : List Nat}, (∀ p ∈ E, p ∈ E0) → Fnd n E0 h f → Fnd n E0 h (lpass E f) ∧ (∃ r, lpass E f = f ++ r) ∧ (lpass E f = f → Clo E f)
  | [], f, _, F => ⟨F, ⟨[], by simp [lpass]⟩, fun _ _ m => nomatch m⟩
  | p :: E, f, hE, F => by
    have pm := hE p List.mem_cons_self
    have key : Fnd n E0 h (lst1 f p) ∧ (∃ r, lst1 f p = f ++ r) ∧ (lst1 f p = f → (p.1 ∈ f → p.2 ∈ f) ∧ (p.2 ∈ f → p.1 ∈ f)) := by
      rw [lst1_eq]
      have lp := G.lt p pm
      split
      · rename_i g
        exact ⟨F.add g.2 lp.2 (.fwd (F.rc _ g.1) pm), ⟨_, rfl⟩, fun e => by have := congrArg List.length e; simp at this⟩
      · rename_i g
        split
        · rename_i g2
          exact ⟨F.add g2.2 lp.1 (.bwd (F.rc _ g2.1) pm), ⟨_, rfl⟩, fun e => by have := congrArg List.length e; simp at this⟩
        · rename_i g2
          exact ⟨F, ⟨[], by simp⟩, fun _ => ⟨fun a => Classical.byContradiction fun b => g ⟨a, b⟩, fun a => Classical.byContradiction fun b => g2 ⟨a, b⟩⟩⟩
    obtain ⟨F1, ⟨r1, e1⟩, k1⟩ := key
    obtain ⟨F2, ⟨r2, e2⟩, k2⟩ := lpass_ok G (fun q m => hE q (List.mem_cons_of_mem _ m)) F1
    have ev : lpass (p :: E) f = lpass E (lst1 f p) := rfl
    rw [ev]
    refine ⟨F2, ⟨r1 ++ r2, by rw [e2, e1, List.append_assoc]⟩, fun e => ?_⟩
    have hr : r1 = [] ∧ r2 = [] := by
      have := congrArg List.length (e2.symm.trans e)
      rw [e1] at this
      simp only [List.length_append] at this
      exact ⟨List.eq_nil_of_length_eq_zero (by omega), List.eq_nil_of_length_eq_zero (by omega)⟩
    rw [hr.1, List.append_nil] at e1
    rw [e1] at k2 e
    intro q m
    rcases List.mem_cons.mp m with eq | m
    · rw [eq]; exact k1 e1
    · exact k2 e q m
theorem lcl_ok {n : Nat} {E : List (Nat × Nat)} {h : Nat} (G : Gd2 n E) (hh : h < n) : ∀ k : Nat, Fnd n E h (lcl E h k) ∧ (k + 1 ≤ (lcl E h k).length ∨ lpass E (lcl E h k) = lcl E h k)
  | 0 => ⟨⟨by simp [lcl], fun x m => by rw [List.mem_singleton.mp (show x ∈ [h] from m)]; exact hh, fun x m => by rw [List.mem_singleton.mp (show x ∈ [h] from m)]; exact .refl, List.mem_cons_self⟩, .inl (Nat.le_refl _)⟩
  | k + 1 => by
    obtain ⟨F, c⟩ := lcl_ok G hh k
    obtain ⟨F2, ⟨r, er⟩, _⟩ := lpass_ok G (fun _ m => m) F
    refine ⟨F2, ?_⟩
    show k + 1 + 1 ≤ (lpass E (lcl E h k)).length ∨ lpass E (lpass E (lcl E h k)) = lpass E (lcl E h k)
    rcases c with c | c
    · cases r with
      | nil =>
        rw [List.append_nil] at er
        rw [er]; exact .inr er
      | cons a r =>
        left
        rw [er, List.length_append, List.length_cons]; omega
    · rw [c]; exact .inr c
theorem lcl_pc {n : Nat} {E : List (Nat × Nat)} {h : Nat} (G : Gd2 n E) (hh : h < n) : Pc E h (lcl E h n) ∧ Fnd n E h (lcl E h n) := by
  obtain ⟨F, c⟩ := lcl_ok G hh n
  have hl := nodup_len F.nd F.lt
  have fix : lpass E (lcl E h n) = lcl E h n := by
    rcases c with c | c
    · omega
    · exact c
  exact ⟨⟨F.here, (lpass_ok G (fun _ m => m) F).2.2 fix, F.rc⟩, F⟩
end Ev

namespace Ev
local macro_rules | `(tactic| kct_strs) => `(tactic| first | refine w_var rfl ?_ | refine w_int ?_ | refine w_bl ?_ | refine w_str ?_ | refine w_non ?_ | refine w_bor rfl ?_ | refine w_glob ?_ | refine w_bin ?_ | refine w_cmp ?_ | refine w_call ?_ | refine w_pcall ?_ | refine w_dnew ?_ | refine w_dnew1 ?_ | refine w_dget ?_ | refine w_din ?_ | refine w_dget2 ?_ | refine s_dput ?_ | refine w_rev ?_ | refine w_trng ?_ | refine w_lrng ?_ | refine w_cons ?_ | refine w_nil ?_ | refine w_bi ?_ | refine w_idx ?_ | refine w_tup ?_ | refine w_lst ?_ | refine w_isin ?_ | refine w_both ?_ | refine w_and ?_ | refine w_and1 ?_ | refine w_not ?_ | refine w_ife ?_ | refine w_sl ?_ | refine w_sset ?_ | refine w_sm ?_ | refine w_cmp2 ?_ | refine w_neg ?_ | refine w_alloc ?_ | refine w_over ?_ | refine w_rng ?_ | refine w_rng2 ?_ | refine w_enum ?_ | refine w_zip ?_ | refine s_nil ?_ | refine s_ret ?_ | refine s_expr ?_ | refine s_reto rfl ?_ | (refine s_retf ?_) | refine s_par ?_ | (refine s_asg ?_; simp only [List.set_cons_zero, List.set_cons_succ]) | refine s_asgT ?_ | refine s_ife ?_ | refine s_cset ?_ | (refine s_own rfl ?_; simp only [List.set_cons_zero, List.set_cons_succ]) | (refine s_mut rfl ?_; simp only [List.set_cons_zero, List.set_cons_succ]) | (refine s_frz rfl ?_; simp only [List.set_cons_zero, List.set_cons_succ]) | refine s_brk ?_ | refine s_cnt ?_ | refine s_pas ?_ | refine WB.mk ?_ | refine o_add ?_ | refine o_sub ?_ | refine o_lt ?_ | refine o_gt ?_ | refine o_le ?_ | refine o_ge ?_ | refine o_eq ?_ | refine o_ne ?_ | refine o_eqb ?_ | refine o_neb ?_ | refine o_isn ?_ | refine o_notn ?_ | refine o_isnb ?_ | refine o_notnb ?_ | refine o_lenL ?_ | refine o_lenT ?_ | refine o_lenS ?_ | refine o_lenX ?_ | refine o_abs ?_ | refine o_min ?_ | refine o_intb ?_ | refine o_listL ?_ | refine o_listT ?_ | refine o_tupL ?_ | refine o_tupT ?_ | refine ⟨Nat.le_of_ble_eq_true rfl, ?_⟩ | refine knT ?_ | refine knF ?_ | refine knTT ?_ | refine knFF ?_ | refine knTF ?_ | refine knFT ?_ | refine o_ty rfl ?_ | (refine o_bind rfl ?_; simp only [List.set_cons_zero, List.set_cons_succ]) | refine o_cutL ?_ | refine o_cutT ?_ | refine o_optX rfl ?_ | refine o_items rfl ?_ | (refine o_setPar rfl ?_; simp only [List.set_cons_zero, List.set_cons_succ]) | refine o_rev ?_ | refine o_revT ?_ | refine o_neg ?_ | refine o_negB ?_ | refine o_addB ?_ | refine o_subB ?_ | refine ⟨Or.inl rfl, ?_⟩ | refine ⟨Or.inr rfl, ?_⟩ | refine o_over rfl ?_ | refine o_alloc rfl ?_ | refine o_modL rfl ?_ | refine o_fdivL rfl ?_ | refine ⟨_, rfl, ?_⟩)
open PySem L2
theorem encD_int (i : Int) : encD (.int i) = .int i := by
  unfold encD
  rw [show pyOf (.int i) = some (.int i) from Dt.int.py]
  rfl
theorem leD_int (i j : Int) : leD (.int i) (.int j) = decide (i ≤ j) := by
  show (!PySem.W.dataLt (encD (.int j)) (encD (.int i))) = _
  rw [encD_int, encD_int, PySem.W.dataLt_int]
  by_cases h : i ≤ j
  · rw [decide_eq_true h, decide_eq_false (by omega)]; rfl
  · rw [decide_eq_false h, decide_eq_true (by omega)]; rfl
theorem sort_nats {xs : List Nat} (nd : xs.Nodup) : (xs.map nD).mergeSort leD = (srtN xs).map nD := by
  have perm := List.mergeSort_perm (xs.map nD) leD
  obtain ⟨ys, ey, _⟩ := lift_map (f := nD) (p := fun _ => True) (ys := (xs.map nD).mergeSort leD) fun y m => by
    obtain ⟨n, _, rfl⟩ := List.mem_map.mp (perm.mem_iff.mp m)
    exact ⟨n, rfl, trivial⟩
  rw [ey]
  rw [ey] at perm
  have mem : ∀ n, n ∈ ys ↔ n ∈ xs := fun n => by
    have h1 : nD n ∈ ys.map nD ↔ n ∈ ys := ⟨fun m => by
      obtain ⟨k, km, e⟩ := List.mem_map.mp m
      have := D.int.inj e
      have : k = n := by omega
      rw [← this]; exact km, fun m => List.mem_map.mpr ⟨n, m, rfl⟩⟩
    have h2 : nD n ∈ xs.map nD ↔ n ∈ xs := ⟨fun m => by
      obtain ⟨k, km, e⟩ := List.mem_map.mp m
      have := D.int.inj e
      have : k = n := by omega
      rw [← this]; exact km, fun m => List.mem_map.mpr ⟨n, m, rfl⟩⟩
    rw [← h1, ← h2]
    exact perm.mem_iff
  have ndx : (xs.map nD).Nodup := by
    rw [List.Nodup, List.pairwise_map]
    exact nd.imp fun {a b} h e => h (by have := D.int.inj e; omega)
  have ndy : ys.Nodup := by
    have h3 : (ys.map nD).Nodup := perm.nodup_iff.mpr ndx
    rw [List.Nodup, List.pairwise_map] at h3
    exact h3.imp fun {a b} h e => h (by rw [e])
  have srt : ((xs.map nD).mergeSort leD).Pairwise fun a b => leD a b = true := PySem.W.sort_pairwise (PySem.W.sortLe_total _ false _) (xs.map nD)
  rw [ey, List.pairwise_map] at srt
  have up : Up ys := by
    have := srt.and ndy
    exact this.imp fun {a b} h => by
      have h1 := h.1
      rw [leD_int, decide_eq_true_eq] at h1
      have h2 := h.2
      omega
  rw [up_ext up up_srtN fun n => by rw [mem n, mem_srtN]]

theorem pyL_nats (xs : List Nat) : mapO pyOf (xs.map nD) = some (xs.map fun n : Nat => PyData.int n) := by
  induction xs with
  | nil => rfl
  | cons x r ih =>
    simp only [List.map_cons, mapO, ih]
    rw [show pyOf (nD x) = some (.int x) from Dt.int.py]
theorem o_sortN {xs : List Nat} {P : D → Prop} (nd : xs.Nodup) (p : P (.lst ((srtN xs).map nD))) : OI .sorted [.lst (xs.map nD)] P := by
  refine .mk ?_ p
  show sortD (xs.map nD) = _
  unfold sortD
  rw [pyL_nats]
  have g : (allAlike (xs.map fun n : Nat => PyData.int n) && (xs.map fun n : Nat => PyData.int n).all notNone && ((xs.map fun n : Nat => PyData.int n).all tupNE || (xs.map fun n : Nat => PyData.int n).all noTup)) = true := by
    unfold allAlike
    rw [Bool.and_eq_true, Bool.and_eq_true, Bool.or_eq_true]
    refine ⟨⟨List.all_eq_true.mpr fun a am => List.all_eq_true.mpr fun b bm => ?_, List.all_eq_true.mpr fun a am => ?_⟩, .inr (List.all_eq_true.mpr fun a am => ?_)⟩
    · obtain ⟨n, _, rfl⟩ := List.mem_map.mp am
      obtain ⟨m, _, rfl⟩ := List.mem_map.mp bm
      rfl
    · obtain ⟨n, _, rfl⟩ := List.mem_map.mp am
      rfl
    · obtain ⟨n, _, rfl⟩ := List.mem_map.mp am
      rfl
  simp only
  rw [if_pos g, sort_nats nd]
/-- the ends of some lines -/
def endsL (w : Wv) (ls : List Nat) : List (Nat × Nat) := ls.filterMap fun l => (w.ls[l]?).map fun ln => (ln.one, ln.other)
/-- lines that there are -/
def LsOk (w : Wv) (ls : List Nat) : Prop := ls.length ≤ 100 ∧ ∀ l ∈ ls, l < w.ls.length
def pieceL (w : Wv) (ls : List Nat) (x : Nat) : List Nat := srtN (bfs (endsL w ls) x w.hs.length)
theorem ends_gd {w : Wv} (f : w.Fit) (ls : List Nat) : Gd2 w.hs.length (endsL w ls) := by
  have key : ∀ p ∈ endsL w ls, p.1 < p.2 ∧ p.2 < w.hs.length := fun p m => by
    obtain ⟨l, _, e⟩ := List.mem_filterMap.mp m
    obtain ⟨ln, e2, rfl⟩ := Option.map_eq_some_iff.mp e
    have o := f.l2 ln (List.mem_of_getElem? e2)
    exact ⟨o.a, o.b⟩
  exact ⟨fun p m => by have := key p m; omega, fun p m => by have := key p m; omega⟩
theorem ends_take {w : Wv} {ls : List Nat} {i l : Nat} {ln : Ln} (e : ls[i]? = some l) (e2 : w.ls[l]? = some ln) : endsL w (ls.take (i + 1)) = endsL w (ls.take i) ++ [(ln.one, ln.other)] := by
  unfold endsL
  rw [List.take_succ, e, List.filterMap_append]
  show _ ++ List.filterMap _ [l] = _
  simp only [List.filterMap_cons, e2, Option.map_some, List.filterMap_nil]
theorem pieceL_law {w : Wv} (f : w.Fit) (ls : List Nat) {x : Nat} (hx : x < w.hs.length) : srtN (lcl (endsL w ls) x w.hs.length) = pieceL w ls x := by
  have a := (lcl_pc (ends_gd f ls) hx).1
  have b := (bfs_pc (ends_gd f ls) hx).1
  exact up_ext up_srtN up_srtN fun y => by unfold pieceL; rw [mem_srtN, mem_srtN]; exact a.same b y
def pieceFn : Fn := ⟨3, 9, [.asg (.nm 3) (.lst [(.var 2)]), .fors (.nm 4) (.rng (.bi .len [(.idx (.var 0) (.int 0))])) [.ife (.cmp .lt (.var 4) (.bi .len [(.var 3)])) [.fors (.nm 5) (.over (.var 1)) [.asg (.tp [6, 7]) (.sl (.idx (.idx (.var 0) (.int 1)) (.var 5)) .non (.int 2)), .ife (.cmp .inn (.idx (.var 3) (.var 4)) (.tup [(.var 6), (.var 7)])) [.asg (.nm 8) (.bin .sub (.bin .add (.var 6) (.var 7)) (.idx (.var 3) (.var 4))), .asg (.nm 3) (.bin .add (.var 3) (.bin .mul (.lst [(.var 8)]) (.bi .int [(.cmp .nin (.var 8) (.var 3))])))] []]] []], .retf (.bi .sorted [(.var 3)])], true⟩
def lpieceFn : Fn := ⟨3, 8, [.own 3 (.lst [(.var 2)]), .fors (.nm 4) (.over (.idx (.var 0) (.int 0))) [.fors (.nm 5) (.over (.var 1)) [.asg (.nm 6) (.sl (.idx (.idx (.var 0) (.int 1)) (.var 5)) .non (.int 2)), .mut .extend 3 [(.comp [7] (.nm 7) (.over (.var 6)) (.both true [(.cmp .nin (.var 7) (.bor 3)), (.both false [(.cmp .inn (.idx (.var 6) (.int 0)) (.bor 3)), (.cmp .inn (.idx (.var 6) (.int 1)) (.bor 3))])]) (.var 7))]]], .retf (.bi .sorted [(.bor 3)])], true⟩
section
variable {fns : List (String × Fn)} {k : Nat} {h : Hs} {w : Wv}
theorem nat_at {xs : List Nat} {i : Nat} {d : D} (e : (xs.map nD)[i]? = some d) : ∃ x, xs[i]? = some x ∧ d = nD x := by
  rw [List.getElem?_map] at e
  cases q : xs[i]? with
  | none => rw [q] at e; cases e
  | some l => rw [q] at e; exact ⟨l, rfl, (Option.some.inj e).symm⟩
theorem piece_e (hf : fns.lookup "piece_from" = some pieceFn) (f : w.Fit) {ls : List Nat} (lo : LsOk w ls) {x : Nat} (hx : x < w.hs.length) : callF fns (k + 1) "piece_from" [w.d, .lst (ls.map nD), nD x] h = some (.lst ((pieceL w ls x).map nD), h) := by
  refine WC.eq (c_defF hf rfl ?_)
  show WS _ pieceFn.body [_, _, _, _, _, _, _, _, _] _ _
  unfold pieceFn
  have hlim : lim = 4000000 := rfl
  have h1 := f.h1
  have G := ends_gd f ls
  repeat kct_strs
  refine s_for ?_
  repeat kct_strs
  refine x_tup (z := w.hd) rfl ?_
  unfold Wv.hd
  repeat kct_strs
  refine ⟨by rw [List.length_map]; omega, by rw [List.length_map]; omega, fun i ρ h' => h' = h ∧ ∃ s4 s5 s6 s7 s8, ρ = [.val w.d, .val (.lst (ls.map nD)), .val (nD x), .val (.lst ((bfs (endsL w ls) x i).map nD)), s4, s5, s6, s7, s8], ⟨rfl, _, _, _, _, _, rfl⟩, ?_, ?_⟩
  · rintro i d ρ h3 ei ⟨rfl, s4, s5, s6, s7, s8, rfl⟩
    obtain ⟨hi, rfl⟩ := rng_at0 ei
    obtain ⟨F, _⟩ := bfs_ok G hx i
    have fl := nodup_len F.nd F.lt
    refine .mk rfl ?_
    simp only [List.set_cons_zero, List.set_cons_succ]
    repeat kct_strs
    refine dec2 (fun c => ?_) fun c => ?_
    · rw [List.length_map] at c
      have hc : i < (bfs (endsL w ls) x i).length := by omega
      have ey : (bfs (endsL w ls) x i)[i]? = some (bfs (endsL w ls) x i)[i] := List.getElem?_eq_getElem hc
      generalize (bfs (endsL w ls) x i)[i] = y at ey
      have vis : ∀ j, Fnd w.hs.length (endsL w ls) x (visit y (endsL w (ls.take j)) (bfs (endsL w ls) x i)) ∧ ∃ r, visit y (endsL w (ls.take j)) (bfs (endsL w ls) x i) = bfs (endsL w ls) x i ++ r := fun j => by
        have := visit_ok (x := y) G (E := endsL w (ls.take j)) (fun p m => by
          obtain ⟨l, lm, e⟩ := List.mem_filterMap.mp m
          exact List.mem_filterMap.mpr ⟨l, List.mem_of_mem_take lm, e⟩) F (List.mem_of_getElem? ey)
        exact ⟨this.1, this.2.1⟩
      refine s_for ?_
      repeat kct_strs
      refine ⟨fun j ρ h' => h' = h3 ∧ ∃ s5 s6 s7 s8, ρ = [.val w.d, .val (.lst (ls.map nD)), .val (nD x), .val (.lst ((visit y (endsL w (ls.take j)) (bfs (endsL w ls) x i)).map nD)), .val (nD i), s5, s6, s7, s8], ⟨rfl, _, _, _, _, rfl⟩, ?_, ?_⟩
      · rintro j d ρ h4 ej ⟨rfl, t5, t6, t7, t8, rfl⟩
        obtain ⟨l, el, rfl⟩ := nat_at ej
        have hl := lo.2 l (List.mem_of_getElem? el)
        have eln : w.ls[l]? = some w.ls[l] := List.getElem?_eq_getElem hl
        generalize w.ls[l] = ln at eln
        obtain ⟨F2, r, er⟩ := vis j
        have lnok := f.l2 ln (List.mem_of_getElem? eln)
        have eyj : idxD (.lst ((visit y (endsL w (ls.take j)) (bfs (endsL w ls) x i)).map nD)) (nD i) = some (nD y) := by
          have : (visit y (endsL w (ls.take j)) (bfs (endsL w ls) x i))[i]? = some y := by rw [er, List.getElem?_append_left hc]; exact ey
          have hlt : i < (visit y (endsL w (ls.take j)) (bfs (endsL w ls) x i)).length := by
            rw [er, List.length_append]; omega
          rw [ixL (by rw [List.length_map]; exact hlt), List.getElem_map]
          rw [List.getElem?_eq_getElem hlt] at this
          rw [Option.some.inj this]
        have fl2 := nodup_len F2.nd F2.lt
        have stepE : visit y (endsL w (ls.take (j + 1))) (bfs (endsL w ls) x i) = visit1 y (visit y (endsL w (ls.take j)) (bfs (endsL w ls) x i)) (ln.one, ln.other) := by
          rw [ends_take el eln]
          unfold visit
          rw [List.foldl_append]
          rfl
        generalize visit y (endsL w (ls.take j)) (bfs (endsL w ls) x i) = cur at *
        refine .mk rfl ?_
        simp only [List.set_cons_zero, List.set_cons_succ]
        repeat kct_strs
        refine x_tup (z := w.ld) rfl ?_
        unfold Wv.ld
        repeat kct_strs
        refine x_tup (z := ln.d) (ld_at eln) ?_
        unfold Ln.d
        repeat kct_strs
        refine x_lst eyj ?_
        repeat kct_strs
        refine o_inT Dt.int ((DtN.tup (n := 1) (.cons .int (.cons .int .all))).dt (by decide)) ?_
        have eIn : ([nD ln.one, nD ln.other].any fun z => eqB z (nD y)) = decide (y = ln.one ∨ y = ln.other) := by
          simp only [List.any_cons, List.any_nil, eqB_nat, Bool.or_false]
          rw [Bool.eq_iff_iff]
          simp only [Bool.or_eq_true, decide_eq_true_eq]
          constructor
          · rintro (e | e)
            · exact .inl e.symm
            · exact .inr e.symm
          · rintro (e | e)
            · exact .inl e.symm
            · exact .inr e.symm
        rw [eIn]
        repeat kct_strs
        refine dec2 (fun q => ?_) fun q => ?_
        · repeat kct_strs
          refine x_lst eyj ?_
          repeat kct_strs
          have ef : (ln.one : Int) + (ln.other : Int) - (y : Int) = ((ln.one + ln.other - y : Nat) : Int) := by
            rcases q with q | q <;> omega
          rw [ef]
          refine o_ninL Dt.int ((dt_natsL cur).dt (by decide)) ?_
          rw [inN]
          repeat kct_strs
          refine o_mulB ?_
          refine o_addL (by rw [List.length_map]; split <;> simp <;> omega) ?_
          repeat kct_strs
          rw [stepE]
          have ev : visit1 y cur (ln.one, ln.other) = cur ++ (if (!decide (ln.one + ln.other - y ∈ cur)) = true then [ln.one + ln.other - y] else []) := by
            unfold visit1
            by_cases m : ln.one + ln.other - y ∈ cur
            · rw [if_neg (fun z => z.2 m), decide_eq_true m]; simp
            · rw [if_pos ⟨q, m⟩, decide_eq_false m]; rfl
          have em : List.map nD (if (!decide (ln.one + ln.other - y ∈ cur)) = true then [ln.one + ln.other - y] else []) = if (!decide (ln.one + ln.other - y ∈ cur)) = true then [nD (ln.one + ln.other - y)] else [] := by split <;> rfl
          rw [ev, List.map_append, em]
          exact ⟨rfl, _, _, _, _, rfl⟩
        · repeat kct_strs
          rw [stepE]
          have ev : visit1 y cur (ln.one, ln.other) = cur := by
            unfold visit1
            rw [if_neg (fun z => q z.1)]
          rw [ev]
          exact ⟨rfl, _, _, _, _, rfl⟩
      · rintro ρ h4 ⟨rfl, t5, t6, t7, t8, rfl⟩
        repeat kct_strs
        rw [List.length_map, List.take_length, bfs_succ]
        unfold bfs1
        rw [ey]
        exact ⟨rfl, _, _, _, _, _, rfl⟩
    · rw [List.length_map] at c
      repeat kct_strs
      rw [bfs_succ]
      unfold bfs1
      rw [List.getElem?_eq_none (by omega)]
      exact ⟨rfl, _, _, _, _, _, rfl⟩
  · rintro ρ h3 ⟨rfl, s4, s5, s6, s7, s8, rfl⟩
    have el : (rngL 0 ((w.hs.map fun ds => D.tup (ds.map nD)).length : Int).toNat).length = w.hs.length := by
      rw [rngL_len, List.length_map]; omega
    rw [el]
    repeat kct_strs
    exact o_sortN (bfs_pc G hx).2.nd ⟨.inl rfl, rfl, rfl⟩
theorem lpiece_e (hf : fns.lookup "_law_piece_of" = some lpieceFn) (f : w.Fit) {ls : List Nat} (lo : LsOk w ls) {x : Nat} (hx : x < w.hs.length) : callF fns (k + 1) "_law_piece_of" [w.d, .lst (ls.map nD), nD x] h = some (.lst ((pieceL w ls x).map nD), h) := by
  refine WC.eq (c_defF hf rfl ?_)
  show WS _ lpieceFn.body [_, _, _, _, _, _, _, _] _ _
  unfold lpieceFn
  have hlim : lim = 4000000 := rfl
  have h1 := f.h1
  have G := ends_gd f ls
  repeat kct_strs
  refine s_for ?_
  repeat kct_strs
  refine x_tup (z := w.hd) rfl ?_
  unfold Wv.hd
  repeat kct_strs
  refine ⟨fun i ρ h' => h' = h ∧ ∃ s4 s5 s6 s7, ρ = [.val w.d, .val (.lst (ls.map nD)), .val (nD x), .own ((lcl (endsL w ls) x i).map nD), s4, s5, s6, s7], ⟨rfl, _, _, _, _, rfl⟩, ?_, ?_⟩
  · rintro i d ρ h3 ei ⟨rfl, s4, s5, s6, s7, rfl⟩
    obtain ⟨F, _⟩ := lcl_ok G hx i
    have vis : ∀ j, Fnd w.hs.length (endsL w ls) x (lpass (endsL w (ls.take j)) (lcl (endsL w ls) x i)) := fun j =>
      (lpass_ok G (E := endsL w (ls.take j)) (fun p m => by
          obtain ⟨l, lm, e⟩ := List.mem_filterMap.mp m
          exact List.mem_filterMap.mpr ⟨l, List.mem_of_mem_take lm, e⟩) F).1
    refine .mk rfl ?_
    simp only [List.set_cons_zero, List.set_cons_succ]
    refine s_for ?_
    repeat kct_strs
    refine ⟨fun j ρ h' => h' = h3 ∧ ∃ s5 s6 s7, ρ = [.val w.d, .val (.lst (ls.map nD)), .val (nD x), .own ((lpass (endsL w (ls.take j)) (lcl (endsL w ls) x i)).map nD), .val d, s5, s6, s7], ⟨rfl, _, _, _, rfl⟩, ?_, ?_⟩
    · rintro j d2 ρ h4 ej ⟨rfl, t5, t6, t7, rfl⟩
      obtain ⟨l, el, rfl⟩ := nat_at ej
      have hl := lo.2 l (List.mem_of_getElem? el)
      have eln : w.ls[l]? = some w.ls[l] := List.getElem?_eq_getElem hl
      generalize w.ls[l] = ln at eln
      have F2 := vis j
      have lnok := f.l2 ln (List.mem_of_getElem? eln)
      have fl2 := nodup_len F2.nd F2.lt
      have stepE : lpass (endsL w (ls.take (j + 1))) (lcl (endsL w ls) x i) = lst1 (lpass (endsL w (ls.take j)) (lcl (endsL w ls) x i)) (ln.one, ln.other) := by
        rw [ends_take el eln]
        unfold lpass
        rw [List.foldl_append]
        rfl
      generalize lpass (endsL w (ls.take j)) (lcl (endsL w ls) x i) = cur at *
      refine .mk rfl ?_
      simp only [List.set_cons_zero, List.set_cons_succ]
      repeat kct_strs
      refine x_tup (z := w.ld) rfl ?_
      unfold Wv.ld
      repeat kct_strs
      refine x_tup (z := ln.d) (ld_at eln) ?_
      unfold Ln.d
      repeat kct_strs
      rw [show cutL [nD ln.one, nD ln.other, nD ln.cost, D.tup (List.map nD ln.gs), nD ln.str] none (some 2) = [nD ln.one, nD ln.other] from rfl]
      refine w_comp0 ?_
      repeat kct_strs
      have dc := (dt_natsL cur).dt (show 1 ≤ 60 by decide)
      refine ⟨fun d => match d with | .int e => decide (e.toNat ∉ cur) && (decide (ln.one ∈ cur) || decide (ln.other ∈ cur)) | _ => false, id, fun e em => ?_, ?_⟩
      · obtain ⟨y, ym, rfl⟩ : ∃ y ∈ [ln.one, ln.other], nD y = e := List.mem_map.mp (show e ∈ [ln.one, ln.other].map nD from em)
        refine .mk rfl ?_
        simp only [wipeR, List.set_cons_zero, List.set_cons_succ]
        repeat kct_strs
        refine o_ninL Dt.int dc ?_
        rw [inN]
        repeat kct_strs
        simp only [Int.toNat_natCast]
        refine ⟨fun q => ?_, fun q => ?_⟩
        · have hy : decide (y ∉ cur) = true := by simpa using q
          repeat kct_strs
          refine x_tup rfl ?_
          repeat kct_strs
          refine o_inL Dt.int dc ?_
          rw [inN]
          repeat kct_strs
          cases hone : decide (ln.one ∈ cur) with
          | true =>
            repeat kct_strs
            exact ⟨rfl, (if_pos (by show (decide (y ∉ cur) && _) = true; rw [hy]; rfl)).symm⟩
          | false =>
            repeat kct_strs
            refine x_tup rfl ?_
            repeat kct_strs
            refine o_inL Dt.int dc ?_
            rw [inN]
            repeat kct_strs
            cases hot : decide (ln.other ∈ cur) with
            | true =>
              repeat kct_strs
              exact ⟨rfl, (if_pos (by show (decide (y ∉ cur) && _) = true; rw [hy]; rfl)).symm⟩
            | false =>
              repeat kct_strs
              exact ⟨rfl, (if_neg (by show ¬(decide (y ∉ cur) && _) = true; rw [hy]; exact Bool.false_ne_true)).symm⟩
        · have hy : decide (y ∉ cur) = false := by simpa using q
          rw [show (!decide (y ∈ cur)) = false by simpa using q]
          repeat kct_strs
          exact ⟨trivial, (if_neg (by show ¬(decide (y ∉ cur) && _) = true; rw [hy]; exact Bool.false_ne_true)).symm⟩
      · repeat kct_strs
        have ef : List.map id (List.filter (fun d : D => match d with | .int e => decide (e.toNat ∉ cur) && (decide (ln.one ∈ cur) || decide (ln.other ∈ cur)) | _ => false) [nD ln.one, nD ln.other]) =
            ([ln.one, ln.other].filter fun e => decide (e ∉ cur) && (decide (ln.one ∈ cur) || decide (ln.other ∈ cur))).map nD := by
          rw [List.map_id]
          exact filter_map_eq (f := nD) (fun a => rfl) [ln.one, ln.other]
        rw [ef]
        refine o_ext ?_ ?_
        · have := List.length_filter_le (fun e => decide (e ∉ cur) && (decide (ln.one ∈ cur) || decide (ln.other ∈ cur))) [ln.one, ln.other]
          rw [List.length_map, List.length_map]
          simp only [List.length_cons, List.length_nil] at this
          omega
        · repeat kct_strs
          rw [stepE]
          unfold lst1
          rw [List.map_append]
          exact ⟨rfl, _, _, _, rfl⟩
    · rintro ρ h4 ⟨rfl, t5, t6, t7, rfl⟩
      repeat kct_strs
      rw [List.length_map, List.take_length]
      exact ⟨rfl, _, _, _, _, rfl⟩
  · rintro ρ h3 ⟨rfl, s4, s5, s6, s7, rfl⟩
    rw [List.length_map]
    repeat kct_strs
    refine o_sortN (lcl_pc G hx).2.nd ?_
    rw [pieceL_law f ls hx]
    exact ⟨.inl rfl, rfl, rfl⟩
end
end Ev

namespace Ev
local macro_rules | `(tactic| kct_strs) => `(tactic| first | refine w_var rfl ?_ | refine w_int ?_ | refine w_bl ?_ | refine w_str ?_ | refine w_non ?_ | refine w_bor rfl ?_ | refine w_glob ?_ | refine w_bin ?_ | refine w_cmp ?_ | refine w_call ?_ | refine w_pcall ?_ | refine w_dnew ?_ | refine w_dnew1 ?_ | refine w_dget ?_ | refine w_din ?_ | refine w_dget2 ?_ | refine s_dput ?_ | refine w_rev ?_ | refine w_trng ?_ | refine w_lrng ?_ | refine w_cons ?_ | refine w_nil ?_ | refine w_bi ?_ | refine w_idx ?_ | refine w_tup ?_ | refine w_lst ?_ | refine w_isin ?_ | refine w_both ?_ | refine w_and ?_ | refine w_and1 ?_ | refine w_not ?_ | refine w_ife ?_ | refine w_sl ?_ | refine w_sset ?_ | refine w_sm ?_ | refine w_cmp2 ?_ | refine w_neg ?_ | refine w_alloc ?_ | refine w_over ?_ | refine w_rng ?_ | refine w_rng2 ?_ | refine w_enum ?_ | refine w_zip ?_ | refine s_nil ?_ | refine s_ret ?_ | refine s_expr ?_ | refine s_reto rfl ?_ | (refine s_retf ?_) | refine s_par ?_ | (refine s_asg ?_; simp only [List.set_cons_zero, List.set_cons_succ]) | refine s_asgT ?_ | refine s_ife ?_ | refine s_cset ?_ | (refine s_own rfl ?_; simp only [List.set_cons_zero, List.set_cons_succ]) | (refine s_mut rfl ?_; simp only [List.set_cons_zero, List.set_cons_succ]) | (refine s_frz rfl ?_; simp only [List.set_cons_zero, List.set_cons_succ]) | refine s_brk ?_ | refine s_cnt ?_ | refine s_pas ?_ | refine WB.mk ?_ | refine o_add ?_ | refine o_sub ?_ | refine o_lt ?_ | refine o_gt ?_ | refine o_le ?_ | refine o_ge ?_ | refine o_eq ?_ | refine o_ne ?_ | refine o_eqb ?_ | refine o_neb ?_ | refine o_isn ?_ | refine o_notn ?_ | refine o_isnb ?_ | refine o_notnb ?_ | refine o_lenL ?_ | refine o_lenT ?_ | refine o_lenS ?_ | refine o_lenX ?_ | refine o_abs ?_ | refine o_min ?_ | refine o_intb ?_ | refine o_listL ?_ | refine o_listT ?_ | refine o_tupL ?_ | refine o_tupT ?_ | refine ⟨Nat.le_of_ble_eq_true rfl, ?_⟩ | refine knT ?_ | refine knF ?_ | refine knTT ?_ | refine knFF ?_ | refine knTF ?_ | refine knFT ?_ | refine o_ty rfl ?_ | (refine o_bind rfl ?_; simp only [List.set_cons_zero, List.set_cons_succ]) | refine o_cutL ?_ | refine o_cutT ?_ | refine o_optX rfl ?_ | refine o_items rfl ?_ | (refine o_setPar rfl ?_; simp only [List.set_cons_zero, List.set_cons_succ]) | refine o_rev ?_ | refine o_revT ?_ | refine o_neg ?_ | refine o_negB ?_ | refine o_addB ?_ | refine o_subB ?_ | refine ⟨Or.inl rfl, ?_⟩ | refine ⟨Or.inr rfl, ?_⟩ | refine o_over rfl ?_ | refine o_alloc rfl ?_ | refine o_modL rfl ?_ | refine o_fdivL rfl ?_ | refine ⟨_, rfl, ?_⟩)
open PySem L2
theorem Rch.trans {E : List (Nat × Nat)} {a b c : Nat} (h : Rch E a b) (h' : Rch E b c) : Rch E a c := by
  induction h' with
  | refl => exact h
  | fwd _ m ih => exact .fwd ih m
  | bwd _ m ih => exact .bwd ih m
theorem Rch.symm {E : List (Nat × Nat)} {a b : Nat} (h : Rch E a b) : Rch E b a := by
  induction h with
  | refl => exact .refl
  | fwd _ m ih => exact Rch.trans (.bwd .refl m) ih
  | bwd _ m ih => exact Rch.trans (.fwd .refl m) ih
section
variable {w : Wv}
theorem mem_piece (f : w.Fit) {ls : List Nat} {x y : Nat} (hx : x < w.hs.length) : y ∈ pieceL w ls x ↔ Rch (endsL w ls) x y := by
  have b := (bfs_pc (ends_gd f ls) hx).1
  unfold pieceL
  rw [mem_srtN]
  exact ⟨b.rc y, fun r => b.all r⟩
theorem piece_lt (f : w.Fit) {ls : List Nat} {x y : Nat} (hx : x < w.hs.length) (h : y ∈ pieceL w ls x) : y < w.hs.length := by
  unfold pieceL at h
  rw [mem_srtN] at h
  exact (bfs_pc (ends_gd f ls) hx).2.lt y h
theorem piece_len (f : w.Fit) {ls : List Nat} {x : Nat} (hx : x < w.hs.length) : (pieceL w ls x).length ≤ w.hs.length :=
  up_len up_srtN fun y m => piece_lt f hx m
theorem piece_eq (f : w.Fit) {ls : List Nat} {x y : Nat} (hx : x < w.hs.length) (h : y ∈ pieceL w ls x) : pieceL w ls x = pieceL w ls y := by
  have hy := piece_lt f hx h
  have r := (mem_piece f hx).mp h
  refine up_ext up_srtN up_srtN fun z => ?_
  show z ∈ pieceL w ls x ↔ z ∈ pieceL w ls y
  rw [mem_piece f hx, mem_piece f hy]
  exact ⟨fun q => r.symm.trans q, fun q => r.trans q⟩
def pstep (w : Wv) (fhs ls : List Nat) (acc : List (List Nat)) (x : Nat) : List (List Nat) := if x ∉ fhs ∧ x ∉ acc.flatten then acc ++ [pieceL w ls x] else acc
def pcs (w : Wv) (fhs ls : List Nat) (k : Nat) : List (List Nat) := (List.range k).foldl (pstep w fhs ls) []
theorem pcs_succ (fhs ls : List Nat) (k : Nat) : pcs w fhs ls (k + 1) = pstep w fhs ls (pcs w fhs ls k) k := by
  unfold pcs
  rw [List.range_succ, List.foldl_append]; rfl
structure PcOk (w : Wv) (fhs ls : List Nat) (i : Nat) (acc : List (List Nat)) : Prop where
  of : ∀ p ∈ acc, ∃ x, x < w.hs.length ∧ p = pieceL w ls x
  met : ∀ y, y < i → y ∉ fhs → y ∈ acc.flatten
  one : ∀ y, y < w.hs.length → acc.filter (fun p => decide (y ∈ p)) = if y ∈ acc.flatten then [pieceL w ls y] else []
  len : acc.length ≤ i
theorem pcs_ok (f : w.Fit) (fhs ls : List Nat) : ∀ k, k ≤ w.hs.length → PcOk w fhs ls k (pcs w fhs ls k)
  | 0, _ => ⟨(fun _ m => nomatch m), (fun _ h => absurd h (Nat.not_lt_zero _)), (fun y _ => by simp [pcs]), Nat.le_refl _⟩
  | k + 1, hk => by
    have P := pcs_ok f fhs ls k (by omega)
    rw [pcs_succ]
    unfold pstep
    split
    · rename_i g
      refine ⟨fun p m => ?_, fun y hy nf => ?_, fun y hy => ?_, by rw [List.length_append]; have := P.len; simp; omega⟩
      · rcases List.mem_append.mp m with m | m
        · exact P.of p m
        · exact ⟨k, by omega, List.mem_singleton.mp m⟩
      · rw [List.flatten_append, List.mem_append]
        rcases Nat.lt_or_ge y k with q | q
        · exact .inl (P.met y q nf)
        · right
          have : y = k := by omega
          subst this
          simpa using (mem_piece f (by omega)).mpr .refl
      · rw [List.filter_append, P.one y hy]
        by_cases hp : y ∈ pieceL w ls k
        · have he := piece_eq f (by omega : k < w.hs.length) hp
          have hn : y ∉ (pcs w fhs ls k).flatten := fun q => by
            obtain ⟨p, pm, yp⟩ := List.mem_flatten.mp q
            obtain ⟨z, hz, rfl⟩ := P.of p pm
            have e2 := piece_eq f hz yp
            refine g.2 (List.mem_flatten.mpr ⟨_, pm, ?_⟩)
            rw [e2, ← he]
            exact (mem_piece f (by omega)).mpr .refl
          rw [if_neg hn, if_pos (by rw [List.flatten_append, List.mem_append]; right; simpa using hp)]
          have ef : [pieceL w ls k].filter (fun p => decide (y ∈ p)) = [pieceL w ls k] := by simp [hp]
          rw [ef, List.nil_append, he]
        · have e : (y ∈ ((pcs w fhs ls k) ++ [pieceL w ls k]).flatten) ↔ y ∈ (pcs w fhs ls k).flatten := by
            rw [List.flatten_append, List.mem_append]
            simp [hp]
          simp only [e]
          simp [hp]
    · rename_i g
      refine ⟨P.of, fun y hy nf => ?_, P.one, by have := P.len; omega⟩
      rcases Nat.lt_or_ge y k with q | q
      · exact P.met y q nf
      · have : y = k := by omega
        subst this
        exact Classical.byContradiction fun z => g ⟨nf, z⟩
end
def metC (ms : List Nat) : Cell := .dct false (ms.map nD) (ms.map fun _ => D.bl true)
theorem dkey_nat (n : Nat) : dkey (nD n) = some (Sum.inl (n : Int)) := rfl
theorem key_eq (a b : Nat) : (dkey (nD a) = some (Sum.inl (b : Int))) ↔ a = b := by
  rw [dkey_nat]
  constructor
  · intro e
    have := Sum.inl.inj (Option.some.inj e)
    omega
  · intro e; rw [e]
theorem dlk_met (x : Nat) : ∀ ms : List Nat, (dlk (ms.map nD) (ms.map fun _ => D.bl true) (Sum.inl (x : Int))).isSome = decide (x ∈ ms)
  | [] => rfl
  | m :: ms => by
    simp only [List.map_cons, dlk]
    by_cases h : m = x
    · rw [if_pos ((key_eq m x).mpr h)]; simp [h]
    · rw [if_neg (fun q => h ((key_eq m x).mp q)), dlk_met x ms]
      have : x ≠ m := fun q => h q.symm
      simp [this]
theorem dhas_met (x : Nat) : ∀ ms : List Nat, dhas (ms.map nD) (Sum.inl (x : Int)) = decide (x ∈ ms)
  | [] => rfl
  | m :: ms => by
    have ih := dhas_met x ms
    unfold dhas at ih ⊢
    simp only [List.map_cons, List.any_cons, ih]
    by_cases h : m = x
    · rw [decide_eq_true ((key_eq m x).mpr h)]; simp [h]
    · rw [decide_eq_false (fun q => h ((key_eq m x).mp q))]
      have : x ≠ m := fun q => h q.symm
      simp [this]
theorem dst_met (x : Nat) : ∀ ms : List Nat, dst (ms.map nD) (ms.map fun _ => D.bl true) (Sum.inl (x : Int)) (.bl true) = ms.map fun _ => D.bl true
  | [] => rfl
  | m :: ms => by
    simp only [List.map_cons, dst, dst_met x ms, ite_self]
theorem dcell_met (h : Hs) (ms : List Nat) : dcell (h ++ [metC ms]) (.ref h.length) = some (ms.map nD, ms.map fun _ => D.bl true) := by
  simp only [dcell]
  rw [List.getElem?_append_right (Nat.le_refl _)]
  simp [metC]
theorem dput_met (h : Hs) {ms : List Nat} (x : Nat) (hl : ms.length < 1000) : dputH (.ref h.length) (nD x) (.bl true) (h ++ [metC ms]) = some (h ++ [metC (if x ∈ ms then ms else ms ++ [x])]) := by
  have hlim : lim = 4000000 := rfl
  unfold dputH
  rw [dcell_met, dkey_nat]
  simp only
  rw [if_pos (by rw [List.length_map]; omega), dhas_met, dst_met]
  have : ∀ c, (h ++ [metC ms]).set h.length c = h ++ [c] := fun c => by
    rw [List.set_append_right _ _ (Nat.le_refl _)]; simp
  rw [this]
  by_cases q : x ∈ ms
  · rw [decide_eq_true q, if_pos rfl, if_pos q]; rfl
  · rw [decide_eq_false q, if_neg Bool.false_ne_true, if_neg q]
    simp [metC]
def addM (ms : List Nat) (p : List Nat) : List Nat := p.foldl (fun ms x => if x ∈ ms then ms else ms ++ [x]) ms
theorem mem_addM {y : Nat} : ∀ {p ms : List Nat}, y ∈ addM ms p ↔ y ∈ ms ∨ y ∈ p
  | [], ms => by simp [addM]
  | x :: p, ms => by
    show y ∈ addM (if x ∈ ms then ms else ms ++ [x]) p ↔ _
    rw [mem_addM]
    by_cases q : x ∈ ms
    · rw [if_pos q, List.mem_cons]
      constructor
      · rintro (a | a)
        · exact .inl a
        · exact .inr (.inr a)
      · rintro (a | a | a)
        · exact .inl a
        · rw [a]; exact .inl q
        · exact .inr a
    · rw [if_neg q]
      simp only [List.mem_append, List.mem_cons, List.not_mem_nil, or_false]
      constructor
      · rintro ((a | a) | a)
        · exact .inl a
        · exact .inr (.inl a)
        · exact .inr (.inr a)
      · rintro (a | a | a)
        · exact .inl (.inl a)
        · exact .inl (.inr a)
        · exact .inr a
theorem nd_addM : ∀ {p ms : List Nat}, ms.Nodup → (addM ms p).Nodup
  | [], ms, h => h
  | x :: p, ms, h => by
    show (addM (if x ∈ ms then ms else ms ++ [x]) p).Nodup
    refine nd_addM ?_
    split
    · exact h
    · rename_i q
      exact nodup_snoc h q
def piecesFn : Fn := ⟨3, 9, [.asg (.nm 3) (.call "standing" [(.var 0), (.var 1), (.var 2)]), .own 4 (.lst []), .asg (.nm 5) .dnew, .fors (.nm 6) (.rng (.bi .len [(.idx (.var 0) (.int 0))])) [.ife (.both true [(.cmp .nin (.var 6) (.idx (.var 1) (.int 0))), (.din true (.var 6) (.var 5))]) [.asg (.nm 7) (.call "piece_from" [(.var 0), (.var 3), (.var 6)]), .mut .append 4 [(.var 7)], .fors (.nm 8) (.over (.var 7)) [.dput (.var 5) (.var 8) (.bl true)]] []], .reto 4], true⟩
structure PcFns (fns : List (String × Fn)) : Prop where
  st : fns.lookup "standing" = some standingFn
  ss : fns.lookup "stands" = some standsFn
  wh : fns.lookup "whole_strands" = some wholeFn
  pf : fns.lookup "piece_from" = some pieceFn
  pc : fns.lookup "pieces" = some piecesFn
def lsD (p : List Nat) : D := .lst (p.map nD)
section
variable {fns : List (String × Fn)} {k : Nat} {h : Hs} {w : Wv} {fa : Fa}
theorem stand_ok (f : w.Fit) (g : Nat) : LsOk w (standL w fa g) := by
  refine ⟨?_, fun l m => ?_⟩
  · have := List.length_filter_le (fun l => decide (g ∈ ((w.ls[l]?.map Ln.gs).getD [])) && standB w fa l) (List.range w.ls.length)
    rw [List.length_range] at this
    have := f.l1
    unfold standL
    omega
  · exact List.mem_range.mp (List.mem_filter.mp m).1
theorem pieces_w (F : PcFns fns) (f : w.Fit) (fo : fa.Ok w) (g : Nat) {P : D → Hs → Prop} (q : ∀ ms, P (.lst ((pcs w fa.hs (standL w fa g) w.hs.length).map lsD)) (h ++ [metC ms])) : WC (callF fns (k + 4)) "pieces" [w.d, fa.d, nD g] h P := by
  refine c_defF F.pc rfl ?_
  show WS _ piecesFn.body [_, _, _, _, _, _, _, _, _] _ _
  unfold piecesFn
  have hlim : lim = 4000000 := rfl
  have h1 := f.h1
  have h4 : ∀ l ∈ w.ls, l.str ≤ 4 := fun l m => (f.l2 l m).s2
  have lo := stand_ok (fa := fa) f g
  repeat kct_strs
  refine .mk (standing_e F.st F.ss F.wh fo h4 g) ?_
  repeat kct_strs
  generalize standL w fa g = ls at lo q ⊢
  refine s_for ?_
  repeat kct_strs
  refine x_tup (z := w.hd) rfl ?_
  unfold Wv.hd
  repeat kct_strs
  refine ⟨by rw [List.length_map]; omega, by rw [List.length_map]; omega, fun i ρ h' => ∃ (ms : List Nat) (s6 s7 s8 : Sl), i ≤ w.hs.length ∧ h' = h ++ [metC ms] ∧ ms.Nodup ∧ (∀ y ∈ ms, y < w.hs.length) ∧ (∀ y, y ∈ ms ↔ y ∈ (pcs w fa.hs ls i).flatten) ∧
    ρ = [.val w.d, .val fa.d, .val (nD g), .val (.lst (ls.map nD)), .own ((pcs w fa.hs ls i).map lsD), .val (.ref h.length), s6, s7, s8], ⟨[], _, _, _, Nat.zero_le _, rfl, List.nodup_nil, (fun _ m => nomatch m), (fun y => by simp [pcs]), rfl⟩, ?_, ?_⟩
  · rintro i d ρ h3 ei ⟨ms, s6, s7, s8, _, rfl, nd, lt, mem, rfl⟩
    obtain ⟨hi, rfl⟩ := rng_at0 ei
    rw [List.length_map] at hi
    have hi : i < w.hs.length := by omega
    have P := pcs_ok f fa.hs ls i (by omega)
    have ml := nodup_len nd lt
    refine .mk rfl ?_
    simp only [List.set_cons_zero, List.set_cons_succ]
    repeat kct_strs
    refine x_tup (z := fa.hd) rfl ?_
    unfold Fa.hd
    refine o_ninT Dt.int (dt_nats _ |>.dt (by decide)) ?_
    rw [inN]
    repeat kct_strs
    refine ⟨fun c1 => ?_, fun c1 => ?_⟩
    · have c1 : i ∉ fa.hs := by simpa using c1
      repeat kct_strs
      refine ⟨_, _, _, dcell_met h ms, dkey_nat i, ?_⟩
      rw [dlk_met]
      repeat kct_strs
      refine ⟨fun c2 => ?_, fun c2 => ?_⟩
      · have c2 : i ∉ ms := by simpa using c2
        have c3 : i ∉ (pcs w fa.hs ls i).flatten := fun z => c2 ((mem i).mpr z)
        have estep : pcs w fa.hs ls (i + 1) = pcs w fa.hs ls i ++ [pieceL w ls i] := by
          rw [pcs_succ]
          unfold pstep
          rw [if_pos ⟨c1, c3⟩]
        repeat kct_strs
        refine .mk (piece_e F.pf f lo hi) ?_
        repeat kct_strs
        refine o_app (by rw [List.length_map]; have := P.len; omega) ?_
        repeat kct_strs
        refine s_for ?_
        repeat kct_strs
        refine ⟨fun j ρ h' => h' = h ++ [metC (addM ms ((pieceL w ls i).take j))] ∧ ∃ s8, ρ = [.val w.d, .val fa.d, .val (nD g), .val (.lst (ls.map nD)), .own ((pcs w fa.hs ls i).map lsD ++ [.lst ((pieceL w ls i).map nD)]), .val (.ref h.length), .val (nD i), .val (.lst ((pieceL w ls i).map nD)), s8], ⟨rfl, _, rfl⟩, ?_, ?_⟩
        · rintro j d ρ h4 ej ⟨rfl, t8, rfl⟩
          obtain ⟨y, ey, rfl⟩ := nat_at ej
          have nd2 : (addM ms ((pieceL w ls i).take j)).Nodup := nd_addM nd
          have lt2 : ∀ y ∈ addM ms ((pieceL w ls i).take j), y < w.hs.length := fun y m => by
            rcases mem_addM.mp m with m | m
            · exact lt y m
            · exact piece_lt f hi (List.mem_of_mem_take m)
          have l2 := nodup_len nd2 lt2
          have e2 : addM ms ((pieceL w ls i).take (j + 1)) = if y ∈ addM ms ((pieceL w ls i).take j) then addM ms ((pieceL w ls i).take j) else addM ms ((pieceL w ls i).take j) ++ [y] := by
            rw [List.take_succ, ey]
            unfold addM
            rw [List.foldl_append]
            rfl
          refine .mk rfl ?_
          simp only [List.set_cons_zero, List.set_cons_succ]
          repeat kct_strs
          refine .mk (dput_met h y (by omega)) ?_
          rw [← e2]
          repeat kct_strs
          exact ⟨rfl, _, rfl⟩
        · rintro ρ h4 ⟨rfl, t8, rfl⟩
          repeat kct_strs
          rw [List.length_map, List.take_length]
          refine ⟨addM ms (pieceL w ls i), _, _, _, hi, rfl, nd_addM nd, fun y m => ?_, fun y => ?_, by rw [estep, List.map_append]; rfl⟩
          · rcases mem_addM.mp m with m | m
            · exact lt y m
            · exact piece_lt f hi m
          · rw [mem_addM, mem y, estep, List.flatten_append, List.mem_append]
            simp
      · have c2 : i ∈ ms := by simpa using c2
        repeat kct_strs
        have estep : pcs w fa.hs ls (i + 1) = pcs w fa.hs ls i := by
          rw [pcs_succ]
          unfold pstep
          rw [if_neg (fun z => z.2 ((mem i).mp c2))]
        exact ⟨ms, _, _, _, hi, rfl, nd, lt, (by rw [estep]; exact mem), by rw [estep]⟩
    · rw [c1]
      have c1 : i ∈ fa.hs := by simpa using c1
      repeat kct_strs
      have estep : pcs w fa.hs ls (i + 1) = pcs w fa.hs ls i := by
        rw [pcs_succ]
        unfold pstep
        rw [if_neg (fun z => z.1 c1)]
      exact ⟨ms, _, _, _, hi, rfl, nd, lt, (by rw [estep]; exact mem), by rw [estep]⟩
  · rintro ρ h3 ⟨ms, s6, s7, s8, hle, rfl, nd, lt, mem, rfl⟩
    have el : (rngL 0 ((w.hs.map fun ds => D.tup (ds.map nD)).length : Int).toNat).length = w.hs.length := by
      rw [rngL_len, List.length_map]; omega
    rw [el]
    repeat kct_strs
    exact q ms
end
end Ev

namespace Ev
local macro_rules | `(tactic| kct_strs) => `(tactic| first | refine w_var rfl ?_ | refine w_int ?_ | refine w_bl ?_ | refine w_str ?_ | refine w_non ?_ | refine w_bor rfl ?_ | refine w_glob ?_ | refine w_bin ?_ | refine w_cmp ?_ | refine w_call ?_ | refine w_pcall ?_ | refine w_dnew ?_ | refine w_dnew1 ?_ | refine w_dget ?_ | refine w_din ?_ | refine w_dget2 ?_ | refine s_dput ?_ | refine w_rev ?_ | refine w_trng ?_ | refine w_lrng ?_ | refine w_cons ?_ | refine w_nil ?_ | refine w_bi ?_ | refine w_idx ?_ | refine w_tup ?_ | refine w_lst ?_ | refine w_isin ?_ | refine w_both ?_ | refine w_and ?_ | refine w_and1 ?_ | refine w_not ?_ | refine w_ife ?_ | refine w_sl ?_ | refine w_sset ?_ | refine w_sm ?_ | refine w_cmp2 ?_ | refine w_neg ?_ | refine w_alloc ?_ | refine w_over ?_ | refine w_rng ?_ | refine w_rng2 ?_ | refine w_enum ?_ | refine w_zip ?_ | refine s_nil ?_ | refine s_ret ?_ | refine s_expr ?_ | refine s_reto rfl ?_ | (refine s_retf ?_) | refine s_par ?_ | (refine s_asg ?_; simp only [List.set_cons_zero, List.set_cons_succ]) | refine s_asgT ?_ | refine s_ife ?_ | refine s_cset ?_ | (refine s_own rfl ?_; simp only [List.set_cons_zero, List.set_cons_succ]) | (refine s_mut rfl ?_; simp only [List.set_cons_zero, List.set_cons_succ]) | (refine s_frz rfl ?_; simp only [List.set_cons_zero, List.set_cons_succ]) | refine s_brk ?_ | refine s_cnt ?_ | refine s_pas ?_ | refine WB.mk ?_ | refine o_add ?_ | refine o_sub ?_ | refine o_lt ?_ | refine o_gt ?_ | refine o_le ?_ | refine o_ge ?_ | refine o_eq ?_ | refine o_ne ?_ | refine o_eqb ?_ | refine o_neb ?_ | refine o_isn ?_ | refine o_notn ?_ | refine o_isnb ?_ | refine o_notnb ?_ | refine o_lenL ?_ | refine o_lenT ?_ | refine o_lenS ?_ | refine o_lenX ?_ | refine o_abs ?_ | refine o_min ?_ | refine o_intb ?_ | refine o_listL ?_ | refine o_listT ?_ | refine o_tupL ?_ | refine o_tupT ?_ | refine ⟨Nat.le_of_ble_eq_true rfl, ?_⟩ | refine knT ?_ | refine knF ?_ | refine knTT ?_ | refine knFF ?_ | refine knTF ?_ | refine knFT ?_ | refine o_ty rfl ?_ | (refine o_bind rfl ?_; simp only [List.set_cons_zero, List.set_cons_succ]) | refine o_cutL ?_ | refine o_cutT ?_ | refine o_optX rfl ?_ | refine o_items rfl ?_ | (refine o_setPar rfl ?_; simp only [List.set_cons_zero, List.set_cons_succ]) | refine o_rev ?_ | refine o_revT ?_ | refine o_neg ?_ | refine o_negB ?_ | refine o_addB ?_ | refine o_subB ?_ | refine ⟨Or.inl rfl, ?_⟩ | refine ⟨Or.inr rfl, ?_⟩ | refine o_over rfl ?_ | refine o_alloc rfl ?_ | refine o_modL rfl ?_ | refine o_fdivL rfl ?_ | refine ⟨_, rfl, ?_⟩)
open PySem L2
abbrev Arw := Nat × Nat × Nat
abbrev Mp := Nat → Option Nat
inductive Wk (A : List Arw) (r : Nat) : Nat → Nat → Nat → Prop where
  | nil : Wk A r 0 r 0
  | step {k a c b d : Nat} : Wk A r k a c → (a, b, d) ∈ A → Wk A r (k + 1) b (c + d)
theorem Wk.sub {A B : List Arw} {r k v c : Nat} (s : ∀ e ∈ A, e ∈ B) (w : Wk A r k v c) : Wk B r k v c := by
  induction w with
  | nil => exact .nil
  | step _ m ih => exact .step ih (s _ m)
def putM (m : Mp) (v x : Nat) : Mp := fun u => if u = v then some x else m u
theorem putM_at (m : Mp) (v x : Nat) : putM m v x v = some x := if_pos rfl
theorem putM_ne {m : Mp} {v x u : Nat} (h : u ≠ v) : putM m v x u = m u := if_neg h
/-- one arrow -/
def rlx (m : Mp) (e : Arw) : Mp := match m e.1 with
  | none => m
  | some x => match m e.2.1 with
    | none => putM m e.2.1 (x + e.2.2)
    | some y => if x + e.2.2 < y then putM m e.2.1 (x + e.2.2) else m
def pass (A : List Arw) (m : Mp) : Mp := A.foldl rlx m
def passes (A : List Arw) (m : Mp) : Nat → Mp
  | 0 => m
  | j + 1 => pass A (passes A m j)
def initM (r : Nat) : Mp := putM (fun _ => none) r 0
/-- every sum that stands is a way's -/
def Snd (A : List Arw) (r : Nat) (m : Mp) : Prop := ∀ v x, m v = some x → ∃ k, Wk A r k v x
def Le (m : Mp) (v c : Nat) : Prop := ∃ x, m v = some x ∧ x ≤ c
theorem rlx_snd {A : List Arw} {r : Nat} {m : Mp} {e : Arw} (he : e ∈ A) (s : Snd A r m) : Snd A r (rlx m e) := by
  have put : ∀ x, m e.1 = some x → Snd A r (putM m e.2.1 (x + e.2.2)) := fun x hx v y hv => by
    by_cases q : v = e.2.1
    · subst q
      rw [putM_at] at hv
      cases hv
      obtain ⟨k, w⟩ := s _ _ hx
      exact ⟨k + 1, .step w he⟩
    · rw [putM_ne q] at hv
      exact s v y hv
  unfold rlx
  split
  · exact s
  · rename_i x hx
    split
    · exact put x hx
    · split
      · exact put x hx
      · exact s
theorem pass_snd {A : List Arw} {r : Nat} : ∀ {B : List Arw} {m : Mp}, (∀ e ∈ B, e ∈ A) → Snd A r m → Snd A r (pass B m)
  | [], _, _, s => s
  | e :: B, m, h, s => pass_snd (B := B) (fun x xm => h x (List.mem_cons_of_mem _ xm)) (rlx_snd (h e List.mem_cons_self) s)
theorem rlx_le {m : Mp} {e : Arw} {v c : Nat} (h : Le m v c) : Le (rlx m e) v c := by
  obtain ⟨y, hy, l⟩ := h
  unfold rlx
  split
  · exact ⟨y, hy, l⟩
  · rename_i x hx
    split
    · rename_i hn
      have q : v ≠ e.2.1 := fun q => by rw [q, hn] at hy; cases hy
      exact ⟨y, by rw [putM_ne q]; exact hy, l⟩
    · rename_i z hz
      split
      · rename_i g
        by_cases q : v = e.2.1
        · rw [q] at hy ⊢
          rw [hz] at hy
          cases hy
          exact ⟨_, putM_at _ _ _, by omega⟩
        · exact ⟨y, by rw [putM_ne q]; exact hy, l⟩
      · exact ⟨y, hy, l⟩
theorem rlx_to {m : Mp} {a b d c : Nat} (h : Le m a c) : Le (rlx m (a, b, d)) b (c + d) := by
  obtain ⟨x, hx, l⟩ := h
  unfold rlx
  simp only [hx]
  cases hb : m b with
  | none => exact ⟨_, putM_at _ _ _, by omega⟩
  | some y =>
    simp only
    split
    · exact ⟨_, putM_at _ _ _, by omega⟩
    · exact ⟨y, hb, by omega⟩
theorem pass_le : ∀ {B : List Arw} {m : Mp} {v c : Nat}, Le m v c → Le (pass B m) v c
  | [], _, _, _, h => h
  | e :: B, m, _, _, h => pass_le (B := B) (rlx_le h)
theorem pass_to : ∀ {B : List Arw} {m : Mp} {a b d c : Nat}, (a, b, d) ∈ B → Le m a c → Le (pass B m) b (c + d)
  | e :: B, m, a, b, d, c, hm, h => by
    rcases List.mem_cons.mp hm with q | q
    · subst q
      exact pass_le (B := B) (rlx_to h)
    · exact pass_to (B := B) q (rlx_le h)
theorem passes_snd {A : List Arw} {r : Nat} : ∀ j : Nat, Snd A r (passes A (initM r) j)
  | 0 => fun v x h => by
    unfold passes initM putM at h
    split at h
    · rename_i q
      cases h
      rw [q]
      exact ⟨0, .nil⟩
    · cases h
  | j + 1 => pass_snd (fun _ m => m) (passes_snd j)
theorem passes_le {A : List Arw} {r k v c : Nat} (w : Wk A r k v c) : ∀ {j : Nat}, k ≤ j → Le (passes A (initM r) j) v c := by
  induction w with
  | nil =>
    intro j _
    induction j with
    | zero => exact ⟨0, show initM r r = some 0 from putM_at _ _ _, Nat.le_refl _⟩
    | succ j ih => exact pass_le (ih (Nat.zero_le _))
  | step _ m ih =>
    intro j hj
    cases j with
    | zero => omega
    | succ j => exact pass_to m (ih (by omega))
/-- the least sum -/
def IsMin (A : List Arw) (r v c : Nat) : Prop := (∃ k, Wk A r k v c) ∧ ∀ k c', Wk A r k v c' → c ≤ c'
theorem least {P : Nat → Prop} : ∀ {c : Nat}, P c → ∃ c, P c ∧ ∀ c', P c' → c ≤ c' := by
  intro c
  induction c using Nat.strongRecOn with
  | ind c ih =>
    intro h
    by_cases q : ∃ c', c' < c ∧ P c'
    · obtain ⟨c', l, h'⟩ := q
      exact ih c' l h'
    · exact ⟨c, h, fun c' h' => Classical.byContradiction fun z => q ⟨c', by omega, h'⟩⟩
theorem min_of {A : List Arw} {r k v c : Nat} (w : Wk A r k v c) : ∃ c0, IsMin A r v c0 := by
  obtain ⟨c0, ⟨k0, w0⟩, m⟩ := least (P := fun c => ∃ k, Wk A r k v c) ⟨k, w⟩
  exact ⟨c0, ⟨k0, w0⟩, fun k c' w' => m c' ⟨k, w'⟩⟩
theorem IsMin.eq {A : List Arw} {r v c d : Nat} (a : IsMin A r v c) (b : IsMin A r v d) : c = d := by
  obtain ⟨⟨k, w⟩, m⟩ := a
  obtain ⟨⟨k', w'⟩, m'⟩ := b
  have := m _ _ w'
  have := m' _ _ w
  omega
theorem filter_lt {p q : Nat → Bool} {a : Nat} (pq : ∀ u, p u = true → q u = true) (qa : q a = true) (pa : p a = false) : ∀ {S : List Nat}, a ∈ S → (S.filter p).length < (S.filter q).length
  | x :: S, h => by
    have le : ∀ T : List Nat, (T.filter p).length ≤ (T.filter q).length := fun T => by
      induction T with
      | nil => exact Nat.le_refl _
      | cons y T ih =>
        rw [List.filter_cons, List.filter_cons]
        cases hp : p y with
        | true => rw [pq y hp]; simpa using ih
        | false =>
          cases q y with
          | true => simp; omega
          | false => simpa using ih
    rw [List.filter_cons, List.filter_cons]
    rcases List.mem_cons.mp h with e | m
    · subst e
      rw [pa, qa]
      have := le S
      simp; omega
    · have ih := filter_lt pq qa pa m
      cases hp : p x with
      | true => rw [pq x hp]; simpa using ih
      | false =>
        cases q x with
        | true => simp; omega
        | false => simpa using ih
open Classical in
/-- a least way needs no more steps than there are houses -/
theorem short {A : List Arw} {r : Nat} {S : List Nat} (h1 : ∀ e ∈ A, 1 ≤ e.2.2) (hS : ∀ k v c, Wk A r k v c → v ∈ S) : ∀ (c v : Nat), IsMin A r v c →
    ∃ k, k ≤ (S.filter fun u => decide (∃ c', IsMin A r u c' ∧ c' < c)).length ∧ Wk A r k v c := by
  intro c
  induction c using Nat.strongRecOn with
  | ind c ih =>
    intro v ⟨⟨k, w⟩, mn⟩
    cases w with
    | nil => exact ⟨0, Nat.zero_le _, .nil⟩
    | @step k a c0 b d w0 m =>
      have d1 := h1 _ m
      simp only at d1
      have ma : IsMin A r a c0 := ⟨⟨k, w0⟩, fun k' c' w' => by have := mn _ _ (.step w' m); omega⟩
      obtain ⟨k', l, w'⟩ := ih c0 (by omega) a ma
      refine ⟨k' + 1, ?_, .step w' m⟩
      have := filter_lt (a := a) (p := fun u => decide (∃ c', IsMin A r u c' ∧ c' < c0)) (q := fun u => decide (∃ c', IsMin A r u c' ∧ c' < c0 + d)) (fun u hu => by
        have := of_decide_eq_true hu
        obtain ⟨c', x, y⟩ := this
        exact decide_eq_true ⟨c', x, by omega⟩) (decide_eq_true ⟨c0, ma, by omega⟩) (decide_eq_false fun ⟨c', x, y⟩ => by have := x.eq ma; omega) (hS _ _ _ w0)
      omega
/-- enough passes tell the least sums -/
theorem passes_min {A : List Arw} {r j : Nat} {S : List Nat} (h1 : ∀ e ∈ A, 1 ≤ e.2.2) (hS : ∀ k v c, Wk A r k v c → v ∈ S) (hj : S.length ≤ j) (v x : Nat) : passes A (initM r) j v = some x ↔ IsMin A r v x := by
  have sh : ∀ v c, IsMin A r v c → Le (passes A (initM r) j) v c := fun v c m => by
    obtain ⟨k, l, w⟩ := short h1 hS c v m
    exact passes_le w (Nat.le_trans l (Nat.le_trans (List.length_filter_le _ _) hj))
  constructor
  · intro h
    obtain ⟨k, w⟩ := passes_snd j v x h
    obtain ⟨c, m⟩ := min_of w
    obtain ⟨y, hy, l⟩ := sh v c m
    rw [h] at hy
    cases hy
    have := m.2 _ _ w
    have : x = c := by omega
    rw [this]; exact m
  · intro m
    obtain ⟨y, hy, l⟩ := sh v x m
    obtain ⟨k, w⟩ := passes_snd j v y hy
    have := m.2 _ _ w
    have : y = x := by omega
    rw [← this]; exact hy
/-- two lists of the same arrows, enough passes of each: the same sums -/
theorem passes_same {A B : List Arw} {r i j : Nat} {S : List Nat} (ab : ∀ e, e ∈ A ↔ e ∈ B) (h1 : ∀ e ∈ A, 1 ≤ e.2.2) (hS : ∀ k v c, Wk A r k v c → v ∈ S) (hi : S.length ≤ i) (hj : S.length ≤ j) (v : Nat) : passes A (initM r) i v = passes B (initM r) j v := by
  have wb : ∀ {k v c}, Wk B r k v c → Wk A r k v c := fun w => w.sub fun e m => (ab e).mpr m
  have wa : ∀ {k v c}, Wk A r k v c → Wk B r k v c := fun w => w.sub fun e m => (ab e).mp m
  have mm : ∀ x, IsMin A r v x ↔ IsMin B r v x := fun x => ⟨fun ⟨⟨k, w⟩, m⟩ => ⟨⟨k, wa w⟩, fun k c w' => m k c (wb w')⟩, fun ⟨⟨k, w⟩, m⟩ => ⟨⟨k, wb w⟩, fun k c w' => m k c (wa w')⟩⟩
  have a := passes_min (j := i) h1 hS hi v
  have b := passes_min (A := B) (j := j) (S := S) (fun e m => h1 e ((ab e).mpr m)) (fun k v c w => hS k v c (wb w)) hj v
  apply Option.ext
  intro x
  rw [a x, b x, mm x]
end Ev

namespace Ev
local macro_rules | `(tactic| kct_strs) => `(tactic| first | refine w_var rfl ?_ | refine w_int ?_ | refine w_bl ?_ | refine w_str ?_ | refine w_non ?_ | refine w_bor rfl ?_ | refine w_glob ?_ | refine w_bin ?_ | refine w_cmp ?_ | refine w_call ?_ | refine w_pcall ?_ | refine w_dnew ?_ | refine w_dnew1 ?_ | refine w_dget ?_ | refine w_din ?_ | refine w_dget2 ?_ | refine s_dput ?_ | refine w_rev ?_ | refine w_trng ?_ | refine w_lrng ?_ | refine w_cons ?_ | refine w_nil ?_ | refine w_bi ?_ | refine w_idx ?_ | refine w_tup ?_ | refine w_lst ?_ | refine w_isin ?_ | refine w_both ?_ | refine w_and ?_ | refine w_and1 ?_ | refine w_not ?_ | refine w_ife ?_ | refine w_sl ?_ | refine w_sset ?_ | refine w_sm ?_ | refine w_cmp2 ?_ | refine w_neg ?_ | refine w_alloc ?_ | refine w_over ?_ | refine w_rng ?_ | refine w_rng2 ?_ | refine w_enum ?_ | refine w_zip ?_ | refine s_nil ?_ | refine s_ret ?_ | refine s_expr ?_ | refine s_reto rfl ?_ | (refine s_retf ?_) | refine s_par ?_ | (refine s_asg ?_; simp only [List.set_cons_zero, List.set_cons_succ]) | refine s_asgT ?_ | refine s_ife ?_ | refine s_cset ?_ | (refine s_own rfl ?_; simp only [List.set_cons_zero, List.set_cons_succ]) | (refine s_mut rfl ?_; simp only [List.set_cons_zero, List.set_cons_succ]) | (refine s_frz rfl ?_; simp only [List.set_cons_zero, List.set_cons_succ]) | refine s_brk ?_ | refine s_cnt ?_ | refine s_pas ?_ | refine WB.mk ?_ | refine o_add ?_ | refine o_sub ?_ | refine o_lt ?_ | refine o_gt ?_ | refine o_le ?_ | refine o_ge ?_ | refine o_eq ?_ | refine o_ne ?_ | refine o_eqb ?_ | refine o_neb ?_ | refine o_isn ?_ | refine o_notn ?_ | refine o_isnb ?_ | refine o_notnb ?_ | refine o_lenL ?_ | refine o_lenT ?_ | refine o_lenS ?_ | refine o_lenX ?_ | refine o_abs ?_ | refine o_min ?_ | refine o_intb ?_ | refine o_listL ?_ | refine o_listT ?_ | refine o_tupL ?_ | refine o_tupT ?_ | refine ⟨Nat.le_of_ble_eq_true rfl, ?_⟩ | refine knT ?_ | refine knF ?_ | refine knTT ?_ | refine knFF ?_ | refine knTF ?_ | refine knFT ?_ | refine o_ty rfl ?_ | (refine o_bind rfl ?_; simp only [List.set_cons_zero, List.set_cons_succ]) | refine o_cutL ?_ | refine o_cutT ?_ | refine o_optX rfl ?_ | refine o_items rfl ?_ | (refine o_setPar rfl ?_; simp only [List.set_cons_zero, List.set_cons_succ]) | refine o_rev ?_ | refine o_revT ?_ | refine o_neg ?_ | refine o_negB ?_ | refine o_addB ?_ | refine o_subB ?_ | refine ⟨Or.inl rfl, ?_⟩ | refine ⟨Or.inr rfl, ?_⟩ | refine o_over rfl ?_ | refine o_alloc rfl ?_ | refine o_modL rfl ?_ | refine o_fdivL rfl ?_ | refine ⟨_, rfl, ?_⟩)
open PySem L2
/-- a map as pairs -/
def plk (ps : List (Nat × Nat)) : Mp := fun v => (ps.find? fun p => decide (p.1 = v)).map (·.2)
def ppt (ps : List (Nat × Nat)) (v x : Nat) : List (Nat × Nat) := if (plk ps v).isSome = true then ps.map (fun p => if p.1 = v then (p.1, x) else p) else ps ++ [(v, x)]
def farC (ps : List (Nat × Nat)) : Cell := .dct false (ps.map fun p => nD p.1) (ps.map fun p => nD p.2)
theorem plk_cons (p : Nat × Nat) (ps : List (Nat × Nat)) (v : Nat) : plk (p :: ps) v = if p.1 = v then some p.2 else plk ps v := by
  unfold plk
  rw [List.find?_cons]
  by_cases h : p.1 = v
  · rw [decide_eq_true h, if_pos h]; rfl
  · rw [decide_eq_false h, if_neg h]
theorem dlk_far (v : Nat) : ∀ ps : List (Nat × Nat), dlk (ps.map fun p => nD p.1) (ps.map fun p => nD p.2) (Sum.inl (v : Int)) = (plk ps v).map nD
  | [] => rfl
  | p :: ps => by
    simp only [List.map_cons, dlk]
    rw [plk_cons]
    by_cases h : p.1 = v
    · rw [if_pos ((key_eq p.1 v).mpr h), if_pos h]; rfl
    · rw [if_neg (fun q => h ((key_eq p.1 v).mp q)), if_neg h]
      exact dlk_far v ps
theorem dhas_far (v : Nat) : ∀ ps : List (Nat × Nat), dhas (ps.map fun p => nD p.1) (Sum.inl (v : Int)) = (plk ps v).isSome
  | [] => rfl
  | p :: ps => by
    have ih := dhas_far v ps
    unfold dhas at ih ⊢
    simp only [List.map_cons, List.any_cons, ih]
    rw [plk_cons]
    by_cases h : p.1 = v
    · rw [decide_eq_true ((key_eq p.1 v).mpr h), if_pos h]; rfl
    · rw [decide_eq_false (fun q => h ((key_eq p.1 v).mp q)), if_neg h]; rfl
theorem dst_far (v x : Nat) : ∀ ps : List (Nat × Nat), dst (ps.map fun p => nD p.1) (ps.map fun p => nD p.2) (Sum.inl (v : Int)) (nD x) = (ps.map fun p => if p.1 = v then (p.1, x) else p).map fun p => nD p.2
  | [] => rfl
  | p :: ps => by
    simp only [List.map_cons, dst]
    rw [dst_far v x ps]
    congr 1
    by_cases h : p.1 = v
    · rw [if_pos ((key_eq p.1 v).mpr h), if_pos h]
    · rw [if_neg (fun q => h ((key_eq p.1 v).mp q)), if_neg h]
theorem plk_map (v x u : Nat) : ∀ ps : List (Nat × Nat), plk (ps.map fun p => if p.1 = v then (p.1, x) else p) u = if u = v ∧ (plk ps v).isSome = true then some x else plk ps u
  | [] => by simp [plk]
  | p :: ps => by
    rw [List.map_cons, plk_cons, plk_cons, plk_cons, plk_map v x u ps]
    by_cases h : p.1 = v
    · simp only [if_pos h]
      by_cases q : p.1 = u
      · have : u = v := by omega
        simp [q, this]
      · have : u ≠ v := by omega
        simp [q, this]
    · simp only [if_neg h]
      by_cases q : p.1 = u
      · have : u ≠ v := by omega
        simp [q, this]
      · simp [q]
theorem plk_app (v x u : Nat) : ∀ ps : List (Nat × Nat), plk ps v = none → plk (ps ++ [(v, x)]) u = if u = v then some x else plk ps u
  | [], _ => by
    rw [List.nil_append, plk_cons]
    by_cases h : u = v
    · rw [if_pos h.symm, if_pos h]
    · rw [if_neg (fun q => h q.symm), if_neg h]
  | p :: ps, e => by
    rw [plk_cons] at e
    split at e
    · cases e
    · rename_i h
      rw [List.cons_append, plk_cons, plk_cons, plk_app v x u ps e]
      by_cases q : p.1 = u
      · have : u ≠ v := by omega
        simp [q, this]
      · simp [q]
theorem plk_ppt (ps : List (Nat × Nat)) (v x : Nat) : plk (ppt ps v x) = putM (plk ps) v x := by
  funext u
  unfold ppt putM
  split
  · rename_i h
    rw [plk_map]
    by_cases q : u = v
    · rw [if_pos ⟨q, h⟩, if_pos q]
    · rw [if_neg (fun z => q z.1), if_neg q]
  · rename_i h
    rw [plk_app]
    simpa using h
theorem ppt_keys (ps : List (Nat × Nat)) (v x : Nat) : (ppt ps v x).map (·.1) = if (plk ps v).isSome = true then ps.map (·.1) else ps.map (·.1) ++ [v] := by
  unfold ppt
  split
  · rw [List.map_map]
    refine List.map_congr_left fun p _ => ?_
    show (if p.1 = v then (p.1, x) else p).1 = p.1
    split <;> rfl
  · rw [List.map_append]; rfl
theorem plk_mem {v : Nat} : ∀ {ps : List (Nat × Nat)}, (plk ps v).isSome = true ↔ v ∈ ps.map (·.1)
  | [] => by simp [plk]
  | p :: ps => by
    rw [plk_cons, List.map_cons, List.mem_cons]
    by_cases h : p.1 = v
    · rw [if_pos h]; simp [h]
    · rw [if_neg h, plk_mem]
      have : v ≠ p.1 := fun q => h q.symm
      simp [this]
theorem ppt_nd {ps : List (Nat × Nat)} {v x : Nat} (nd : (ps.map (·.1)).Nodup) : ((ppt ps v x).map (·.1)).Nodup := by
  rw [ppt_keys]
  split
  · exact nd
  · rename_i h
    exact nodup_snoc nd fun m => h (plk_mem.mpr m)
theorem dcell_far (h : Hs) (ps : List (Nat × Nat)) : dcell (h ++ [farC ps]) (.ref h.length) = some (ps.map fun p => nD p.1, ps.map fun p => nD p.2) := by
  simp only [dcell]
  rw [List.getElem?_append_right (Nat.le_refl _)]
  simp [farC]
theorem dput_far (h : Hs) {ps : List (Nat × Nat)} (v x : Nat) (hl : ps.length < 1000) : dputH (.ref h.length) (nD v) (nD x) (h ++ [farC ps]) = some (h ++ [farC (ppt ps v x)]) := by
  have hlim : lim = 4000000 := rfl
  unfold dputH
  rw [dcell_far, dkey_nat]
  simp only
  rw [if_pos (by rw [List.length_map]; omega), dhas_far, dst_far]
  have : ∀ c, (h ++ [farC ps]).set h.length c = h ++ [c] := fun c => by
    rw [List.set_append_right _ _ (Nat.le_refl _)]; simp
  rw [this]
  unfold ppt
  by_cases q : (plk ps v).isSome = true
  · rw [if_pos q, if_pos q]
    have ek : (ps.map fun p => nD p.1) = (ps.map fun p => if p.1 = v then (p.1, x) else p).map fun p => nD p.1 := by
      rw [List.map_map]
      refine List.map_congr_left fun p _ => ?_
      show nD p.1 = nD (if p.1 = v then (p.1, x) else p).1
      split <;> rfl
    unfold farC
    rw [← ek]
  · rw [if_neg q, if_neg q]
    simp [farC]
/-- arrows: (house, line, near, cost) -/
abbrev Aro := Nat × Nat × Nat × Nat
def aroD (a : Aro) : D := .tup [nD a.1, nD a.2.1, nD a.2.2.1, nD a.2.2.2]
def aros1 (w : Wv) (l : Nat) : List Aro := match w.ls[l]? with
  | some ln => [(ln.one, l, ln.other, ln.cost), (ln.other, l, ln.one, ln.cost)]
  | none => []
theorem aros1_len (w : Wv) (l : Nat) : (aros1 w l).length ≤ 2 := by
  unfold aros1
  split <;> simp
theorem aros1_at {w : Wv} {l : Nat} {ln : Ln} (e : w.ls[l]? = some ln) : aros1 w l = [(ln.one, l, ln.other, ln.cost), (ln.other, l, ln.one, ln.cost)] := by
  unfold aros1
  rw [e]
def arosL (w : Wv) (ls : List Nat) : List Aro := ls.flatMap (aros1 w)
def aroA (a : Aro) : Arw := (a.2.2.1, a.1, a.2.2.2)
def arrowsFn : Fn := ⟨2, 7, [.own 2 (.lst []), .fors (.nm 3) (.over (.var 1)) [.asg (.tp [4, 5, 6]) (.sl (.idx (.idx (.var 0) (.int 1)) (.var 3)) .non (.int 3)), .mut .extend 2 [(.lst [(.tup [(.var 4), (.var 3), (.var 5), (.var 6)]), (.tup [(.var 5), (.var 3), (.var 4), (.var 6)])])]], .reto 2], true⟩
def farsFn : Fn := ⟨3, 9, [.asg (.nm 3) (.dnew1 (.var 1) (.int 0)), .fors (.nm 4) (.rng (.var 2)) [.fors (.tp [5, 6, 7, 8]) (.over (.var 0)) [.ife (.both true [(.din false (.var 7) (.var 3)), (.both false [(.din true (.var 5) (.var 3)), (.cmp .lt (.bin .add (.dget (.var 3) (.var 7)) (.var 8)) (.dget (.var 3) (.var 5)))])]) [.dput (.var 3) (.var 5) (.bin .add (.dget (.var 3) (.var 7)) (.var 8))] []]], .ret (.var 3)], false⟩
section
variable {fns : List (String × Fn)} {k : Nat} {h : Hs} {w : Wv}
theorem take_fmA {α β : Type} {f : α → List β} {xs : List α} {i : Nat} {x : α} (e : xs[i]? = some x) : (xs.take (i + 1)).flatMap f = (xs.take i).flatMap f ++ f x := by
  rw [List.take_succ, e, List.flatMap_append]
  simp
theorem aros_take {ls : List Nat} {i l : Nat} {ln : Ln} (e : ls[i]? = some l) (e2 : w.ls[l]? = some ln) : arosL w (ls.take (i + 1)) = arosL w (ls.take i) ++ [(ln.one, l, ln.other, ln.cost), (ln.other, l, ln.one, ln.cost)] := by
  unfold arosL
  rw [take_fmA e, aros1_at e2]
theorem aros_len (w : Wv) : ∀ ls : List Nat, (arosL w ls).length ≤ 2 * ls.length
  | [] => Nat.le_refl _
  | l :: r => by
    have ih := aros_len w r
    unfold arosL at ih ⊢
    rw [List.flatMap_cons, List.length_append, List.length_cons]
    have := aros1_len w l
    omega
theorem arrows_e (hf : fns.lookup "arrows_of" = some arrowsFn) {ls : List Nat} (lo : LsOk w ls) : callF fns (k + 1) "arrows_of" [w.d, .lst (ls.map nD)] h = some (.lst ((arosL w ls).map aroD), h) := by
  refine WC.eq (c_defF hf rfl ?_)
  show WS _ arrowsFn.body [_, _, _, _, _, _, _] _ _
  unfold arrowsFn
  have hlim : lim = 4000000 := rfl
  repeat kct_strs
  refine s_for ?_
  repeat kct_strs
  refine ⟨fun i ρ h' => h' = h ∧ ∃ s3 s4 s5 s6, ρ = [.val w.d, .val (.lst (ls.map nD)), .own ((arosL w (ls.take i)).map aroD), s3, s4, s5, s6], ⟨rfl, _, _, _, _, rfl⟩, ?_, ?_⟩
  · rintro i d ρ h3 ei ⟨rfl, s3, s4, s5, s6, rfl⟩
    obtain ⟨l, el, rfl⟩ := nat_at ei
    have hl := lo.2 l (List.mem_of_getElem? el)
    have eln : w.ls[l]? = some w.ls[l] := List.getElem?_eq_getElem hl
    generalize w.ls[l] = ln at eln
    have al := aros_len w (ls.take i)
    have tl : (ls.take i).length ≤ 100 := by rw [List.length_take]; have := lo.1; omega
    refine .mk rfl ?_
    simp only [List.set_cons_zero, List.set_cons_succ]
    repeat kct_strs
    refine x_tup (z := w.ld) rfl ?_
    unfold Wv.ld
    repeat kct_strs
    refine x_tup (z := ln.d) (ld_at eln) ?_
    unfold Ln.d
    repeat kct_strs
    refine o_ext (by rw [List.length_map]; simp only [List.length_cons, List.length_nil]; omega) ?_
    repeat kct_strs
    rw [aros_take el eln, List.map_append]
    exact ⟨rfl, _, _, _, _, rfl⟩
  · rintro ρ h3 ⟨rfl, s3, s4, s5, s6, rfl⟩
    rw [List.length_map, List.take_length]
    repeat kct_strs
    exact ⟨rfl, rfl⟩
/-- passes over arrows of houses below n -/
theorem fars_w (hf : fns.lookup "fars_from" = some farsFn) {as : List Aro} {n root many : Nat} (hn : n ≤ 100) (hr : root < n) (hm : many ≤ 100) (ha : ∀ a ∈ as, a.1 < n) {P : D → Hs → Prop}
    (q : ∀ ps, plk ps = passes (as.map aroA) (initM root) many → (ps.map (·.1)).Nodup → P (.ref h.length) (h ++ [farC ps])) : WC (callF fns (k + 1)) "fars_from" [.lst (as.map aroD), nD root, nD many] h P := by
  refine c_def hf rfl ?_
  show WS _ farsFn.body [_, _, _, _, _, _, _, _, _] _ _
  unfold farsFn
  have hlim : lim = 4000000 := rfl
  repeat kct_strs
  have e0 : h ++ [Cell.dct false [nD root] [D.int 0]] = h ++ [farC [(root, 0)]] := rfl
  rw [e0]
  have i0 : plk [(root, 0)] = initM root := by
    funext u
    rw [plk_cons]
    unfold initM putM
    by_cases z : u = root
    · rw [if_pos z.symm, if_pos z]
    · rw [if_neg (fun y => z y.symm), if_neg z]; rfl
  refine s_for ?_
  repeat kct_strs
  refine ⟨by omega, by omega, fun i ρ h' => ∃ (ps : List (Nat × Nat)) (s4 s5 s6 s7 s8 : Sl), h' = h ++ [farC ps] ∧ plk ps = passes (as.map aroA) (initM root) i ∧ (ps.map (·.1)).Nodup ∧ (∀ v ∈ ps.map (·.1), v < n) ∧
    ρ = [.val (.lst (as.map aroD)), .val (nD root), .val (nD many), .val (.ref h.length), s4, s5, s6, s7, s8], ⟨[(root, 0)], _, _, _, _, _, rfl, i0, by simp, (fun v m => by simp at m; omega), rfl⟩, ?_, ?_⟩
  · rintro i d ρ h3 ei ⟨ps, s4, s5, s6, s7, s8, rfl, ep, nd, lt, rfl⟩
    refine .mk rfl ?_
    simp only [List.set_cons_zero, List.set_cons_succ]
    refine s_for ?_
    repeat kct_strs
    refine ⟨fun j ρ h' => ∃ (ps : List (Nat × Nat)) (s5 s6 s7 s8 : Sl), h' = h ++ [farC ps] ∧ plk ps = pass ((as.take j).map aroA) (passes (as.map aroA) (initM root) i) ∧ (ps.map (·.1)).Nodup ∧ (∀ v ∈ ps.map (·.1), v < n) ∧
      ρ = [.val (.lst (as.map aroD)), .val (nD root), .val (nD many), .val (.ref h.length), .val d, s5, s6, s7, s8], ⟨ps, _, _, _, _, rfl, ep, nd, lt, rfl⟩, ?_, ?_⟩
    · clear ep nd lt ps
      rintro j d2 ρ h4 ej ⟨ps, t5, t6, t7, t8, rfl, ep, nd, lt, rfl⟩
      obtain ⟨a, ea, rfl⟩ : ∃ a, as[j]? = some a ∧ d2 = aroD a := by
        rw [List.getElem?_map] at ej
        cases q : as[j]? with
        | none => rw [q] at ej; cases ej
        | some l => rw [q] at ej; exact ⟨l, rfl, (Option.some.inj ej).symm⟩
      obtain ⟨hs, l, nr, c⟩ := a
      have hlt : hs < n := ha _ (List.mem_of_getElem? ea)
      have es : pass ((as.take (j + 1)).map aroA) (passes (as.map aroA) (initM root) i) = rlx (plk ps) (nr, hs, c) := by
        rw [ep, List.take_succ, ea, List.map_append]
        unfold pass
        rw [List.foldl_append]
        rfl
      have pl : ps.length ≤ n := by
        have := nodup_len nd lt
        rwa [List.length_map] at this
      clear ep
      unfold aroD
      refine .mk rfl ?_
      simp only [List.set_cons_zero, List.set_cons_succ]
      repeat kct_strs
      refine ⟨_, _, _, dcell_far h ps, dkey_nat nr, ?_⟩
      rw [dlk_far]
      cases e1 : plk ps nr with
      | none =>
        repeat kct_strs
        have er : rlx (plk ps) (nr, hs, c) = plk ps := by unfold rlx; simp only [e1]
        exact ⟨ps, _, _, _, _, rfl, by rw [es, er], nd, lt, rfl⟩
      | some x =>
        have put : ∃ ps', dputH (.ref h.length) (nD hs) (nD (x + c)) (h ++ [farC ps]) = some (h ++ [farC ps']) ∧ plk ps' = putM (plk ps) hs (x + c) ∧ (ps'.map (·.1)).Nodup ∧ ∀ v ∈ ps'.map (·.1), v < n := by
          refine ⟨_, dput_far h hs (x + c) (by omega), plk_ppt _ _ _, ppt_nd nd, fun v m => ?_⟩
          rw [ppt_keys] at m
          split at m
          · exact lt v m
          · rcases List.mem_append.mp m with m | m
            · exact lt v m
            · rw [List.mem_singleton.mp m]; exact hlt
        obtain ⟨ps', dp, pp, nd', lt'⟩ := put
        have ec : (x : Int) + (c : Int) = ((x + c : Nat) : Int) := by omega
        repeat kct_strs
        refine ⟨_, _, _, dcell_far h ps, dkey_nat hs, ?_⟩
        rw [dlk_far]
        cases e2 : plk ps hs with
        | none =>
          have er : rlx (plk ps) (nr, hs, c) = putM (plk ps) hs (x + c) := by unfold rlx; simp only [e1, e2]
          repeat kct_strs
          refine ⟨_, _, _, _, dcell_far h ps, dkey_nat nr, by rw [dlk_far, e1]; rfl, ?_⟩
          repeat kct_strs
          rw [ec]
          refine .mk dp ?_
          repeat kct_strs
          exact ⟨ps', _, _, _, _, rfl, by rw [es, er, pp], nd', lt', rfl⟩
        | some y =>
          repeat kct_strs
          refine ⟨_, _, _, _, dcell_far h ps, dkey_nat nr, by rw [dlk_far, e1]; rfl, ?_⟩
          repeat kct_strs
          refine ⟨_, _, _, _, dcell_far h ps, dkey_nat hs, by rw [dlk_far, e2]; rfl, ?_⟩
          repeat kct_strs
          rw [ec]
          refine dec2 (fun cc => ?_) fun cc => ?_
          · have er : rlx (plk ps) (nr, hs, c) = putM (plk ps) hs (x + c) := by unfold rlx; simp only [e1, e2]; rw [if_pos (by omega)]
            repeat kct_strs
            refine ⟨_, _, _, _, dcell_far h ps, dkey_nat nr, by rw [dlk_far, e1]; rfl, ?_⟩
            repeat kct_strs
            rw [ec]
            refine .mk dp ?_
            repeat kct_strs
            exact ⟨ps', _, _, _, _, rfl, by rw [es, er, pp], nd', lt', rfl⟩
          · have er : rlx (plk ps) (nr, hs, c) = plk ps := by unfold rlx; simp only [e1, e2]; rw [if_neg (by omega)]
            repeat kct_strs
            exact ⟨ps, _, _, _, _, rfl, by rw [es, er], nd, lt, rfl⟩
    · clear ep nd lt ps
      rintro ρ h4 ⟨ps, t5, t6, t7, t8, rfl, ep, nd, lt, rfl⟩
      repeat kct_strs
      rw [List.length_map, List.take_length] at ep
      exact ⟨ps, _, _, _, _, _, rfl, ep, nd, lt, rfl⟩
  · rintro ρ h3 ⟨ps, s4, s5, s6, s7, s8, rfl, ep, nd, lt, rfl⟩
    rw [rngL_len] at ep
    repeat kct_strs
    exact q ps (by rw [ep]; congr 1) nd
end
end Ev

namespace Ev
local macro_rules | `(tactic| kct_strs) => `(tactic| first | refine w_var rfl ?_ | refine w_int ?_ | refine w_bl ?_ | refine w_str ?_ | refine w_non ?_ | refine w_bor rfl ?_ | refine w_glob ?_ | refine w_bin ?_ | refine w_cmp ?_ | refine w_call ?_ | refine w_pcall ?_ | refine w_dnew ?_ | refine w_dnew1 ?_ | refine w_dget ?_ | refine w_din ?_ | refine w_dget2 ?_ | refine s_dput ?_ | refine w_rev ?_ | refine w_trng ?_ | refine w_lrng ?_ | refine w_cons ?_ | refine w_nil ?_ | refine w_bi ?_ | refine w_idx ?_ | refine w_tup ?_ | refine w_lst ?_ | refine w_isin ?_ | refine w_both ?_ | refine w_and ?_ | refine w_and1 ?_ | refine w_not ?_ | refine w_ife ?_ | refine w_sl ?_ | refine w_sset ?_ | refine w_sm ?_ | refine w_cmp2 ?_ | refine w_neg ?_ | refine w_alloc ?_ | refine w_over ?_ | refine w_rng ?_ | refine w_rng2 ?_ | refine w_enum ?_ | refine w_zip ?_ | refine s_nil ?_ | refine s_ret ?_ | refine s_expr ?_ | refine s_reto rfl ?_ | (refine s_retf ?_) | refine s_par ?_ | (refine s_asg ?_; simp only [List.set_cons_zero, List.set_cons_succ]) | refine s_asgT ?_ | refine s_ife ?_ | refine s_cset ?_ | (refine s_own rfl ?_; simp only [List.set_cons_zero, List.set_cons_succ]) | (refine s_mut rfl ?_; simp only [List.set_cons_zero, List.set_cons_succ]) | (refine s_frz rfl ?_; simp only [List.set_cons_zero, List.set_cons_succ]) | refine s_brk ?_ | refine s_cnt ?_ | refine s_pas ?_ | refine WB.mk ?_ | refine o_add ?_ | refine o_sub ?_ | refine o_lt ?_ | refine o_gt ?_ | refine o_le ?_ | refine o_ge ?_ | refine o_eq ?_ | refine o_ne ?_ | refine o_eqb ?_ | refine o_neb ?_ | refine o_isn ?_ | refine o_notn ?_ | refine o_isnb ?_ | refine o_notnb ?_ | refine o_lenL ?_ | refine o_lenT ?_ | refine o_lenS ?_ | refine o_lenX ?_ | refine o_abs ?_ | refine o_min ?_ | refine o_intb ?_ | refine o_listL ?_ | refine o_listT ?_ | refine o_tupL ?_ | refine o_tupT ?_ | refine ⟨Nat.le_of_ble_eq_true rfl, ?_⟩ | refine knT ?_ | refine knF ?_ | refine knTT ?_ | refine knFF ?_ | refine knTF ?_ | refine knFT ?_ | refine o_ty rfl ?_ | (refine o_bind rfl ?_; simp only [List.set_cons_zero, List.set_cons_succ]) | refine o_cutL ?_ | refine o_cutT ?_ | refine o_optX rfl ?_ | refine o_items rfl ?_ | (refine o_setPar rfl ?_; simp only [List.set_cons_zero, List.set_cons_succ]) | refine o_rev ?_ | refine o_revT ?_ | refine o_neg ?_ | refine o_negB ?_ | refine o_addB ?_ | refine o_subB ?_ | refine ⟨Or.inl rfl, ?_⟩ | refine ⟨Or.inr rfl, ?_⟩ | refine o_over rfl ?_ | refine o_alloc rfl ?_ | refine o_modL rfl ?_ | refine o_fdivL rfl ?_ | refine ⟨_, rfl, ?_⟩)
open PySem L2
def lfarsFn : Fn := ⟨3, 11, [.asg (.nm 3) (.dnew1 (.var 2) (.int 0)), .fors (.nm 4) (.over (.idx (.var 0) (.int 0))) [.fors (.nm 5) (.over (.var 1)) [.asg (.tp [6, 7, 8]) (.sl (.idx (.idx (.var 0) (.int 1)) (.var 5)) .non (.int 3)), .fors (.tp [9, 10]) (.over (.tup [(.tup [(.var 6), (.var 7)]), (.tup [(.var 7), (.var 6)])])) [.ife (.din false (.var 9) (.var 3)) [.dput (.var 3) (.var 10) (.bi .min2 [(.dget2 (.var 3) (.var 10) (.bin .add (.dget (.var 3) (.var 9)) (.var 8))), (.bin .add (.dget (.var 3) (.var 9)) (.var 8))])] []]]], .ret (.var 3)], false⟩
def laro1 (w : Wv) (l : Nat) : List Arw := match w.ls[l]? with
  | some ln => [(ln.one, ln.other, ln.cost), (ln.other, ln.one, ln.cost)]
  | none => []
theorem laro1_at {w : Wv} {l : Nat} {ln : Ln} (e : w.ls[l]? = some ln) : laro1 w l = [(ln.one, ln.other, ln.cost), (ln.other, ln.one, ln.cost)] := by
  unfold laro1
  rw [e]
def larosL (w : Wv) (ls : List Nat) : List Arw := ls.flatMap (laro1 w)
theorem laro_same (w : Wv) (ls : List Nat) (e : Arw) : e ∈ (arosL w ls).map aroA ↔ e ∈ larosL w ls := by
  unfold arosL larosL
  rw [List.map_flatMap, List.mem_flatMap, List.mem_flatMap]
  have key : ∀ l, e ∈ (aros1 w l).map aroA ↔ e ∈ laro1 w l := fun l => by
    cases q : w.ls[l]? with
    | some ln =>
      rw [aros1_at q, laro1_at q]
      simp only [aroA, List.map_cons, List.map_nil, List.mem_cons, List.not_mem_nil, or_false]
      exact Or.comm
    | none =>
      have a : aros1 w l = [] := by unfold aros1; rw [q]
      have b : laro1 w l = [] := by unfold laro1; rw [q]
      rw [a, b]; rfl
  exact ⟨fun ⟨l, lm, h⟩ => ⟨l, lm, (key l).mp h⟩, fun ⟨l, lm, h⟩ => ⟨l, lm, (key l).mpr h⟩⟩
theorem putM_self {m : Mp} {v y : Nat} (h : m v = some y) : putM m v y = m := by
  funext u
  unfold putM
  split
  · rename_i e; rw [e, h]
  · rfl
section
variable {fns : List (String × Fn)} {k : Nat} {h : Hs} {w : Wv}
/-- one arrow of the law's passes -/
theorem lrlx {m : Mp} {a b c x : Nat} (ha : m a = some x) : rlx m (a, b, c) = putM m b (if x + c < (m b).getD (x + c) then x + c else (m b).getD (x + c)) := by
  unfold rlx
  simp only [ha]
  cases hb : m b with
  | none => simp
  | some y =>
    simp only [Option.getD_some]
    split
    · rfl
    · rw [putM_self hb]
theorem lfars_w (hf : fns.lookup "_law_fars" = some lfarsFn) (f : w.Fit) {ls : List Nat} (lo : LsOk w ls) {root : Nat} (hr : root < w.hs.length) {P : D → Hs → Prop}
    (q : ∀ ps, plk ps = passes (larosL w ls) (initM root) w.hs.length → (ps.map (·.1)).Nodup → P (.ref h.length) (h ++ [farC ps])) : WC (callF fns (k + 1)) "_law_fars" [w.d, .lst (ls.map nD), nD root] h P := by
  refine c_def hf rfl ?_
  show WS _ lfarsFn.body [_, _, _, _, _, _, _, _, _, _, _] _ _
  unfold lfarsFn
  have hlim : lim = 4000000 := rfl
  have hn := f.h1
  repeat kct_strs
  have e0 : h ++ [Cell.dct false [nD root] [D.int 0]] = h ++ [farC [(root, 0)]] := rfl
  rw [e0]
  have i0 : plk [(root, 0)] = initM root := by
    funext u
    rw [plk_cons]
    unfold initM putM
    by_cases z : u = root
    · rw [if_pos z.symm, if_pos z]
    · rw [if_neg (fun y => z y.symm), if_neg z]; rfl
  refine s_for ?_
  repeat kct_strs
  refine x_tup (z := w.hd) rfl ?_
  unfold Wv.hd
  repeat kct_strs
  refine ⟨fun i ρ h' => ∃ (ps : List (Nat × Nat)) (s4 s5 s6 s7 s8 s9 s10 : Sl), h' = h ++ [farC ps] ∧ plk ps = passes (larosL w ls) (initM root) i ∧ (ps.map (·.1)).Nodup ∧ (∀ v ∈ ps.map (·.1), v < w.hs.length) ∧
    ρ = [.val w.d, .val (.lst (ls.map nD)), .val (nD root), .val (.ref h.length), s4, s5, s6, s7, s8, s9, s10], ⟨[(root, 0)], _, _, _, _, _, _, _, rfl, i0, by simp, (fun v m => by simp at m; omega), rfl⟩, ?_, ?_⟩
  · rintro i d ρ h3 ei ⟨ps, s4, s5, s6, s7, s8, s9, s10, rfl, ep, nd, lt, rfl⟩
    refine .mk rfl ?_
    simp only [List.set_cons_zero, List.set_cons_succ]
    refine s_for ?_
    repeat kct_strs
    refine ⟨fun j ρ h' => ∃ (ps : List (Nat × Nat)) (s5 s6 s7 s8 s9 s10 : Sl), h' = h ++ [farC ps] ∧ plk ps = pass (larosL w (ls.take j)) (passes (larosL w ls) (initM root) i) ∧ (ps.map (·.1)).Nodup ∧ (∀ v ∈ ps.map (·.1), v < w.hs.length) ∧
      ρ = [.val w.d, .val (.lst (ls.map nD)), .val (nD root), .val (.ref h.length), .val d, s5, s6, s7, s8, s9, s10], ⟨ps, _, _, _, _, _, _, rfl, ep, nd, lt, rfl⟩, ?_, ?_⟩
    · clear ep nd lt ps
      rintro j d2 ρ h4 ej ⟨ps, t5, t6, t7, t8, t9, t10, rfl, ep, nd, lt, rfl⟩
      obtain ⟨l, el, rfl⟩ := nat_at ej
      have hl := lo.2 l (List.mem_of_getElem? el)
      have eln : w.ls[l]? = some w.ls[l] := List.getElem?_eq_getElem hl
      generalize w.ls[l] = ln at eln
      have lnok := f.l2 ln (List.mem_of_getElem? eln)
      have oa := lnok.a
      have ob := lnok.b
      have es : pass (larosL w (ls.take (j + 1))) (passes (larosL w ls) (initM root) i) = pass [(ln.one, ln.other, ln.cost), (ln.other, ln.one, ln.cost)] (plk ps) := by
        rw [ep]
        unfold larosL
        rw [take_fmA el, laro1_at eln]
        unfold pass
        rw [List.foldl_append]
      clear ep
      refine .mk rfl ?_
      simp only [List.set_cons_zero, List.set_cons_succ]
      repeat kct_strs
      refine x_tup (z := w.ld) rfl ?_
      unfold Wv.ld
      repeat kct_strs
      refine x_tup (z := ln.d) (ld_at eln) ?_
      unfold Ln.d
      repeat kct_strs
      refine s_for ?_
      repeat kct_strs
      refine ⟨fun t ρ h' => ∃ (qs : List (Nat × Nat)) (s9 s10 : Sl), h' = h ++ [farC qs] ∧ plk qs = pass (([(ln.one, ln.other, ln.cost), (ln.other, ln.one, ln.cost)] : List Arw).take t) (plk ps) ∧ (qs.map (·.1)).Nodup ∧ (∀ v ∈ qs.map (·.1), v < w.hs.length) ∧
        ρ = [.val w.d, .val (.lst (ls.map nD)), .val (nD root), .val (.ref h.length), .val d, .val (nD l), .val (nD ln.one), .val (nD ln.other), .val (nD ln.cost), s9, s10], ⟨ps, _, _, rfl, rfl, nd, lt, rfl⟩, ?_, ?_⟩
      · rintro t d3 ρ h5 et ⟨qs, u9, u10, rfl, eq, nd2, lt2, rfl⟩
        obtain ⟨a, b, rfl, hb, e3⟩ : ∃ a b, d3 = .tup [nD a, nD b] ∧ b < w.hs.length ∧ pass (([(ln.one, ln.other, ln.cost), (ln.other, ln.one, ln.cost)] : List Arw).take (t + 1)) (plk ps) = rlx (plk qs) (a, b, ln.cost) := by
          match t, et with
          | 0, et =>
            refine ⟨ln.one, ln.other, (Option.some.inj et).symm, ob, ?_⟩
            rw [eq]; rfl
          | 1, et =>
            refine ⟨ln.other, ln.one, (Option.some.inj et).symm, by omega, ?_⟩
            rw [eq]; rfl
          | t + 2, et => simp at et
        have pl : qs.length ≤ w.hs.length := by
          have := nodup_len nd2 lt2
          rwa [List.length_map] at this
        refine .mk rfl ?_
        simp only [List.set_cons_zero, List.set_cons_succ]
        repeat kct_strs
        refine ⟨_, _, _, dcell_far h qs, dkey_nat a, ?_⟩
        rw [dlk_far]
        cases e1 : plk qs a with
        | none =>
          repeat kct_strs
          have er : rlx (plk qs) (a, b, ln.cost) = plk qs := by unfold rlx; simp only [e1]
          exact ⟨qs, _, _, rfl, by rw [e3, er], nd2, lt2, rfl⟩
        | some x =>
          have er := lrlx (b := b) (c := ln.cost) e1
          have ec : (x : Int) + (ln.cost : Int) = ((x + ln.cost : Nat) : Int) := by omega
          repeat kct_strs
          refine ⟨_, dcell_far h qs, ?_⟩
          repeat kct_strs
          refine ⟨_, _, _, _, dcell_far h qs, dkey_nat a, by rw [dlk_far, e1]; rfl, ?_⟩
          repeat kct_strs
          rw [ec]
          refine ⟨_, _, _, dcell_far h qs, dkey_nat b, ?_⟩
          rw [dlk_far]
          repeat kct_strs
          refine ⟨_, _, _, _, dcell_far h qs, dkey_nat a, by rw [dlk_far, e1]; rfl, ?_⟩
          repeat kct_strs
          rw [ec]
          have eg : ((plk qs b).map nD).getD (D.int ((x + ln.cost : Nat) : Int)) = nD ((plk qs b).getD (x + ln.cost)) := by
            cases plk qs b <;> rfl
          rw [eg]
          refine o_min ?_
          have ei : (D.int (if ((x + ln.cost : Nat) : Int) < (((plk qs b).getD (x + ln.cost) : Nat) : Int) then ((x + ln.cost : Nat) : Int) else (((plk qs b).getD (x + ln.cost) : Nat) : Int))) = nD (if x + ln.cost < (plk qs b).getD (x + ln.cost) then x + ln.cost else (plk qs b).getD (x + ln.cost)) := by
            by_cases z : x + ln.cost < (plk qs b).getD (x + ln.cost)
            · rw [if_pos z, if_pos (by omega)]
            · rw [if_neg z, if_neg (by omega)]
          rw [ei]
          generalize (if x + ln.cost < (plk qs b).getD (x + ln.cost) then x + ln.cost else (plk qs b).getD (x + ln.cost)) = val at er
          repeat kct_strs
          refine .mk (dput_far h b val (by omega)) ?_
          repeat kct_strs
          refine ⟨_, _, _, rfl, by rw [e3, er, plk_ppt], ppt_nd nd2, fun v m => ?_, rfl⟩
          rw [ppt_keys] at m
          split at m
          · exact lt2 v m
          · rcases List.mem_append.mp m with m | m
            · exact lt2 v m
            · rw [List.mem_singleton.mp m]; exact hb
      · rintro ρ h5 ⟨qs, u9, u10, rfl, eq, nd2, lt2, rfl⟩
        repeat kct_strs
        exact ⟨qs, _, _, _, _, _, _, rfl, by rw [es]; exact eq, nd2, lt2, rfl⟩
    · clear ep nd lt ps
      rintro ρ h4 ⟨ps, t5, t6, t7, t8, t9, t10, rfl, ep, nd, lt, rfl⟩
      repeat kct_strs
      rw [List.length_map, List.take_length] at ep
      exact ⟨ps, _, _, _, _, _, _, _, rfl, ep, nd, lt, rfl⟩
  · rintro ρ h3 ⟨ps, s4, s5, s6, s7, s8, s9, s10, rfl, ep, nd, lt, rfl⟩
    rw [List.length_map] at ep
    repeat kct_strs
    exact q ps ep nd
end
end Ev

namespace Ev
local macro_rules | `(tactic| kct_strs) => `(tactic| first | refine w_var rfl ?_ | refine w_int ?_ | refine w_bl ?_ | refine w_str ?_ | refine w_non ?_ | refine w_bor rfl ?_ | refine w_glob ?_ | refine w_bin ?_ | refine w_cmp ?_ | refine w_call ?_ | refine w_pcall ?_ | refine w_dnew ?_ | refine w_dnew1 ?_ | refine w_dget ?_ | refine w_din ?_ | refine w_dget2 ?_ | refine s_dput ?_ | refine w_rev ?_ | refine w_trng ?_ | refine w_lrng ?_ | refine w_cons ?_ | refine w_nil ?_ | refine w_bi ?_ | refine w_idx ?_ | refine w_tup ?_ | refine w_lst ?_ | refine w_isin ?_ | refine w_both ?_ | refine w_and ?_ | refine w_and1 ?_ | refine w_not ?_ | refine w_ife ?_ | refine w_sl ?_ | refine w_sset ?_ | refine w_sm ?_ | refine w_cmp2 ?_ | refine w_neg ?_ | refine w_alloc ?_ | refine w_over ?_ | refine w_rng ?_ | refine w_rng2 ?_ | refine w_enum ?_ | refine w_zip ?_ | refine s_nil ?_ | refine s_ret ?_ | refine s_expr ?_ | refine s_reto rfl ?_ | (refine s_retf ?_) | refine s_par ?_ | (refine s_asg ?_; simp only [List.set_cons_zero, List.set_cons_succ]) | refine s_asgT ?_ | refine s_ife ?_ | refine s_cset ?_ | (refine s_own rfl ?_; simp only [List.set_cons_zero, List.set_cons_succ]) | (refine s_mut rfl ?_; simp only [List.set_cons_zero, List.set_cons_succ]) | (refine s_frz rfl ?_; simp only [List.set_cons_zero, List.set_cons_succ]) | refine s_brk ?_ | refine s_cnt ?_ | refine s_pas ?_ | refine WB.mk ?_ | refine o_add ?_ | refine o_sub ?_ | refine o_lt ?_ | refine o_gt ?_ | refine o_le ?_ | refine o_ge ?_ | refine o_eq ?_ | refine o_ne ?_ | refine o_eqb ?_ | refine o_neb ?_ | refine o_isn ?_ | refine o_notn ?_ | refine o_isnb ?_ | refine o_notnb ?_ | refine o_lenL ?_ | refine o_lenT ?_ | refine o_lenS ?_ | refine o_lenX ?_ | refine o_abs ?_ | refine o_min ?_ | refine o_intb ?_ | refine o_listL ?_ | refine o_listT ?_ | refine o_tupL ?_ | refine o_tupT ?_ | refine ⟨Nat.le_of_ble_eq_true rfl, ?_⟩ | refine knT ?_ | refine knF ?_ | refine knTT ?_ | refine knFF ?_ | refine knTF ?_ | refine knFT ?_ | refine o_ty rfl ?_ | (refine o_bind rfl ?_; simp only [List.set_cons_zero, List.set_cons_succ]) | refine o_cutL ?_ | refine o_cutT ?_ | refine o_optX rfl ?_ | refine o_items rfl ?_ | (refine o_setPar rfl ?_; simp only [List.set_cons_zero, List.set_cons_succ]) | refine o_rev ?_ | refine o_revT ?_ | refine o_neg ?_ | refine o_negB ?_ | refine o_addB ?_ | refine o_subB ?_ | refine ⟨Or.inl rfl, ?_⟩ | refine ⟨Or.inr rfl, ?_⟩ | refine o_over rfl ?_ | refine o_alloc rfl ?_ | refine o_modL rfl ?_ | refine o_fdivL rfl ?_ | refine ⟨_, rfl, ?_⟩)
open PySem L2
def lessP (y a : Nat × Nat) : Prop := y.1 < a.1 ∨ (y.1 = a.1 ∧ y.2 < a.2)
instance (y a : Nat × Nat) : Decidable (lessP y a) := by unfold lessP; infer_instance
def minP (x : Nat × Nat) (xs : List (Nat × Nat)) : Nat × Nat := xs.foldl (fun a y => if lessP y a then y else a) x
theorem minP_mem : ∀ {xs : List (Nat × Nat)} {x : Nat × Nat}, minP x xs ∈ x :: xs
  | [], x => List.mem_cons_self
  | y :: ys, x => by
    show minP (if lessP y x then y else x) ys ∈ x :: y :: ys
    have := minP_mem (xs := ys) (x := if lessP y x then y else x)
    rcases List.mem_cons.mp this with e | m
    · rw [e]
      split
      · exact List.mem_cons_of_mem _ List.mem_cons_self
      · exact List.mem_cons_self
    · exact List.mem_cons_of_mem _ (List.mem_cons_of_mem _ m)
theorem minP_le : ∀ {xs : List (Nat × Nat)} {x : Nat × Nat}, ∀ y ∈ x :: xs, ¬ lessP y (minP x xs)
  | [], x, y, m => by
    rcases List.mem_cons.mp m with e | m
    · subst e
      show ¬ lessP y y
      unfold lessP; omega
    · nomatch m
  | z :: zs, x, y, m => by
    show ¬ lessP y (minP (if lessP z x then z else x) zs)
    have ih := minP_le (xs := zs) (x := if lessP z x then z else x)
    have h0 := ih _ List.mem_cons_self
    rcases List.mem_cons.mp m with e | m
    · subst e
      by_cases q : lessP z y
      · rw [if_pos q] at h0 ⊢
        unfold lessP at *
        omega
      · rw [if_neg q] at h0 ⊢
        exact h0
    · rcases List.mem_cons.mp m with e | m
      · subst e
        by_cases q : lessP y x
        · rw [if_pos q] at h0 ⊢
          exact h0
        · rw [if_neg q] at h0 ⊢
          unfold lessP at *
          omega
      · exact ih y (List.mem_cons_of_mem _ m)
theorem minP_same {x y : Nat × Nat} {xs ys : List (Nat × Nat)} (h : ∀ p, p ∈ x :: xs ↔ p ∈ y :: ys) : minP x xs = minP y ys := by
  have a := minP_le _ ((h _).mpr (minP_mem (x := y) (xs := ys)))
  have b := minP_le _ ((h _).mp (minP_mem (x := x) (xs := xs)))
  unfold lessP at a b
  exact Prod.ext (by omega) (by omega)
theorem encD_sD (p : Nat × Nat) : encD (sD p) = .tuple [.int p.1, .int p.2] := by
  unfold encD
  rw [((dt_sD p).dt (by decide)).py]
  rfl
theorem best_sD : ∀ (xs : List (Nat × Nat)) (x : Nat × Nat), bestL false (sD x) (xs.map sD) = sD (minP x xs)
  | [], _ => rfl
  | y :: ys, x => by
    have e : bestL false (sD x) ((y :: ys).map sD) = bestL false (if lessP y x then sD y else sD x) (ys.map sD) := by
      unfold bestL
      rw [List.map_cons, List.foldl_cons]
      congr 1
      simp only [Bool.false_eq_true, if_false]
      rw [encD_sD, encD_sD, PySem.W.dataLt_ii]
      by_cases q : lessP y x
      · rw [if_pos q, if_pos (by rw [decide_eq_true_eq]; unfold lessP at q; omega)]
      · rw [if_neg q, if_neg (by rw [decide_eq_true_eq]; unfold lessP at q; omega)]
    have e2 : (if lessP y x then sD y else sD x) = sD (if lessP y x then y else x) := by split <;> rfl
    rw [e, e2, best_sD ys]
    rfl
theorem pyL_sD (xs : List (Nat × Nat)) : mapO pyOf (xs.map sD) = some (xs.map fun p => PyData.tuple [.int p.1, .int p.2]) := by
  induction xs with
  | nil => rfl
  | cons x r ih =>
    simp only [List.map_cons, mapO, ih]
    rw [((dt_sD x).dt (by decide)).py]
    rfl
theorem alike_sD (xs : List (Nat × Nat)) : (allAlike (xs.map fun p => PyData.tuple [.int p.1, .int p.2]) && (xs.map fun p => PyData.tuple [.int p.1, .int p.2]).all notNone) = true := by
  unfold allAlike
  rw [Bool.and_eq_true]
  refine ⟨List.all_eq_true.mpr fun a am => List.all_eq_true.mpr fun b bm => ?_, List.all_eq_true.mpr fun a am => ?_⟩
  · obtain ⟨n, _, rfl⟩ := List.mem_map.mp am
    obtain ⟨m, _, rfl⟩ := List.mem_map.mp bm
    simp [PySem.W.alike, PySem.W.alikeAll]
  · obtain ⟨n, _, rfl⟩ := List.mem_map.mp am
    rfl
theorem o_minP {x : Nat × Nat} {xs : List (Nat × Nat)} {P : D → Prop} (p : P (sD (minP x xs))) : OI .min1 [.lst ((x :: xs).map sD)] P := by
  refine .mk ?_ p
  have e : bestD1 false (sD x :: xs.map sD) = some (sD (minP x xs)) := by
    simp only [bestD1]
    rw [show mapO pyOf (sD x :: xs.map sD) = some ((x :: xs).map fun p => PyData.tuple [.int p.1, .int p.2]) from pyL_sD (x :: xs)]
    simp only
    rw [if_pos ?_, best_sD]
    · rfl
    · exact alike_sD (x :: xs)
  exact e
/-- the ways by which a house may hang on its tree -/
def isUp (m : Mp) (x : Nat) (a : Aro) : Bool := decide (a.1 = x) && match m a.2.2.1, m x with
  | some c, some d => decide (c + a.2.2.2 = d)
  | _, _ => false
def upsL (m : Mp) (x : Nat) (as : List Aro) : List (Nat × Nat) := (as.filter (isUp m x)).map fun a => (a.2.2.1, a.2.1)
def upFn : Fn := ⟨3, 8, [.own 3 (.lst []), .fors (.tp [4, 5, 6, 7]) (.over (.var 0)) [.ife (.both true [(.cmp .eq (.var 4) (.var 2)), (.din false (.var 6) (.var 1)), (.cmp .eq (.bin .add (.dget (.var 1) (.var 6)) (.var 7)) (.dget (.var 1) (.var 2)))]) [.mut .append 3 [(.tup [(.var 6), (.var 5)])]] []], .ret (.idx (.bi .min1 [(.bor 3)]) (.int 1))], false⟩
section
variable {fns : List (String × Fn)} {k : Nat} {h : Hs}
theorem up_e (hf : fns.lookup "up_of" = some upFn) {as : List Aro} (al : as.length ≤ 1000) {ps : List (Nat × Nat)} {x d : Nat} (hd : plk ps x = some d) {u : Nat × Nat} {us : List (Nat × Nat)} (hu : upsL (plk ps) x as = u :: us) :
    callF fns (k + 1) "up_of" [.lst (as.map aroD), .ref h.length, nD x] (h ++ [farC ps]) = some (nD (minP u us).2, h ++ [farC ps]) := by
  refine WC.eq (c_def hf rfl ?_)
  show WS _ upFn.body [_, _, _, _, _, _, _, _] _ _
  unfold upFn
  have hlim : lim = 4000000 := rfl
  repeat kct_strs
  refine s_for ?_
  repeat kct_strs
  refine ⟨fun j ρ h' => h' = h ++ [farC ps] ∧ ∃ s4 s5 s6 s7, ρ = [.val (.lst (as.map aroD)), .val (.ref h.length), .val (nD x), .own ((upsL (plk ps) x (as.take j)).map sD), s4, s5, s6, s7], ⟨rfl, _, _, _, _, rfl⟩, ?_, ?_⟩
  · rintro j d2 ρ h4 ej ⟨rfl, t4, t5, t6, t7, rfl⟩
    obtain ⟨a, ea, rfl⟩ : ∃ a, as[j]? = some a ∧ d2 = aroD a := by
      rw [List.getElem?_map] at ej
      cases q : as[j]? with
      | none => rw [q] at ej; cases ej
      | some l => rw [q] at ej; exact ⟨l, rfl, (Option.some.inj ej).symm⟩
    have es : upsL (plk ps) x (as.take (j + 1)) = upsL (plk ps) x (as.take j) ++ if isUp (plk ps) x a = true then [(a.2.2.1, a.2.1)] else [] := by
      unfold upsL
      rw [List.take_succ, ea, List.filter_append, List.map_append]
      congr 1
      show ((([a] : List Aro).filter _).map _) = _
      rw [List.filter_cons]
      split <;> rfl
    have ul : (upsL (plk ps) x (as.take j)).length ≤ 1000 := by
      unfold upsL
      rw [List.length_map]
      have := List.length_filter_le (isUp (plk ps) x) (as.take j)
      rw [List.length_take] at this
      omega
    generalize upsL (plk ps) x (as.take j) = cur at es ul ⊢
    obtain ⟨hs, l, nr, c⟩ := a
    unfold aroD
    refine .mk rfl ?_
    simp only [List.set_cons_zero, List.set_cons_succ]
    repeat kct_strs
    refine ⟨fun c1 => ?_, fun c1 => ?_⟩
    · have c1 : hs = x := by have := of_decide_eq_true c1; omega
      repeat kct_strs
      refine ⟨_, _, _, dcell_far h ps, dkey_nat nr, ?_⟩
      rw [dlk_far]
      cases e1 : plk ps nr with
      | none =>
        repeat kct_strs
        have : isUp (plk ps) x (hs, l, nr, c) = false := by unfold isUp; simp only [e1, Bool.and_false]
        rw [es, this, if_neg Bool.false_ne_true, List.append_nil]
        exact ⟨rfl, _, _, _, _, rfl⟩
      | some y =>
        repeat kct_strs
        refine ⟨_, _, _, _, dcell_far h ps, dkey_nat nr, by rw [dlk_far, e1]; rfl, ?_⟩
        repeat kct_strs
        refine ⟨_, _, _, _, dcell_far h ps, dkey_nat x, by rw [dlk_far, hd]; rfl, ?_⟩
        repeat kct_strs
        refine dec2 (fun cc => ?_) fun cc => ?_
        · repeat kct_strs
          refine o_app (by rw [List.length_map]; omega) ?_
          repeat kct_strs
          have : isUp (plk ps) x (hs, l, nr, c) = true := by
            unfold isUp
            simp only [e1, hd, c1, decide_true, Bool.true_and]
            exact decide_eq_true (by omega)
          rw [es, this, if_pos rfl, List.map_append]
          exact ⟨rfl, _, _, _, _, rfl⟩
        · repeat kct_strs
          have : isUp (plk ps) x (hs, l, nr, c) = false := by
            unfold isUp
            simp only [e1, hd, c1, decide_true, Bool.true_and]
            exact decide_eq_false (by omega)
          rw [es, this, if_neg Bool.false_ne_true, List.append_nil]
          exact ⟨rfl, _, _, _, _, rfl⟩
    · have c1' : hs ≠ x := by have := of_decide_eq_false c1; omega
      rw [c1]
      repeat kct_strs
      have : isUp (plk ps) x (hs, l, nr, c) = false := by
        unfold isUp
        simp only [decide_eq_false c1', Bool.false_and]
      rw [es, this, if_neg Bool.false_ne_true, List.append_nil]
      exact ⟨rfl, _, _, _, _, rfl⟩
  · rintro ρ h4 ⟨rfl, t4, t5, t6, t7, rfl⟩
    rw [List.length_map, List.take_length, hu]
    repeat kct_strs
    refine o_minP ?_
    repeat kct_strs
    refine x_tup rfl ?_
    repeat kct_strs
    exact ⟨rfl, rfl⟩
end
end Ev

namespace Ev
local macro_rules | `(tactic| kct_strs) => `(tactic| first | refine w_var rfl ?_ | refine w_int ?_ | refine w_bl ?_ | refine w_str ?_ | refine w_non ?_ | refine w_bor rfl ?_ | refine w_glob ?_ | refine w_bin ?_ | refine w_cmp ?_ | refine w_call ?_ | refine w_pcall ?_ | refine w_dnew ?_ | refine w_dnew1 ?_ | refine w_dget ?_ | refine w_din ?_ | refine w_dget2 ?_ | refine s_dput ?_ | refine w_rev ?_ | refine w_trng ?_ | refine w_lrng ?_ | refine w_cons ?_ | refine w_nil ?_ | refine w_bi ?_ | refine w_idx ?_ | refine w_tup ?_ | refine w_lst ?_ | refine w_isin ?_ | refine w_both ?_ | refine w_and ?_ | refine w_and1 ?_ | refine w_not ?_ | refine w_ife ?_ | refine w_sl ?_ | refine w_sset ?_ | refine w_sm ?_ | refine w_cmp2 ?_ | refine w_neg ?_ | refine w_alloc ?_ | refine w_over ?_ | refine w_rng ?_ | refine w_rng2 ?_ | refine w_enum ?_ | refine w_zip ?_ | refine s_nil ?_ | refine s_ret ?_ | refine s_expr ?_ | refine s_reto rfl ?_ | (refine s_retf ?_) | refine s_par ?_ | (refine s_asg ?_; simp only [List.set_cons_zero, List.set_cons_succ]) | refine s_asgT ?_ | refine s_ife ?_ | refine s_cset ?_ | (refine s_own rfl ?_; simp only [List.set_cons_zero, List.set_cons_succ]) | (refine s_mut rfl ?_; simp only [List.set_cons_zero, List.set_cons_succ]) | (refine s_frz rfl ?_; simp only [List.set_cons_zero, List.set_cons_succ]) | refine s_brk ?_ | refine s_cnt ?_ | refine s_pas ?_ | refine WB.mk ?_ | refine o_add ?_ | refine o_sub ?_ | refine o_lt ?_ | refine o_gt ?_ | refine o_le ?_ | refine o_ge ?_ | refine o_eq ?_ | refine o_ne ?_ | refine o_eqb ?_ | refine o_neb ?_ | refine o_isn ?_ | refine o_notn ?_ | refine o_isnb ?_ | refine o_notnb ?_ | refine o_lenL ?_ | refine o_lenT ?_ | refine o_lenS ?_ | refine o_lenX ?_ | refine o_abs ?_ | refine o_min ?_ | refine o_intb ?_ | refine o_listL ?_ | refine o_listT ?_ | refine o_tupL ?_ | refine o_tupT ?_ | refine ⟨Nat.le_of_ble_eq_true rfl, ?_⟩ | refine knT ?_ | refine knF ?_ | refine knTT ?_ | refine knFF ?_ | refine knTF ?_ | refine knFT ?_ | refine o_ty rfl ?_ | (refine o_bind rfl ?_; simp only [List.set_cons_zero, List.set_cons_succ]) | refine o_cutL ?_ | refine o_cutT ?_ | refine o_optX rfl ?_ | refine o_items rfl ?_ | (refine o_setPar rfl ?_; simp only [List.set_cons_zero, List.set_cons_succ]) | refine o_rev ?_ | refine o_revT ?_ | refine o_neg ?_ | refine o_negB ?_ | refine o_addB ?_ | refine o_subB ?_ | refine ⟨Or.inl rfl, ?_⟩ | refine ⟨Or.inr rfl, ?_⟩ | refine o_over rfl ?_ | refine o_alloc rfl ?_ | refine o_modL rfl ?_ | refine o_fdivL rfl ?_ | refine ⟨_, rfl, ?_⟩)
open PySem L2
section
variable {w : Wv} {ls : List Nat} {r x : Nat}
theorem ends_laro {a b : Nat} (m : (a, b) ∈ endsL w ls) : ∃ c, (a, b, c) ∈ larosL w ls ∧ (b, a, c) ∈ larosL w ls := by
  obtain ⟨l, lm, e⟩ := List.mem_filterMap.mp m
  obtain ⟨ln, e2, e3⟩ := Option.map_eq_some_iff.mp e
  cases e3
  refine ⟨ln.cost, List.mem_flatMap.mpr ⟨l, lm, ?_⟩, List.mem_flatMap.mpr ⟨l, lm, ?_⟩⟩
  · rw [laro1_at e2]; exact List.mem_cons_self
  · rw [laro1_at e2]; exact List.mem_cons_of_mem _ List.mem_cons_self
theorem laro_ends {a b c : Nat} (m : (a, b, c) ∈ larosL w ls) : (a, b) ∈ endsL w ls ∨ (b, a) ∈ endsL w ls := by
  obtain ⟨l, lm, e⟩ := List.mem_flatMap.mp m
  cases q : w.ls[l]? with
  | none => unfold laro1 at e; rw [q] at e; nomatch e
  | some ln =>
    rw [laro1_at q] at e
    have em : (ln.one, ln.other) ∈ endsL w ls := List.mem_filterMap.mpr ⟨l, lm, by rw [q]; rfl⟩
    simp only [List.mem_cons, List.not_mem_nil, or_false, Prod.mk.injEq] at e
    rcases e with ⟨rfl, rfl, _⟩ | ⟨rfl, rfl, _⟩
    · exact .inl em
    · exact .inr em
theorem laro_cost (f : w.Fit) : ∀ e ∈ larosL w ls, 1 ≤ e.2.2 := fun e m => by
  obtain ⟨l, lm, e'⟩ := List.mem_flatMap.mp m
  cases q : w.ls[l]? with
  | none => unfold laro1 at e'; rw [q] at e'; nomatch e'
  | some ln =>
    rw [laro1_at q] at e'
    have := (f.l2 ln (List.mem_of_getElem? q)).c1
    simp only [List.mem_cons, List.not_mem_nil, or_false] at e'
    rcases e' with rfl | rfl <;> exact this
theorem wk_of_rch (h : Rch (endsL w ls) r x) : ∃ k c, Wk (larosL w ls) r k x c := by
  induction h with
  | refl => exact ⟨0, 0, .nil⟩
  | fwd _ m ih =>
    obtain ⟨k, c, w'⟩ := ih
    obtain ⟨d, m1, _⟩ := ends_laro m
    exact ⟨k + 1, c + d, .step w' m1⟩
  | bwd _ m ih =>
    obtain ⟨k, c, w'⟩ := ih
    obtain ⟨d, _, m2⟩ := ends_laro m
    exact ⟨k + 1, c + d, .step w' m2⟩
theorem rch_of_wk {k c : Nat} (h : Wk (larosL w ls) r k x c) : Rch (endsL w ls) r x := by
  induction h with
  | nil => exact .refl
  | step _ m ih =>
    rcases laro_ends m with m | m
    · exact .fwd ih m
    · exact .bwd ih m
/-- the sums of a piece -/
def farM (w : Wv) (ls : List Nat) (r : Nat) : Mp := passes (larosL w ls) (initM r) w.hs.length
theorem far_law (f : w.Fit) (hr : r < w.hs.length) (v c : Nat) : farM w ls r v = some c ↔ IsMin (larosL w ls) r v c :=
  passes_min (laro_cost f) (S := pieceL w ls r) (fun _ _ _ h => (mem_piece f hr).mpr (rch_of_wk h)) (piece_len f hr) v c
/-- as many passes as the piece has houses, over the program's arrows -/
theorem far_prog (f : w.Fit) (hr : r < w.hs.length) : passes ((arosL w ls).map aroA) (initM r) (pieceL w ls r).length = farM w ls r := by
  funext v
  exact (passes_same (A := larosL w ls) (fun e => (laro_same w ls e).symm) (laro_cost f) (S := pieceL w ls r) (fun _ _ _ h => (mem_piece f hr).mpr (rch_of_wk h)) (piece_len f hr) (Nat.le_refl _) v).symm
theorem far_some (f : w.Fit) (hr : r < w.hs.length) (hx : x ∈ pieceL w ls r) : ∃ d, farM w ls r x = some d := by
  obtain ⟨k, c, h⟩ := wk_of_rch ((mem_piece f hr).mp hx)
  obtain ⟨c0, m⟩ := min_of h
  exact ⟨c0, (far_law f hr x c0).mpr m⟩
/-- another house than the root hangs by some line -/
theorem up_some (f : w.Fit) (hr : r < w.hs.length) (hx : x ∈ pieceL w ls r) (ne : x ≠ r) {as : List Aro} (same : ∀ e, e ∈ as.map aroA ↔ e ∈ larosL w ls) : ∃ u us, upsL (farM w ls r) x as = u :: us := by
  obtain ⟨d, hd⟩ := far_some f hr hx
  have mn := (far_law f hr x d).mp hd
  obtain ⟨⟨k, wk⟩, lst⟩ := mn
  cases wk with
  | nil => exact absurd rfl ne
  | @step k a c0 _ d0 w0 m =>
    have ma : IsMin (larosL w ls) r a c0 := ⟨⟨k, w0⟩, fun k' c' w' => by have := lst _ _ (.step w' m); omega⟩
    have ha := (far_law f hr a c0).mpr ma
    obtain ⟨e, em, ee⟩ := List.mem_map.mp ((same _).mpr m)
    have hu : isUp (farM w ls r) x e = true := by
      obtain ⟨hs, l, nr, c⟩ := e
      cases ee
      unfold isUp
      simp only [ha, hd, decide_true, Bool.true_and]
    have : (e.2.2.1, e.2.1) ∈ upsL (farM w ls r) x as := List.mem_map.mpr ⟨e, List.mem_filter.mpr ⟨em, hu⟩, rfl⟩
    cases q : upsL (farM w ls r) x as with
    | nil => rw [q] at this; nomatch this
    | cons u us => exact ⟨u, us, rfl⟩
/-- the law's arrows, in its order -/
def laws1 (w : Wv) (l : Nat) : List Aro := match w.ls[l]? with
  | some ln => [(ln.other, l, ln.one, ln.cost), (ln.one, l, ln.other, ln.cost)]
  | none => []
def lawsL (w : Wv) (ls : List Nat) : List Aro := ls.flatMap (laws1 w)
theorem laws1_at {l : Nat} {ln : Ln} (e : w.ls[l]? = some ln) : laws1 w l = [(ln.other, l, ln.one, ln.cost), (ln.one, l, ln.other, ln.cost)] := by
  unfold laws1
  rw [e]
theorem laws_same (a : Aro) : a ∈ arosL w ls ↔ a ∈ lawsL w ls := by
  unfold arosL lawsL
  rw [List.mem_flatMap, List.mem_flatMap]
  have key : ∀ l, a ∈ aros1 w l ↔ a ∈ laws1 w l := fun l => by
    cases q : w.ls[l]? with
    | some ln =>
      rw [aros1_at q, laws1_at q]
      simp only [List.mem_cons, List.not_mem_nil, or_false]
      exact Or.comm
    | none =>
      have a1 : aros1 w l = [] := by unfold aros1; rw [q]
      have b1 : laws1 w l = [] := by unfold laws1; rw [q]
      rw [a1, b1]
  exact ⟨fun ⟨l, lm, h⟩ => ⟨l, lm, (key l).mp h⟩, fun ⟨l, lm, h⟩ => ⟨l, lm, (key l).mpr h⟩⟩
theorem ups_same (m : Mp) (p : Nat × Nat) : p ∈ upsL m x (arosL w ls) ↔ p ∈ upsL m x (lawsL w ls) := by
  unfold upsL
  rw [List.mem_map, List.mem_map]
  exact ⟨fun ⟨a, am, e⟩ => ⟨a, List.mem_filter.mpr ⟨(laws_same a).mp (List.mem_filter.mp am).1, (List.mem_filter.mp am).2⟩, e⟩, fun ⟨a, am, e⟩ => ⟨a, List.mem_filter.mpr ⟨(laws_same a).mpr (List.mem_filter.mp am).1, (List.mem_filter.mp am).2⟩, e⟩⟩
theorem laws_aro (e : Arw) : e ∈ (lawsL w ls).map aroA ↔ e ∈ larosL w ls := by
  rw [← laro_same, List.mem_map, List.mem_map]
  exact ⟨fun ⟨a, am, q⟩ => ⟨a, (laws_same a).mpr am, q⟩, fun ⟨a, am, q⟩ => ⟨a, (laws_same a).mp am, q⟩⟩
def upN (w : Wv) (ls : List Nat) (r x : Nat) : Nat := match upsL (farM w ls r) x (arosL w ls) with
  | u :: us => (minP u us).2
  | [] => 0
theorem up_law {u : Nat × Nat} {us : List (Nat × Nat)} (h : upsL (farM w ls r) x (lawsL w ls) = u :: us) : (minP u us).2 = upN w ls r x := by
  unfold upN
  cases q : upsL (farM w ls r) x (arosL w ls) with
  | nil =>
    have := (ups_same (farM w ls r) u (w := w) (ls := ls) (x := x)).mpr (by rw [h]; exact List.mem_cons_self)
    rw [q] at this; nomatch this
  | cons v vs =>
    rw [minP_same (x := u) (xs := us) (y := v) (ys := vs) fun p => by rw [← h, ← q]; exact (ups_same _ p).symm]
/-- the first house of a piece -/
def rootN (w : Wv) (ls : List Nat) (x : Nat) : Nat := (pieceL w ls x).headD 0
theorem root_mem (f : w.Fit) (hx : x < w.hs.length) : rootN w ls x ∈ pieceL w ls x ∧ ∃ t, pieceL w ls x = rootN w ls x :: t := by
  have m := (mem_piece f (ls := ls) hx).mpr .refl
  unfold rootN
  cases q : pieceL w ls x with
  | nil => rw [q] at m; nomatch m
  | cons a t => exact ⟨List.mem_cons_self, t, rfl⟩
/-- what a tree tells of a whole house -/
def entD (w : Wv) (ls : List Nat) (x : Nat) : D := .tup [nD (rootN w ls x), nD ((farM w ls (rootN w ls x) x).getD 0), if x = rootN w ls x then .int (-1) else nD (upN w ls (rootN w ls x) x)]
def treeD (w : Wv) (fhs ls : List Nat) (x : Nat) : D := if x ∈ fhs then .non else entD w ls x
end
end Ev

namespace Ev
local macro_rules | `(tactic| kct_strs) => `(tactic| first | refine w_var rfl ?_ | refine w_int ?_ | refine w_bl ?_ | refine w_str ?_ | refine w_non ?_ | refine w_bor rfl ?_ | refine w_glob ?_ | refine w_bin ?_ | refine w_cmp ?_ | refine w_call ?_ | refine w_pcall ?_ | refine w_dnew ?_ | refine w_dnew1 ?_ | refine w_dget ?_ | refine w_din ?_ | refine w_dget2 ?_ | refine s_dput ?_ | refine w_rev ?_ | refine w_trng ?_ | refine w_lrng ?_ | refine w_cons ?_ | refine w_nil ?_ | refine w_bi ?_ | refine w_idx ?_ | refine w_tup ?_ | refine w_lst ?_ | refine w_isin ?_ | refine w_both ?_ | refine w_and ?_ | refine w_and1 ?_ | refine w_not ?_ | refine w_ife ?_ | refine w_sl ?_ | refine w_sset ?_ | refine w_sm ?_ | refine w_cmp2 ?_ | refine w_neg ?_ | refine w_alloc ?_ | refine w_over ?_ | refine w_rng ?_ | refine w_rng2 ?_ | refine w_enum ?_ | refine w_zip ?_ | refine s_nil ?_ | refine s_ret ?_ | refine s_expr ?_ | refine s_reto rfl ?_ | (refine s_retf ?_) | refine s_par ?_ | (refine s_asg ?_; simp only [List.set_cons_zero, List.set_cons_succ]) | refine s_asgT ?_ | refine s_ife ?_ | refine s_cset ?_ | (refine s_own rfl ?_; simp only [List.set_cons_zero, List.set_cons_succ]) | (refine s_mut rfl ?_; simp only [List.set_cons_zero, List.set_cons_succ]) | (refine s_frz rfl ?_; simp only [List.set_cons_zero, List.set_cons_succ]) | refine s_brk ?_ | refine s_cnt ?_ | refine s_pas ?_ | refine WB.mk ?_ | refine o_add ?_ | refine o_sub ?_ | refine o_lt ?_ | refine o_gt ?_ | refine o_le ?_ | refine o_ge ?_ | refine o_eq ?_ | refine o_ne ?_ | refine o_eqb ?_ | refine o_neb ?_ | refine o_isn ?_ | refine o_notn ?_ | refine o_isnb ?_ | refine o_notnb ?_ | refine o_lenL ?_ | refine o_lenT ?_ | refine o_lenS ?_ | refine o_lenX ?_ | refine o_abs ?_ | refine o_min ?_ | refine o_intb ?_ | refine o_listL ?_ | refine o_listT ?_ | refine o_tupL ?_ | refine o_tupT ?_ | refine ⟨Nat.le_of_ble_eq_true rfl, ?_⟩ | refine knT ?_ | refine knF ?_ | refine knTT ?_ | refine knFF ?_ | refine knTF ?_ | refine knFT ?_ | refine o_ty rfl ?_ | (refine o_bind rfl ?_; simp only [List.set_cons_zero, List.set_cons_succ]) | refine o_cutL ?_ | refine o_cutT ?_ | refine o_optX rfl ?_ | refine o_items rfl ?_ | (refine o_setPar rfl ?_; simp only [List.set_cons_zero, List.set_cons_succ]) | refine o_rev ?_ | refine o_revT ?_ | refine o_neg ?_ | refine o_negB ?_ | refine o_addB ?_ | refine o_subB ?_ | refine ⟨Or.inl rfl, ?_⟩ | refine ⟨Or.inr rfl, ?_⟩ | refine o_over rfl ?_ | refine o_alloc rfl ?_ | refine o_modL rfl ?_ | refine o_fdivL rfl ?_ | refine ⟨_, rfl, ?_⟩)
open PySem L2
def treeFn : Fn := ⟨3, 10, [.asg (.nm 3) (.call "arrows_of" [(.var 0), (.call "standing" [(.var 0), (.var 1), (.var 2)])]), .own 4 (.comp [5] (.nm 5) (.over (.idx (.var 0) (.int 0))) (.bl true) .non), .fors (.nm 6) (.over (.call "pieces" [(.var 0), (.var 1), (.var 2)])) [.asg (.nm 7) (.idx (.var 6) (.int 0)), .asg (.nm 8) (.call "fars_from" [(.var 3), (.var 7), (.bi .len [(.var 6)])]), .fors (.nm 5) (.over (.var 6)) [.asg (.nm 9) (.ife (.cmp .eq (.var 5) (.var 7)) (.glob "ROOT_UP" (.int (-1))) (.call "up_of" [(.var 3), (.var 8), (.var 5)])), .mut .setix 4 [(.tup [(.var 7), (.dget (.var 8) (.var 5)), (.var 9)]), (.var 5)]]], .reto 4], true⟩
structure TrFns (fns : List (String × Fn)) : Prop where
  pc : PcFns fns
  ar : fns.lookup "arrows_of" = some arrowsFn
  fr : fns.lookup "fars_from" = some farsFn
  up : fns.lookup "up_of" = some upFn
  tr : fns.lookup "tree" = some treeFn
theorem o_setix {xs : List D} {v : D} {y : Nat} {P : List D × D → Prop} (hy : y < xs.length) (p : P (xs.set y v, .non)) : OU .setix xs [v, nD y] P := by
  refine .mk ?_ p
  simp only [muL]
  have : L2.ixN xs.length (y : Int) = some y := by
    unfold L2.ixN
    simp
    omega
  rw [this]
section
variable {fns : List (String × Fn)} {k : Nat} {h : Hs} {w : Wv} {fa : Fa} {g : Nat}
theorem stand_off {l : Nat} (m : l ∈ standL w fa g) {ln : Ln} (e : w.ls[l]? = some ln) : ln.one ∉ fa.hs ∧ ln.other ∉ fa.hs := by
  have := (List.mem_filter.mp m).2
  rw [Bool.and_eq_true] at this
  have s := this.2
  unfold standB at s
  rw [e] at s
  simp only [Bool.and_eq_true, decide_eq_true_eq] at s
  exact s.1
theorem rch_off {x y : Nat} (r : Rch (endsL w (standL w fa g)) x y) (hx : x ∉ fa.hs) : y ∉ fa.hs := by
  have off : ∀ a b, (a, b) ∈ endsL w (standL w fa g) → a ∉ fa.hs ∧ b ∉ fa.hs := fun a b m => by
    obtain ⟨l, lm, e⟩ := List.mem_filterMap.mp m
    obtain ⟨ln, e2, e3⟩ := Option.map_eq_some_iff.mp e
    cases e3
    exact stand_off lm e2
  cases r with
  | refl => exact hx
  | fwd _ m => exact (off _ _ m).2
  | bwd _ m => exact (off _ _ m).1
theorem pcs_off (f : w.Fit) : ∀ j, j ≤ w.hs.length → ∀ y ∈ (pcs w fa.hs (standL w fa g) j).flatten, y ∉ fa.hs
  | 0, _, y, m => by simp [pcs] at m
  | j + 1, hj, y, m => by
    rw [pcs_succ] at m
    unfold pstep at m
    split at m
    · rename_i q
      rw [List.flatten_append, List.mem_append] at m
      rcases m with m | m
      · exact pcs_off f j (by omega) y m
      · have m : y ∈ pieceL w (standL w fa g) j := by simpa using m
        exact rch_off ((mem_piece f (by omega)).mp m) q.1
    · exact pcs_off f j (by omega) y m
/-- entries of the houses met so far -/
def entS (w : Wv) (ls dn : List Nat) : List D := (List.range w.hs.length).map fun y => if y ∈ dn then entD w ls y else .non
theorem entS_len (ls dn : List Nat) : (entS w ls dn).length = w.hs.length := by
  unfold entS
  rw [List.length_map, List.length_range]
theorem entS_set {ls dn : List Nat} {y : Nat} : (entS w ls dn).set y (entD w ls y) = entS w ls (dn ++ [y]) := by
  apply List.ext_getElem?
  intro i
  by_cases q : i = y
  · subst q
    by_cases hy : i < w.hs.length
    · rw [List.getElem?_set_self (by rw [entS_len]; exact hy)]
      unfold entS
      rw [List.getElem?_map, List.getElem?_range hy, Option.map_some, if_pos (by simp)]
    · rw [List.getElem?_eq_none (by rw [List.length_set, entS_len]; omega), List.getElem?_eq_none (by rw [entS_len]; omega)]
  · rw [List.getElem?_set_ne (fun z => q z.symm)]
    by_cases hi : i < w.hs.length
    · unfold entS
      rw [List.getElem?_map, List.getElem?_map, List.getElem?_range hi, Option.map_some, Option.map_some]
      have : (i ∈ dn ++ [y]) ↔ i ∈ dn := by simp [q]
      simp only [this]
    · rw [List.getElem?_eq_none (by rw [entS_len]; omega), List.getElem?_eq_none (by rw [entS_len]; omega)]
theorem tree_w (F : TrFns fns) (f : w.Fit) (fo : fa.Ok w) (g : Nat) {P : D → Hs → Prop} (q : ∀ h', P (.lst ((List.range w.hs.length).map (treeD w fa.hs (standL w fa g)))) h') : WC (callF fns (k + 5)) "tree" [w.d, fa.d, nD g] h P := by
  refine c_defF F.tr rfl ?_
  show WS _ treeFn.body [_, _, _, _, _, _, _, _, _, _] _ _
  unfold treeFn
  have hlim : lim = 4000000 := rfl
  have hn := f.h1
  have h4 : ∀ l ∈ w.ls, l.str ≤ 4 := fun l m => (f.l2 l m).s2
  have lo := stand_ok (fa := fa) f g
  repeat kct_strs
  refine .mk (standing_e F.pc.st F.pc.ss F.pc.wh fo h4 g) ?_
  repeat kct_strs
  refine .mk (arrows_e F.ar lo) ?_
  repeat kct_strs
  refine w_compm ?_
  repeat kct_strs
  refine x_tup (z := w.hd) rfl ?_
  unfold Wv.hd
  repeat kct_strs
  refine ⟨fun _ => .non, fun d m => ?_, ?_⟩
  · simp only [wipeR, List.set_cons_zero, List.set_cons_succ]
    repeat kct_strs
    exact ⟨rfl, rfl⟩
  repeat kct_strs
  have e0 : ((w.hs.map fun ds => D.tup (ds.map nD)).map fun _ => D.non) = entS w (standL w fa g) [] := by
    unfold entS
    rw [List.map_map]
    apply List.ext_getElem?
    intro i
    rw [List.getElem?_map, List.getElem?_map]
    by_cases hi : i < w.hs.length
    · rw [List.getElem?_eq_getElem hi, List.getElem?_range hi]; rfl
    · rw [List.getElem?_eq_none (by omega), List.getElem?_eq_none (by rw [List.length_range]; omega)]; rfl
  rw [e0]
  refine s_for ?_
  repeat kct_strs
  refine pieces_w F.pc f fo g fun ms => ?_
  repeat kct_strs
  have PO := pcs_ok f fa.hs (standL w fa g) w.hs.length (Nat.le_refl _)
  have off := pcs_off (fa := fa) (g := g) f w.hs.length (Nat.le_refl _)
  refine ⟨fun i ρ _ => ∃ s5 s6 s7 s8 s9, ρ = [.val w.d, .val fa.d, .val (nD g), .val (.lst ((arosL w (standL w fa g)).map aroD)), .own (entS w (standL w fa g) ((pcs w fa.hs (standL w fa g) w.hs.length).take i).flatten), s5, s6, s7, s8, s9], ⟨_, _, _, _, _, rfl⟩, ?_, ?_⟩
  · rintro i d ρ h3 ei ⟨s5, s6, s7, s8, s9, rfl⟩
    obtain ⟨p, ep, rfl⟩ : ∃ p, (pcs w fa.hs (standL w fa g) w.hs.length)[i]? = some p ∧ d = lsD p := by
      rw [List.getElem?_map] at ei
      cases q : (pcs w fa.hs (standL w fa g) w.hs.length)[i]? with
      | none => rw [q] at ei; cases ei
      | some l => rw [q] at ei; exact ⟨l, rfl, (Option.some.inj ei).symm⟩
    obtain ⟨z, hz, rfl⟩ := PO.of p (List.mem_of_getElem? ep)
    have et : ((pcs w fa.hs (standL w fa g) w.hs.length).take (i + 1)).flatten = ((pcs w fa.hs (standL w fa g) w.hs.length).take i).flatten ++ pieceL w (standL w fa g) z := by
      rw [List.take_succ, ep, List.flatten_append]
      simp
    generalize ((pcs w fa.hs (standL w fa g) w.hs.length).take i).flatten = dn at et ⊢
    have al : (arosL w (standL w fa g)).length ≤ 1000 := by
      have := aros_len w (standL w fa g)
      have := lo.1
      omega
    have ah : ∀ a ∈ arosL w (standL w fa g), a.1 < w.hs.length := fun a am => by
      have hm := (laro_same w (standL w fa g) (aroA a)).mp (List.mem_map.mpr ⟨a, am, rfl⟩)
      have G := ends_gd f (standL w fa g)
      rcases laro_ends (a := a.2.2.1) (b := a.1) (c := a.2.2.2) hm with m | m
      · exact (G.lt _ m).2
      · exact (G.lt _ m).1
    generalize standL w fa g = ls at *
    obtain ⟨rm, t, rt⟩ := root_mem f (ls := ls) hz
    have hr := piece_lt f hz rm
    have pr := piece_eq f hz rm
    have eqr : ∀ y ∈ pieceL w ls z, rootN w ls y = rootN w ls z := fun y ym => by
      unfold rootN
      rw [piece_eq f hz ym]
    have pl := piece_len f (ls := ls) hz
    have hx0 : idxD (.lst ((pieceL w ls z).map nD)) (.int 0) = some (nD (rootN w ls z)) := by
      have hl : 0 < (pieceL w ls z).length := by rw [rt]; simp
      rw [show D.int 0 = nD 0 from rfl, ixL (by rw [List.length_map]; exact hl), List.getElem_map]
      have : (pieceL w ls z)[0]? = some (rootN w ls z) := by rw [rt]; rfl
      rw [List.getElem?_eq_getElem hl] at this
      rw [Option.some.inj this]
    generalize rootN w ls z = r at *
    have fm := far_prog f (ls := ls) hr
    rw [← pr] at fm
    unfold lsD
    refine .mk rfl ?_
    simp only [List.set_cons_zero, List.set_cons_succ]
    repeat kct_strs
    refine x_lst hx0 ?_
    repeat kct_strs
    rw [List.length_map]
    refine fars_w F.fr (n := w.hs.length) (by omega) hr (by omega) ah fun ps ek nd => ?_
    rw [fm] at ek
    repeat kct_strs
    refine s_for ?_
    repeat kct_strs
    refine ⟨fun j ρ h' => h' = h3 ++ [farC ps] ∧ ∃ s5 s9, ρ = [.val w.d, .val fa.d, .val (nD g), .val (.lst ((arosL w ls).map aroD)), .own (entS w ls (dn ++ (pieceL w ls z).take j)), s5, .val (.lst ((pieceL w ls z).map nD)), .val (nD r), .val (.ref h3.length), s9], ⟨rfl, _, _, by rw [List.take_zero, List.append_nil]⟩, ?_, ?_⟩
    · rintro j d ρ h5 ej ⟨rfl, t5, t9, rfl⟩
      obtain ⟨y, ey, rfl⟩ := nat_at ej
      have ym := List.mem_of_getElem? ey
      have hy := piece_lt f hz ym
      have ym2 : y ∈ pieceL w ls r := by rw [← pr]; exact ym
      obtain ⟨dd, hd⟩ := far_some f hr ym2
      have et2 : dn ++ (pieceL w ls z).take (j + 1) = (dn ++ (pieceL w ls z).take j) ++ [y] := by
        rw [List.take_succ, ey, List.append_assoc]; rfl
      have en : ∀ up : D, up = (if y = r then .int (-1) else nD (upN w ls r y)) → D.tup [nD r, nD dd, up] = entD w ls y := fun up e => by
        unfold entD
        rw [eqr y ym, hd, e]
        rfl
      refine .mk rfl ?_
      simp only [List.set_cons_zero, List.set_cons_succ]
      repeat kct_strs
      refine dec2 (fun c => ?_) fun c => ?_
      · have c : y = r := by omega
        repeat kct_strs
        refine ⟨_, _, _, _, dcell_far h3 ps, dkey_nat y, by rw [dlk_far, ek, hd]; rfl, ?_⟩
        repeat kct_strs
        refine o_setix (by rw [entS_len]; exact hy) ?_
        repeat kct_strs
        rw [et2, ← entS_set, ← en (.int (-1)) (by rw [if_pos c])]
        exact ⟨rfl, _, _, rfl⟩
      · have c : y ≠ r := by omega
        obtain ⟨u, us, hu⟩ := up_some f hr ym2 c (laro_same w ls)
        have un : upN w ls r y = (minP u us).2 := by unfold upN; rw [hu]
        repeat kct_strs
        refine .mk (up_e F.up al (ps := ps) (by rw [ek]; exact hd) (by rw [ek]; exact hu)) ?_
        repeat kct_strs
        refine ⟨_, _, _, _, dcell_far h3 ps, dkey_nat y, by rw [dlk_far, ek, hd]; rfl, ?_⟩
        repeat kct_strs
        refine o_setix (by rw [entS_len]; exact hy) ?_
        repeat kct_strs
        rw [et2, ← entS_set, ← en (nD (minP u us).2) (by rw [if_neg c, un])]
        exact ⟨rfl, _, _, rfl⟩
    · rintro ρ h5 ⟨rfl, t5, t9, rfl⟩
      repeat kct_strs
      rw [List.length_map, List.take_length, et]
      exact ⟨_, _, _, _, _, rfl⟩
  · rintro ρ h3 ⟨s5, s6, s7, s8, s9, rfl⟩
    rw [List.length_map, List.take_length]
    have ef : entS w (standL w fa g) (pcs w fa.hs (standL w fa g) w.hs.length).flatten = (List.range w.hs.length).map (treeD w fa.hs (standL w fa g)) := by
      unfold entS
      refine List.map_congr_left fun y ym => ?_
      have hy := List.mem_range.mp ym
      unfold treeD
      by_cases c : y ∈ fa.hs
      · rw [if_pos c, if_neg (fun m => off y m c)]
      · rw [if_neg c, if_pos (PO.met y hy c)]
    rw [ef]
    repeat kct_strs
    exact q _
end
end Ev

namespace Ev
local macro_rules | `(tactic| kct_strs) => `(tactic| first | refine w_var rfl ?_ | refine w_int ?_ | refine w_bl ?_ | refine w_str ?_ | refine w_non ?_ | refine w_bor rfl ?_ | refine w_glob ?_ | refine w_bin ?_ | refine w_cmp ?_ | refine w_call ?_ | refine w_pcall ?_ | refine w_dnew ?_ | refine w_dnew1 ?_ | refine w_dget ?_ | refine w_din ?_ | refine w_dget2 ?_ | refine s_dput ?_ | refine w_rev ?_ | refine w_trng ?_ | refine w_lrng ?_ | refine w_cons ?_ | refine w_nil ?_ | refine w_bi ?_ | refine w_idx ?_ | refine w_tup ?_ | refine w_lst ?_ | refine w_isin ?_ | refine w_both ?_ | refine w_and ?_ | refine w_and1 ?_ | refine w_not ?_ | refine w_ife ?_ | refine w_sl ?_ | refine w_sset ?_ | refine w_sm ?_ | refine w_cmp2 ?_ | refine w_neg ?_ | refine w_alloc ?_ | refine w_over ?_ | refine w_rng ?_ | refine w_rng2 ?_ | refine w_enum ?_ | refine w_zip ?_ | refine s_nil ?_ | refine s_ret ?_ | refine s_expr ?_ | refine s_reto rfl ?_ | (refine s_retf ?_) | refine s_par ?_ | (refine s_asg ?_; simp only [List.set_cons_zero, List.set_cons_succ]) | refine s_asgT ?_ | refine s_ife ?_ | refine s_cset ?_ | (refine s_own rfl ?_; simp only [List.set_cons_zero, List.set_cons_succ]) | (refine s_mut rfl ?_; simp only [List.set_cons_zero, List.set_cons_succ]) | (refine s_frz rfl ?_; simp only [List.set_cons_zero, List.set_cons_succ]) | refine s_brk ?_ | refine s_cnt ?_ | refine s_pas ?_ | refine WB.mk ?_ | refine o_add ?_ | refine o_sub ?_ | refine o_lt ?_ | refine o_gt ?_ | refine o_le ?_ | refine o_ge ?_ | refine o_eq ?_ | refine o_ne ?_ | refine o_eqb ?_ | refine o_neb ?_ | refine o_isn ?_ | refine o_notn ?_ | refine o_isnb ?_ | refine o_notnb ?_ | refine o_lenL ?_ | refine o_lenT ?_ | refine o_lenS ?_ | refine o_lenX ?_ | refine o_abs ?_ | refine o_min ?_ | refine o_intb ?_ | refine o_listL ?_ | refine o_listT ?_ | refine o_tupL ?_ | refine o_tupT ?_ | refine ⟨Nat.le_of_ble_eq_true rfl, ?_⟩ | refine knT ?_ | refine knF ?_ | refine knTT ?_ | refine knFF ?_ | refine knTF ?_ | refine knFT ?_ | refine o_ty rfl ?_ | (refine o_bind rfl ?_; simp only [List.set_cons_zero, List.set_cons_succ]) | refine o_cutL ?_ | refine o_cutT ?_ | refine o_optX rfl ?_ | refine o_items rfl ?_ | (refine o_setPar rfl ?_; simp only [List.set_cons_zero, List.set_cons_succ]) | refine o_rev ?_ | refine o_revT ?_ | refine o_neg ?_ | refine o_negB ?_ | refine o_addB ?_ | refine o_subB ?_ | refine ⟨Or.inl rfl, ?_⟩ | refine ⟨Or.inr rfl, ?_⟩ | refine o_over rfl ?_ | refine o_alloc rfl ?_ | refine o_modL rfl ?_ | refine o_fdivL rfl ?_ | refine ⟨_, rfl, ?_⟩)
open PySem L2
def ltreeFn : Fn := ⟨3, 15, [.par [3, 4] [false, true] [(.call "_law_stands" [(.var 0), (.var 1), (.var 2)]), (.lst [])], .fors (.nm 5) (.rng (.bi .len [(.idx (.var 0) (.int 0))])) [.ife (.cmp .inn (.var 5) (.idx (.var 1) (.int 0))) [.mut .append 4 [.non]] [.asg (.nm 6) (.idx (.call "_law_piece_of" [(.var 0), (.var 3), (.var 5)]) (.int 0)), .par [8, 9] [false, true] [(.call "_law_fars" [(.var 0), (.var 3), (.var 6)]), (.lst [])], .fors (.nm 7) (.over (.var 3)) [.asg (.tp [10, 11, 12]) (.sl (.idx (.idx (.var 0) (.int 1)) (.var 7)) .non (.int 3)), .fors (.tp [13, 14]) (.over (.tup [(.tup [(.var 10), (.var 11)]), (.tup [(.var 11), (.var 10)])])) [.ife (.both true [(.cmp .eq (.var 14) (.var 5)), (.din false (.var 13) (.var 8)), (.cmp .eq (.bin .add (.dget (.var 8) (.var 13)) (.var 12)) (.dget (.var 8) (.var 5)))]) [.mut .append 9 [(.tup [(.var 13), (.var 7)])]] []]], .mut .append 4 [(.tup [(.var 6), (.dget (.var 8) (.var 5)), (.ife (.cmp .ne (.var 5) (.var 6)) (.idx (.bi .min1 [(.bor 9)]) (.int 1)) (.neg (.int 1)))])]]], .reto 4], true⟩
structure LtFns (fns : List (String × Fn)) : Prop where
  st : fns.lookup "_law_stands" = some lstandsFn
  wh : fns.lookup "_law_whole" = some wholeFn
  pc : fns.lookup "_law_piece_of" = some lpieceFn
  fr : fns.lookup "_law_fars" = some lfarsFn
  tr : fns.lookup "_law_tree" = some ltreeFn
theorem fm_lenA {α β : Type} {f : α → List β} {c : Nat} : ∀ {xs : List α}, (∀ x ∈ xs, (f x).length ≤ c) → (xs.flatMap f).length ≤ c * xs.length
  | [], _ => by simp
  | x :: r, h => by
    have h1 := h x List.mem_cons_self
    have h2 := fm_lenA (xs := r) fun y m => h y (List.mem_cons_of_mem _ m)
    rw [List.flatMap_cons, List.length_append, List.length_cons, Nat.mul_add, Nat.mul_one]
    omega
section
variable {fns : List (String × Fn)} {k : Nat} {h : Hs} {w : Wv} {fa : Fa} {g : Nat}
theorem upsL_app (m : Mp) (x : Nat) (as bs : List Aro) : upsL m x (as ++ bs) = upsL m x as ++ upsL m x bs := by
  unfold upsL
  rw [List.filter_append, List.map_append]
theorem upsL_one (m : Mp) (x : Nat) (a : Aro) : upsL m x [a] = if isUp m x a = true then [(a.2.2.1, a.2.1)] else [] := by
  unfold upsL
  rw [List.filter_cons]
  split <;> rfl
theorem laws_take {ls : List Nat} {i l : Nat} {ln : Ln} (e : ls[i]? = some l) (e2 : w.ls[l]? = some ln) : lawsL w (ls.take (i + 1)) = lawsL w (ls.take i) ++ [(ln.other, l, ln.one, ln.cost), (ln.one, l, ln.other, ln.cost)] := by
  unfold lawsL
  rw [take_fmA e, laws1_at e2]
theorem ltree_w (F : LtFns fns) (f : w.Fit) (fo : fa.Ok w) (g : Nat) {P : D → Hs → Prop} (q : ∀ h', P (.lst ((List.range w.hs.length).map (treeD w fa.hs (standL w fa g)))) h') : WC (callF fns (k + 3)) "_law_tree" [w.d, fa.d, nD g] h P := by
  refine c_defF F.tr rfl ?_
  show WS _ ltreeFn.body [_, _, _, _, _, _, _, _, _, _, _, _, _, _, _] _ _
  unfold ltreeFn
  have hlim : lim = 4000000 := rfl
  have hn := f.h1
  have fl := f.l1
  have h4 : ∀ l ∈ w.ls, l.str ≤ 4 := fun l m => (f.l2 l m).s2
  have lo := stand_ok (fa := fa) f g
  repeat kct_strs
  refine .mk (lstands_e F.st F.wh fo h4 (by omega) g) ?_
  repeat kct_strs
  generalize standL w fa g = ls at *
  refine s_for ?_
  repeat kct_strs
  refine x_tup (z := w.hd) rfl ?_
  unfold Wv.hd
  repeat kct_strs
  refine ⟨by rw [List.length_map]; omega, by rw [List.length_map]; omega, fun i ρ _ => ∃ s5 s6 s7 s8 s9 s10 s11 s12 s13 s14, ρ = [.val w.d, .val fa.d, .val (nD g), .val (.lst (ls.map nD)), .own ((List.range i).map (treeD w fa.hs ls)), s5, s6, s7, s8, s9, s10, s11, s12, s13, s14], ⟨_, _, _, _, _, _, _, _, _, _, rfl⟩, ?_, ?_⟩
  · rintro x d ρ h3 ei ⟨s5, s6, s7, s8, s9, s10, s11, s12, s13, s14, rfl⟩
    obtain ⟨hi, rfl⟩ := rng_at0 ei
    rw [List.length_map] at hi
    have hx : x < w.hs.length := by omega
    have e1 : (List.range (x + 1)).map (treeD w fa.hs ls) = (List.range x).map (treeD w fa.hs ls) ++ [treeD w fa.hs ls x] := by
      rw [List.range_succ, List.map_append]; rfl
    refine .mk rfl ?_
    simp only [List.set_cons_zero, List.set_cons_succ]
    repeat kct_strs
    refine x_tup (z := fa.hd) rfl ?_
    unfold Fa.hd
    refine o_inT Dt.int (dt_nats _ |>.dt (by decide)) ?_
    rw [inN]
    repeat kct_strs
    refine dec2 (fun c => ?_) fun c => ?_
    · repeat kct_strs
      refine o_app (by rw [List.length_map, List.length_range]; omega) ?_
      repeat kct_strs
      have et : treeD w fa.hs ls x = .non := by unfold treeD; rw [if_pos c]
      rw [e1, et]
      exact ⟨_, _, _, _, _, _, _, _, _, _, rfl⟩
    · have et : treeD w fa.hs ls x = entD w ls x := by unfold treeD; rw [if_neg c]
      rw [et] at e1
      obtain ⟨rm, t, rt⟩ := root_mem f (ls := ls) hx
      have hr := piece_lt f hx rm
      have pr := piece_eq f hx rm
      have hx0 : idxD (.lst ((pieceL w ls x).map nD)) (.int 0) = some (nD (rootN w ls x)) := by
        have hl : 0 < (pieceL w ls x).length := by rw [rt]; simp
        rw [show D.int 0 = nD 0 from rfl, ixL (by rw [List.length_map]; exact hl), List.getElem_map]
        have : (pieceL w ls x)[0]? = some (rootN w ls x) := by rw [rt]; rfl
        rw [List.getElem?_eq_getElem hl] at this
        rw [Option.some.inj this]
      have en : ∀ dd : Nat, ∀ up : D, farM w ls (rootN w ls x) x = some dd → up = (if x = rootN w ls x then .int (-1) else nD (upN w ls (rootN w ls x) x)) → D.tup [nD (rootN w ls x), nD dd, up] = entD w ls x := fun dd up hd e => by
        unfold entD
        rw [hd, e]
        rfl
      generalize rootN w ls x = r at *
      have xm2 : x ∈ pieceL w ls r := by rw [← pr]; exact (mem_piece f hx).mpr .refl
      obtain ⟨dd, hd⟩ := far_some f hr xm2
      repeat kct_strs
      refine .mk (lpiece_e F.pc f lo hx) ?_
      repeat kct_strs
      refine x_lst hx0 ?_
      repeat kct_strs
      refine lfars_w F.fr f lo hr fun ps ek nd => ?_
      have ek : plk ps = farM w ls r := ek
      repeat kct_strs
      refine s_for ?_
      repeat kct_strs
      refine ⟨fun j ρ h' => h' = h3 ++ [farC ps] ∧ ∃ s7 s10 s11 s12 s13 s14, ρ = [.val w.d, .val fa.d, .val (nD g), .val (.lst (ls.map nD)), .own ((List.range x).map (treeD w fa.hs ls)), .val (nD x), .val (nD r), s7, .val (.ref h3.length), .own ((upsL (farM w ls r) x (lawsL w (ls.take j))).map sD), s10, s11, s12, s13, s14], ⟨rfl, _, _, _, _, _, _, rfl⟩, ?_, ?_⟩
      · rintro j d ρ h5 ej ⟨rfl, t7, t10, t11, t12, t13, t14, rfl⟩
        obtain ⟨l, el, rfl⟩ := nat_at ej
        have hl := lo.2 l (List.mem_of_getElem? el)
        have eln : w.ls[l]? = some w.ls[l] := List.getElem?_eq_getElem hl
        generalize w.ls[l] = ln at eln
        have es := laws_take (w := w) el eln
        have ul : (upsL (farM w ls r) x (lawsL w (ls.take j))).length ≤ 200 := by
          unfold upsL
          rw [List.length_map]
          have h1 := List.length_filter_le (isUp (farM w ls r) x) (lawsL w (ls.take j))
          have h2 := fm_lenA (f := laws1 w) (c := 2) (xs := ls.take j) fun y _ => by
            unfold laws1
            split <;> simp
          have h3 : (ls.take j).length ≤ 100 := by rw [List.length_take]; have := lo.1; omega
          unfold lawsL at h1 ⊢
          omega
        have es2 := congrArg (upsL (farM w ls r) x) es
        rw [upsL_app] at es2
        generalize upsL (farM w ls r) x (lawsL w (ls.take j)) = cur at es2 ul ⊢
        refine .mk rfl ?_
        simp only [List.set_cons_zero, List.set_cons_succ]
        repeat kct_strs
        refine x_tup (z := w.ld) rfl ?_
        unfold Wv.ld
        repeat kct_strs
        refine x_tup (z := ln.d) (ld_at eln) ?_
        unfold Ln.d
        repeat kct_strs
        refine s_for ?_
        repeat kct_strs
        refine ⟨fun t ρ h' => h' = h3 ++ [farC ps] ∧ ∃ s13 s14, ρ = [.val w.d, .val fa.d, .val (nD g), .val (.lst (ls.map nD)), .own ((List.range x).map (treeD w fa.hs ls)), .val (nD x), .val (nD r), .val (nD l), .val (.ref h3.length), .own ((cur ++ upsL (farM w ls r) x (([(ln.other, l, ln.one, ln.cost), (ln.one, l, ln.other, ln.cost)] : List Aro).take t)).map sD), .val (nD ln.one), .val (nD ln.other), .val (nD ln.cost), s13, s14], ⟨rfl, _, _, by rw [List.take_zero, show upsL (farM w ls r) x [] = [] from rfl, List.append_nil]⟩, ?_, ?_⟩
        · rintro t d3 ρ h6 et2 ⟨rfl, u13, u14, rfl⟩
          obtain ⟨nr, hs, rfl, e3⟩ : ∃ nr hs, d3 = .tup [nD nr, nD hs] ∧ ([(ln.other, l, ln.one, ln.cost), (ln.one, l, ln.other, ln.cost)] : List Aro).take (t + 1) = ([(ln.other, l, ln.one, ln.cost), (ln.one, l, ln.other, ln.cost)] : List Aro).take t ++ [(hs, l, nr, ln.cost)] := by
            match t, et2 with
            | 0, et2 => exact ⟨ln.one, ln.other, (Option.some.inj et2).symm, rfl⟩
            | 1, et2 => exact ⟨ln.other, ln.one, (Option.some.inj et2).symm, rfl⟩
            | t + 2, et2 => simp at et2
          have u2 : (upsL (farM w ls r) x (([(ln.other, l, ln.one, ln.cost), (ln.one, l, ln.other, ln.cost)] : List Aro).take t)).length ≤ 2 := by
            unfold upsL
            rw [List.length_map]
            have h1 := List.length_filter_le (isUp (farM w ls r) x) (([(ln.other, l, ln.one, ln.cost), (ln.one, l, ln.other, ln.cost)] : List Aro).take t)
            rw [List.length_take] at h1
            simp only [List.length_cons, List.length_nil] at h1
            omega
          have e4 : cur ++ upsL (farM w ls r) x (([(ln.other, l, ln.one, ln.cost), (ln.one, l, ln.other, ln.cost)] : List Aro).take (t + 1)) = (cur ++ upsL (farM w ls r) x (([(ln.other, l, ln.one, ln.cost), (ln.one, l, ln.other, ln.cost)] : List Aro).take t)) ++ if isUp (farM w ls r) x (hs, l, nr, ln.cost) = true then [(nr, l)] else [] := by
            rw [e3, upsL_app, upsL_one, ← List.append_assoc]
          have cl : (cur ++ upsL (farM w ls r) x (([(ln.other, l, ln.one, ln.cost), (ln.one, l, ln.other, ln.cost)] : List Aro).take t)).length ≤ 202 := by
            rw [List.length_append]; omega
          generalize cur ++ upsL (farM w ls r) x (([(ln.other, l, ln.one, ln.cost), (ln.one, l, ln.other, ln.cost)] : List Aro).take t) = cur2 at cl e4 ⊢
          refine .mk rfl ?_
          simp only [List.set_cons_zero, List.set_cons_succ]
          repeat kct_strs
          refine ⟨fun c1 => ?_, fun c1 => ?_⟩
          · have c1 : hs = x := by have := of_decide_eq_true c1; omega
            repeat kct_strs
            refine ⟨_, _, _, dcell_far h3 ps, dkey_nat nr, ?_⟩
            rw [dlk_far, ek]
            cases ea : farM w ls r nr with
            | none =>
              repeat kct_strs
              have : isUp (farM w ls r) x (hs, l, nr, ln.cost) = false := by unfold isUp; simp only [ea, Bool.and_false]
              rw [e4, this, if_neg Bool.false_ne_true, List.append_nil]
              exact ⟨rfl, _, _, rfl⟩
            | some y =>
              repeat kct_strs
              refine ⟨_, _, _, _, dcell_far h3 ps, dkey_nat nr, by rw [dlk_far, ek, ea]; rfl, ?_⟩
              repeat kct_strs
              refine ⟨_, _, _, _, dcell_far h3 ps, dkey_nat x, by rw [dlk_far, ek, hd]; rfl, ?_⟩
              repeat kct_strs
              refine dec2 (fun cc => ?_) fun cc => ?_
              · repeat kct_strs
                refine o_app (by rw [List.length_map]; omega) ?_
                repeat kct_strs
                have : isUp (farM w ls r) x (hs, l, nr, ln.cost) = true := by
                  unfold isUp
                  simp only [ea, hd, c1, decide_true, Bool.true_and]
                  exact decide_eq_true (by omega)
                rw [e4, this, if_pos rfl, List.map_append]
                exact ⟨rfl, _, _, rfl⟩
              · repeat kct_strs
                have : isUp (farM w ls r) x (hs, l, nr, ln.cost) = false := by
                  unfold isUp
                  simp only [ea, hd, c1, decide_true, Bool.true_and]
                  exact decide_eq_false (by omega)
                rw [e4, this, if_neg Bool.false_ne_true, List.append_nil]
                exact ⟨rfl, _, _, rfl⟩
          · have c1' : hs ≠ x := by have := of_decide_eq_false c1; omega
            rw [c1]
            repeat kct_strs
            have : isUp (farM w ls r) x (hs, l, nr, ln.cost) = false := by
              unfold isUp
              simp only [decide_eq_false c1', Bool.false_and]
            rw [e4, this, if_neg Bool.false_ne_true, List.append_nil]
            exact ⟨rfl, _, _, rfl⟩
        · rintro ρ h6 ⟨rfl, u13, u14, rfl⟩
          repeat kct_strs
          rw [es2]
          exact ⟨rfl, _, _, _, _, _, _, rfl⟩
      · rintro ρ h5 ⟨rfl, t7, t10, t11, t12, t13, t14, rfl⟩
        rw [List.length_map, List.take_length]
        repeat kct_strs
        refine ⟨_, _, _, _, dcell_far h3 ps, dkey_nat x, by rw [dlk_far, ek, hd]; rfl, ?_⟩
        repeat kct_strs
        refine dec2n (fun c2 => ?_) fun c2 => ?_
        · have c2 : x ≠ r := by omega
          obtain ⟨u, us, hu⟩ := up_some f hr xm2 c2 (laws_aro (w := w) (ls := ls))
          rw [hu]
          repeat kct_strs
          refine o_minP ?_
          repeat kct_strs
          refine x_tup rfl ?_
          repeat kct_strs
          refine o_app (by rw [List.length_map, List.length_range]; omega) ?_
          repeat kct_strs
          rw [e1, ← en dd (nD (minP u us).2) hd (by rw [if_neg c2, up_law hu])]
          exact ⟨_, _, _, _, _, _, _, _, _, _, rfl⟩
        · have c2 : x = r := by omega
          repeat kct_strs
          refine o_app (by rw [List.length_map, List.length_range]; omega) ?_
          repeat kct_strs
          rw [e1, ← en dd (.int (-1)) hd (by rw [if_pos c2])]
          exact ⟨_, _, _, _, _, _, _, _, _, _, rfl⟩
  · rintro ρ h3 ⟨s5, s6, s7, s8, s9, s10, s11, s12, s13, s14, rfl⟩
    have el : (rngL 0 ((w.hs.map fun ds => D.tup (ds.map nD)).length : Int).toNat).length = w.hs.length := by
      rw [rngL_len, List.length_map]; omega
    rw [el]
    repeat kct_strs
    exact q _
end
end Ev

namespace Ev
local macro_rules | `(tactic| kct_strs) => `(tactic| first | refine w_var rfl ?_ | refine w_int ?_ | refine w_bl ?_ | refine w_str ?_ | refine w_non ?_ | refine w_bor rfl ?_ | refine w_glob ?_ | refine w_bin ?_ | refine w_cmp ?_ | refine w_call ?_ | refine w_pcall ?_ | refine w_dnew ?_ | refine w_dnew1 ?_ | refine w_dget ?_ | refine w_din ?_ | refine w_dget2 ?_ | refine s_dput ?_ | refine w_rev ?_ | refine w_trng ?_ | refine w_lrng ?_ | refine w_cons ?_ | refine w_nil ?_ | refine w_bi ?_ | refine w_idx ?_ | refine w_tup ?_ | refine w_lst ?_ | refine w_isin ?_ | refine w_both ?_ | refine w_and ?_ | refine w_and1 ?_ | refine w_not ?_ | refine w_ife ?_ | refine w_sl ?_ | refine w_sset ?_ | refine w_sm ?_ | refine w_cmp2 ?_ | refine w_neg ?_ | refine w_alloc ?_ | refine w_over ?_ | refine w_rng ?_ | refine w_rng2 ?_ | refine w_enum ?_ | refine w_zip ?_ | refine s_nil ?_ | refine s_ret ?_ | refine s_expr ?_ | refine s_reto rfl ?_ | (refine s_retf ?_) | refine s_par ?_ | (refine s_asg ?_; simp only [List.set_cons_zero, List.set_cons_succ]) | refine s_asgT ?_ | refine s_ife ?_ | refine s_cset ?_ | (refine s_own rfl ?_; simp only [List.set_cons_zero, List.set_cons_succ]) | (refine s_mut rfl ?_; simp only [List.set_cons_zero, List.set_cons_succ]) | (refine s_frz rfl ?_; simp only [List.set_cons_zero, List.set_cons_succ]) | refine s_brk ?_ | refine s_cnt ?_ | refine s_pas ?_ | refine WB.mk ?_ | refine o_add ?_ | refine o_sub ?_ | refine o_lt ?_ | refine o_gt ?_ | refine o_le ?_ | refine o_ge ?_ | refine o_eq ?_ | refine o_ne ?_ | refine o_eqb ?_ | refine o_neb ?_ | refine o_isn ?_ | refine o_notn ?_ | refine o_isnb ?_ | refine o_notnb ?_ | refine o_lenL ?_ | refine o_lenT ?_ | refine o_lenS ?_ | refine o_lenX ?_ | refine o_abs ?_ | refine o_min ?_ | refine o_intb ?_ | refine o_listL ?_ | refine o_listT ?_ | refine o_tupL ?_ | refine o_tupT ?_ | refine ⟨Nat.le_of_ble_eq_true rfl, ?_⟩ | refine knT ?_ | refine knF ?_ | refine knTT ?_ | refine knFF ?_ | refine knTF ?_ | refine knFT ?_ | refine o_ty rfl ?_ | (refine o_bind rfl ?_; simp only [List.set_cons_zero, List.set_cons_succ]) | refine o_cutL ?_ | refine o_cutT ?_ | refine o_optX rfl ?_ | refine o_items rfl ?_ | (refine o_setPar rfl ?_; simp only [List.set_cons_zero, List.set_cons_succ]) | refine o_rev ?_ | refine o_revT ?_ | refine o_neg ?_ | refine o_negB ?_ | refine o_addB ?_ | refine o_subB ?_ | refine ⟨Or.inl rfl, ?_⟩ | refine ⟨Or.inr rfl, ?_⟩ | refine o_over rfl ?_ | refine o_alloc rfl ?_ | refine o_modL rfl ?_ | refine o_fdivL rfl ?_ | refine ⟨_, rfl, ?_⟩)
open PySem L2
def sortedN (xs : List Nat) : List D := (xs.map nD).mergeSort leD
theorem sortedN_len (xs : List Nat) : (sortedN xs).length = xs.length := by
  unfold sortedN
  rw [List.length_mergeSort, List.length_map]
theorem sortedN_dt (xs : List Nat) : DtN 1 (.lst (sortedN xs)) := .lst fun d m => by
  obtain ⟨n, _, rfl⟩ := List.mem_map.mp ((List.mergeSort_perm _ _).mem_iff.mp m)
  exact .int
theorem o_sortM {xs : List Nat} {P : D → Prop} (p : P (.lst (sortedN xs))) : OI .sorted [.lst (xs.map nD)] P := by
  refine .mk ?_ p
  show sortD (xs.map nD) = _
  unfold sortD
  rw [pyL_nats]
  have g : (allAlike (xs.map fun n : Nat => PyData.int n) && (xs.map fun n : Nat => PyData.int n).all notNone && ((xs.map fun n : Nat => PyData.int n).all tupNE || (xs.map fun n : Nat => PyData.int n).all noTup)) = true := by
    unfold allAlike
    rw [Bool.and_eq_true, Bool.and_eq_true, Bool.or_eq_true]
    refine ⟨⟨List.all_eq_true.mpr fun a am => List.all_eq_true.mpr fun b bm => ?_, List.all_eq_true.mpr fun a am => ?_⟩, .inr (List.all_eq_true.mpr fun a am => ?_)⟩
    · obtain ⟨n, _, rfl⟩ := List.mem_map.mp am
      obtain ⟨m, _, rfl⟩ := List.mem_map.mp bm
      rfl
    · obtain ⟨n, _, rfl⟩ := List.mem_map.mp am
      rfl
    · obtain ⟨n, _, rfl⟩ := List.mem_map.mp am
      rfl
  simp only
  rw [if_pos g]
  rfl
def tlinesFn : Fn := ⟨3, 8, [.asg (.nm 3) (.comp [4] (.nm 4) (.over (.call "tree" [(.var 0), (.var 1), (.var 2)])) (.cmp .notn (.var 4) .non) (.var 4)), .retf (.bi .sorted [(.comp [5, 6, 7] (.tp [5, 6, 7]) (.over (.var 3)) (.cmp .ne (.var 7) (.glob "ROOT_UP" (.int (-1)))) (.var 7))])], true⟩
/-- the whole houses -/
def whL (w : Wv) (fhs : List Nat) : List Nat := (List.range w.hs.length).filter fun x => decide (x ∉ fhs)
/-- the ups, house by house -/
def upA (w : Wv) (fhs ls : List Nat) : List Nat := ((whL w fhs).filter fun x => decide (x ≠ rootN w ls x)).map fun x => upN w ls (rootN w ls x) x
section
variable {fns : List (String × Fn)} {k : Nat} {h : Hs} {w : Wv} {fa : Fa} {g : Nat}
theorem tree_whole (fhs ls : List Nat) : ((List.range w.hs.length).map (treeD w fhs ls)).filter (fun d => !isNonD d) = (whL w fhs).map (entD w ls) := by
  unfold whL
  generalize List.range w.hs.length = xs
  induction xs with
  | nil => rfl
  | cons x r ih =>
    rw [List.map_cons, List.filter_cons, List.filter_cons]
    by_cases c : x ∈ fhs
    · have e : treeD w fhs ls x = .non := if_pos c
      rw [e, if_neg (by simp [isNonD]), if_neg (by simpa using c)]
      exact ih
    · have e : treeD w fhs ls x = entD w ls x := if_neg c
      rw [e, if_pos (by rfl), if_pos (by simpa using c), List.map_cons, ih]
theorem ups_of {ls : List Nat} {q : D → Bool} {f : D → D} (xs : List Nat) (hq : ∀ x, q (entD w ls x) = decide (x ≠ rootN w ls x)) (hf : ∀ x, x ≠ rootN w ls x → f (entD w ls x) = nD (upN w ls (rootN w ls x) x)) :
    ((xs.map (entD w ls)).filter q).map f = ((xs.filter fun x => decide (x ≠ rootN w ls x)).map fun x => upN w ls (rootN w ls x) x).map nD := by
  induction xs with
  | nil => rfl
  | cons x r ih =>
    rw [List.map_cons, List.filter_cons, List.filter_cons, hq]
    by_cases c : x ≠ rootN w ls x
    · rw [if_pos (decide_eq_true c), if_pos (decide_eq_true c), List.map_cons, List.map_cons, List.map_cons, ih, hf x c]
    · rw [if_neg (by simpa using c), if_neg (by simpa using c), ih]
theorem ent_up {ls : List Nat} {x : Nat} : ∃ a b : Nat, entD w ls x = .tup [nD a, nD b, if x = rootN w ls x then .int (-1) else nD (upN w ls (rootN w ls x) x)] := ⟨_, _, rfl⟩
def thirdD : D → D
  | .tup [_, _, u] => u
  | _ => .non
theorem third_ent {ls : List Nat} (x : Nat) (c : x ≠ rootN w ls x) : thirdD (entD w ls x) = nD (upN w ls (rootN w ls x) x) := by
  unfold entD thirdD
  exact if_neg c
/-- whether an entry is that of no root -/
def noRoot : D → Bool
  | .tup [_, _, .int u] => decide (0 ≤ u)
  | _ => false
theorem noRoot_ent {ls : List Nat} (x : Nat) : noRoot (entD w ls x) = decide (x ≠ rootN w ls x) := by
  unfold entD
  by_cases c : x = rootN w ls x
  · rw [if_pos c]
    simp only [noRoot]
    rw [decide_eq_false (p := x ≠ rootN w ls x) (fun q => q c)]
    rfl
  · rw [if_neg c]
    simp only [noRoot, nD]
    rw [decide_eq_true (p := x ≠ rootN w ls x) c, decide_eq_true (by omega)]
theorem tlines_w (F : TrFns fns) (hf : fns.lookup "tree_lines" = some tlinesFn) (f : w.Fit) (fo : fa.Ok w) (g : Nat) {P : D → Hs → Prop} (q : ∀ h', P (.lst (sortedN (upA w fa.hs (standL w fa g)))) h') : WC (callF fns (k + 6)) "tree_lines" [w.d, fa.d, nD g] h P := by
  refine c_defF hf rfl ?_
  show WS _ tlinesFn.body [_, _, _, _, _, _, _, _] _ _
  unfold tlinesFn
  have hlim : lim = 4000000 := rfl
  repeat kct_strs
  refine w_comp0 ?_
  repeat kct_strs
  refine tree_w F f fo g fun h' => ?_
  repeat kct_strs
  refine ⟨fun d => !isNonD d, id, fun d m => ?_, ?_⟩
  · refine .mk rfl ?_
    simp only [wipeR, List.set_cons_zero, List.set_cons_succ]
    repeat kct_strs
    refine ⟨fun q => ?_, fun q => ?_⟩
    · repeat kct_strs
      exact ⟨rfl, (if_pos q).symm⟩
    · exact ⟨rfl, (if_neg (by rw [q]; exact Bool.false_ne_true)).symm⟩
  · rw [List.map_id, tree_whole]
    repeat kct_strs
    refine w_comp0 ?_
    repeat kct_strs
    refine ⟨noRoot, thirdD, fun d m => ?_, ?_⟩
    · obtain ⟨x, xm, rfl⟩ := List.mem_map.mp m
      rw [noRoot_ent]
      obtain ⟨a, b, e⟩ := ent_up (w := w) (ls := standL w fa g) (x := x)
      rw [e]
      by_cases c : x = rootN w (standL w fa g) x
      · rw [if_pos c]
        refine .mk rfl ?_
        simp only [wipeR, List.set_cons_zero, List.set_cons_succ]
        repeat kct_strs
        exact ⟨rfl, (if_neg (by simpa using c)).symm⟩
      · rw [if_neg c]
        refine .mk rfl ?_
        simp only [wipeR, List.set_cons_zero, List.set_cons_succ]
        repeat kct_strs
        exact ⟨rfl, (if_pos (decide_eq_true c)).symm⟩
    · rw [ups_of (whL w fa.hs) noRoot_ent third_ent]
      repeat kct_strs
      exact o_sortM ⟨.inl rfl, q _⟩
theorem root_le (f : w.Fit) {ls : List Nat} {x y : Nat} (hx : x < w.hs.length) (hy : y ∈ pieceL w ls x) : rootN w ls x ≤ y := by
  obtain ⟨_, t, e⟩ := root_mem f (ls := ls) hx
  have u : Up (pieceL w ls x) := up_srtN
  rw [e] at u hy
  rcases List.mem_cons.mp hy with q | q
  · omega
  · exact Nat.le_of_lt ((List.pairwise_cons.mp u).1 y q)
theorem root_eq (f : w.Fit) {ls : List Nat} {x y : Nat} (hx : x < w.hs.length) (hy : y ∈ pieceL w ls x) : rootN w ls y = rootN w ls x := by
  unfold rootN
  rw [piece_eq f hx hy]
theorem pcs_roots (f : w.Fit) : ∀ j, j ≤ w.hs.length → pcs w fa.hs (standL w fa g) j = ((List.range j).filter fun x => decide (x ∉ fa.hs) && decide (x = rootN w (standL w fa g) x)).map (pieceL w (standL w fa g))
  | 0, _ => rfl
  | j + 1, hj => by
    have ih := pcs_roots f j (by omega)
    have P := pcs_ok f fa.hs (standL w fa g) j (by omega)
    have me : j ∈ pieceL w (standL w fa g) j := (mem_piece f (by omega)).mpr .refl
    rw [pcs_succ, List.range_succ, List.filter_append, List.map_append]
    unfold pstep
    by_cases c : j ∈ fa.hs
    · rw [if_neg (fun z => z.1 c), ih]
      simp [c]
    · by_cases c2 : j = rootN w (standL w fa g) j
      · have no : j ∉ (pcs w fa.hs (standL w fa g) j).flatten := fun z => by
          rw [ih] at z
          obtain ⟨p, pm, jp⟩ := List.mem_flatten.mp z
          obtain ⟨z, zm, rfl⟩ := List.mem_map.mp pm
          have zl := List.mem_range.mp (List.mem_filter.mp zm).1
          have e1 := root_eq f (by omega) jp
          have e2 := root_le f (ls := standL w fa g) (x := z) (y := z) (by omega) ((mem_piece f (by omega)).mpr .refl)
          omega
        rw [if_pos ⟨c, no⟩, ih]
        have : (List.filter (fun x => decide (x ∉ fa.hs) && decide (x = rootN w (standL w fa g) x)) [j]) = [j] := by
          rw [List.filter_cons, if_pos (by rw [decide_eq_true c, decide_eq_true c2]; rfl)]
          rfl
        rw [this]
        rfl
      · have rl := root_le f (ls := standL w fa g) (x := j) (by omega) me
        have rm := (root_mem f (ls := standL w fa g) (x := j) (by omega)).1
        have rw' := rch_off ((mem_piece f (by omega)).mp rm) c
        have yes : j ∈ (pcs w fa.hs (standL w fa g) j).flatten := by
          obtain ⟨p, pm, jp⟩ := List.mem_flatten.mp (P.met _ (by omega) rw')
          refine List.mem_flatten.mpr ⟨p, pm, ?_⟩
          obtain ⟨z, hz, rfl⟩ := P.of p pm
          rw [piece_eq f hz jp, ← piece_eq f (by omega) rm]
          exact me
        rw [if_neg (fun z => z.2 yes), ih]
        simp [c2]
theorem count_ups (f : w.Fit) : (whL w fa.hs).length = (upA w fa.hs (standL w fa g)).length + (pcs w fa.hs (standL w fa g) w.hs.length).length := by
  rw [pcs_roots f _ (Nat.le_refl _)]
  unfold upA whL
  rw [List.length_map, List.length_map]
  generalize List.range w.hs.length = xs
  induction xs with
  | nil => rfl
  | cons x r ih =>
    simp only [List.filter_cons]
    by_cases c : x ∈ fa.hs
    · rw [if_neg (by simpa using c), if_neg (by simp [c])]
      exact ih
    · rw [if_pos (by simpa using c), List.length_cons, List.filter_cons]
      by_cases c2 : x = rootN w (standL w fa g) x
      · rw [if_neg (by simpa using c2), if_pos (by rw [decide_eq_true c, decide_eq_true c2]; rfl), List.length_cons]
        omega
      · rw [if_pos (decide_eq_true c2), if_neg (by simp [c2]), List.length_cons]
        omega
end
end Ev

namespace Ev
local macro_rules | `(tactic| kct_strs) => `(tactic| first | refine w_var rfl ?_ | refine w_int ?_ | refine w_bl ?_ | refine w_str ?_ | refine w_non ?_ | refine w_bor rfl ?_ | refine w_glob ?_ | refine w_bin ?_ | refine w_cmp ?_ | refine w_call ?_ | refine w_pcall ?_ | refine w_dnew ?_ | refine w_dnew1 ?_ | refine w_dget ?_ | refine w_din ?_ | refine w_dget2 ?_ | refine s_dput ?_ | refine w_rev ?_ | refine w_trng ?_ | refine w_lrng ?_ | refine w_cons ?_ | refine w_nil ?_ | refine w_bi ?_ | refine w_idx ?_ | refine w_tup ?_ | refine w_lst ?_ | refine w_isin ?_ | refine w_both ?_ | refine w_and ?_ | refine w_and1 ?_ | refine w_not ?_ | refine w_ife ?_ | refine w_sl ?_ | refine w_sset ?_ | refine w_sm ?_ | refine w_cmp2 ?_ | refine w_neg ?_ | refine w_alloc ?_ | refine w_over ?_ | refine w_rng ?_ | refine w_rng2 ?_ | refine w_enum ?_ | refine w_zip ?_ | refine s_nil ?_ | refine s_ret ?_ | refine s_expr ?_ | refine s_reto rfl ?_ | (refine s_retf ?_) | refine s_par ?_ | (refine s_asg ?_; simp only [List.set_cons_zero, List.set_cons_succ]) | refine s_asgT ?_ | refine s_ife ?_ | refine s_cset ?_ | (refine s_own rfl ?_; simp only [List.set_cons_zero, List.set_cons_succ]) | (refine s_mut rfl ?_; simp only [List.set_cons_zero, List.set_cons_succ]) | (refine s_frz rfl ?_; simp only [List.set_cons_zero, List.set_cons_succ]) | refine s_brk ?_ | refine s_cnt ?_ | refine s_pas ?_ | refine WB.mk ?_ | refine o_add ?_ | refine o_sub ?_ | refine o_lt ?_ | refine o_gt ?_ | refine o_le ?_ | refine o_ge ?_ | refine o_eq ?_ | refine o_ne ?_ | refine o_eqb ?_ | refine o_neb ?_ | refine o_isn ?_ | refine o_notn ?_ | refine o_isnb ?_ | refine o_notnb ?_ | refine o_lenL ?_ | refine o_lenT ?_ | refine o_lenS ?_ | refine o_lenX ?_ | refine o_abs ?_ | refine o_min ?_ | refine o_intb ?_ | refine o_listL ?_ | refine o_listT ?_ | refine o_tupL ?_ | refine o_tupT ?_ | refine ⟨Nat.le_of_ble_eq_true rfl, ?_⟩ | refine knT ?_ | refine knF ?_ | refine knTT ?_ | refine knFF ?_ | refine knTF ?_ | refine knFT ?_ | refine o_ty rfl ?_ | (refine o_bind rfl ?_; simp only [List.set_cons_zero, List.set_cons_succ]) | refine o_cutL ?_ | refine o_cutT ?_ | refine o_optX rfl ?_ | refine o_items rfl ?_ | (refine o_setPar rfl ?_; simp only [List.set_cons_zero, List.set_cons_succ]) | refine o_rev ?_ | refine o_revT ?_ | refine o_neg ?_ | refine o_negB ?_ | refine o_addB ?_ | refine o_subB ?_ | refine ⟨Or.inl rfl, ?_⟩ | refine ⟨Or.inr rfl, ?_⟩ | refine o_over rfl ?_ | refine o_alloc rfl ?_ | refine o_modL rfl ?_ | refine o_fdivL rfl ?_ | refine ⟨_, rfl, ?_⟩)
open PySem L2
abbrev T4 := Nat × Nat × Nat × Nat
def less4 (y a : T4) : Prop := y.1 < a.1 ∨ (y.1 = a.1 ∧ (y.2.1 < a.2.1 ∨ (y.2.1 = a.2.1 ∧ (y.2.2.1 < a.2.2.1 ∨ (y.2.2.1 = a.2.2.1 ∧ y.2.2.2 < a.2.2.2)))))
instance (y a : T4) : Decidable (less4 y a) := by unfold less4; infer_instance
def pick4 (a y : T4) : T4 := if less4 y a then y else a
def min4 (x : T4) (xs : List T4) : T4 := xs.foldl pick4 x
theorem less4_irr (x : T4) : ¬ less4 x x := by unfold less4; omega
theorem less4_tr {x y z : T4} (a : ¬ less4 x y) (b : ¬ less4 y z) : ¬ less4 x z := by
  unfold less4 at *
  omega
theorem less4_le {x y : T4} (a : less4 x y) : ¬ less4 y x := by
  unfold less4 at *
  omega
theorem less4_eq {x y : T4} (a : ¬ less4 x y) (b : ¬ less4 y x) : x = y := by
  unfold less4 at *
  exact Prod.ext (by omega) (Prod.ext (by omega) (Prod.ext (by omega) (by omega)))
theorem min4_mem : ∀ {xs : List T4} {x : T4}, min4 x xs ∈ x :: xs
  | [], x => List.mem_cons_self
  | y :: ys, x => by
    show min4 (pick4 x y) ys ∈ x :: y :: ys
    have := min4_mem (xs := ys) (x := pick4 x y)
    rcases List.mem_cons.mp this with e | m
    · rw [e]
      unfold pick4
      split
      · exact List.mem_cons_of_mem _ List.mem_cons_self
      · exact List.mem_cons_self
    · exact List.mem_cons_of_mem _ (List.mem_cons_of_mem _ m)
theorem min4_le : ∀ {xs : List T4} {x : T4}, ∀ y ∈ x :: xs, ¬ less4 y (min4 x xs)
  | [], x, y, m => by
    rcases List.mem_cons.mp m with e | m
    · subst e
      exact less4_irr y
    · nomatch m
  | z :: zs, x, y, m => by
    show ¬ less4 y (min4 (pick4 x z) zs)
    have ih := min4_le (xs := zs) (x := pick4 x z)
    have h0 := ih _ List.mem_cons_self
    have hx : ¬ less4 x (pick4 x z) := by
      unfold pick4
      split
      · rename_i q; exact less4_le q
      · exact less4_irr x
    have hz : ¬ less4 z (pick4 x z) := by
      unfold pick4
      split
      · exact less4_irr z
      · rename_i q; exact q
    rcases List.mem_cons.mp m with e | m
    · rw [e]; exact less4_tr hx h0
    · rcases List.mem_cons.mp m with e | m
      · rw [e]; exact less4_tr hz h0
      · exact ih y (List.mem_cons_of_mem _ m)
theorem min4_is {x m : T4} {xs : List T4} (hm : m ∈ x :: xs) (hl : ∀ y ∈ x :: xs, ¬ less4 y m) : min4 x xs = m := less4_eq (hl _ min4_mem) (min4_le _ hm)
theorem min4_same {x y : T4} {xs ys : List T4} (h : ∀ p, p ∈ x :: xs ↔ p ∈ y :: ys) : min4 x xs = min4 y ys :=
  min4_is ((h _).mpr min4_mem) fun p m => min4_le p ((h p).mp m)
theorem min4_snoc (x y : T4) (xs : List T4) : min4 x (xs ++ [y]) = pick4 (min4 x xs) y := by
  unfold min4
  rw [List.foldl_append]; rfl
def d4 (t : T4) : D := .tup [nD t.1, nD t.2.1, .int ((t.2.2.1 : Int) - 1), .int ((t.2.2.2 : Int) - 1)]
def p4 (t : T4) : PyData := .tuple [.int t.1, .int t.2.1, .int ((t.2.2.1 : Int) - 1), .int ((t.2.2.2 : Int) - 1)]
theorem dt4 (t : T4) : DtN 1 (d4 t) := .tup (.cons .int (.cons .int (.cons .int (.cons .int .all))))
theorem py4 (t : T4) : pyOf (d4 t) = some (p4 t) := by
  rw [((dt4 t).dt (by decide)).py]
  rfl
theorem al4 (a b : T4) : PySem.W.alike (p4 a) (p4 b) = true := by
  simp [p4, PySem.W.alike, PySem.W.alikeAll]
theorem lt4 (a b : T4) : PySem.W.dataLt (p4 a) (p4 b) = decide (less4 a b) := by
  unfold p4
  rw [PySem.W.dataLt_tuple, PySem.W.dataLt_cons (by simp [PySem.W.alike]), PySem.W.dataLt_cons (by simp [PySem.W.alike]), PySem.W.dataLt_cons (by simp [PySem.W.alike]), PySem.W.dataLt_cons (by simp [PySem.W.alike])]
  have e : PyProof.Rows.lexLt PyProof.Rows.itemOrd (PySem.W.keyToksAll []) (PySem.W.keyToksAll []) = false := PyProof.Rows.lex_irrefl _
  rw [e, PySem.W.dataLt_int, PySem.W.dataLt_int, PySem.W.dataLt_int, PySem.W.dataLt_int]
  simp only [PyData.eqv, beq_iff_eq]
  rw [Bool.eq_iff_iff, decide_eq_true_eq (p := less4 a b)]
  unfold less4
  split
  · split
    · split
      · split
        · exact ⟨fun h => (nomatch h), fun h => by omega⟩
        · rw [decide_eq_true_eq]; omega
      · rw [decide_eq_true_eq]; omega
    · rw [decide_eq_true_eq]; omega
  · rw [decide_eq_true_eq]; omega
theorem d4_own (x : Nat) : D.tup [nD x, .int 0, .int (-1), .int (-1)] = d4 (x, 0, 0, 0) := rfl
theorem d4_cand (r f c n l : Nat) : D.tup [nD r, .int ((f : Int) + (c : Int)), nD n, nD l] = d4 (r, f + c, n + 1, l + 1) := by
  unfold d4 nD
  rw [show (((f + c : Nat) : Int)) = (f : Int) + (c : Int) by omega, show ((((n + 1 : Nat) : Int)) - 1) = (n : Int) by omega, show ((((l + 1 : Nat) : Int)) - 1) = (l : Int) by omega]
theorem o_min4 {a y : T4} {P : D → Prop} (p : P (d4 (pick4 a y))) : OI .min2 [d4 a, d4 y] P := by
  refine .mk ?_ p
  show (match pyOf (d4 a), pyOf (d4 y) with
    | some x, some z => if alikeB x z = true then (if PySem.W.dataLt z x = true then some (d4 y) else some (d4 a)) else none
    | _, _ => none) = some (d4 (pick4 a y))
  rw [py4, py4]
  simp only
  rw [if_pos (by unfold alikeB; rw [al4, al4, al4, al4]; rfl), lt4]
  unfold pick4
  by_cases h : less4 y a
  · rw [if_pos (decide_eq_true h), if_pos h]
  · rw [if_neg (by simpa using h), if_neg h]
theorem encD4 (t : T4) : encD (d4 t) = p4 t := by
  unfold encD
  rw [py4]
  rfl
theorem leD4 (a b : T4) : leD (d4 a) (d4 b) = !decide (less4 b a) := by
  show (!PySem.W.dataLt (encD (d4 b)) (encD (d4 a))) = _
  rw [encD4, encD4, lt4]
theorem pyL4 (xs : List T4) : mapO pyOf (xs.map d4) = some (xs.map p4) := by
  induction xs with
  | nil => rfl
  | cons x r ih => simp only [List.map_cons, mapO, ih, py4]
theorem o_sort4 {x : T4} {xs : List T4} {P : D → Prop} (p : ∀ tl, P (.lst (d4 (min4 x xs) :: tl))) : OI .sorted [.lst ((x :: xs).map d4)] P := by
  have perm := List.mergeSort_perm ((x :: xs).map d4) leD
  have srt : (((x :: xs).map d4).mergeSort leD).Pairwise fun a b => leD a b = true := PySem.W.sort_pairwise (PySem.W.sortLe_total _ false _) _
  have key : ∃ tl, ((x :: xs).map d4).mergeSort leD = d4 (min4 x xs) :: tl := by
    cases e : ((x :: xs).map d4).mergeSort leD with
    | nil =>
      rw [e] at perm
      have := perm.length_eq
      simp at this
    | cons z tl =>
      rw [e] at perm srt
      obtain ⟨t, tm, rfl⟩ := List.mem_map.mp (perm.mem_iff.mp (List.mem_cons_self (a := z) (l := tl)))
      refine ⟨tl, ?_⟩
      congr 2
      refine (min4_is tm fun y m => ?_).symm
      rcases List.mem_cons.mp (perm.mem_iff.mpr (List.mem_map.mpr ⟨y, m, rfl⟩)) with e | m
      · have h := leD4 y t
        rw [e, leD4] at h
        intro q
        have hh : less4 t t ↔ less4 t y := by simpa using h
        have h2 := leD4 t y
        rw [e, leD4] at h2
        have hh2 : less4 t t ↔ less4 y t := by simpa using h2
        exact less4_irr t (hh2.mpr q)
      · have := (List.pairwise_cons.mp srt).1 _ m
        rw [leD4] at this
        simpa using this
  obtain ⟨tl, e⟩ := key
  refine .mk ?_ (p tl)
  show sortD ((x :: xs).map d4) = _
  unfold sortD
  rw [pyL4]
  simp only
  rw [if_pos ?_, e]
  unfold allAlike
  rw [Bool.and_eq_true, Bool.and_eq_true, Bool.or_eq_true]
  refine ⟨⟨List.all_eq_true.mpr fun a am => List.all_eq_true.mpr fun b bm => ?_, List.all_eq_true.mpr fun a am => ?_⟩, .inl (List.all_eq_true.mpr fun a am => ?_)⟩
  · obtain ⟨n, _, rfl⟩ := List.mem_map.mp am
    obtain ⟨m, _, rfl⟩ := List.mem_map.mp bm
    exact al4 n m
  · obtain ⟨n, _, rfl⟩ := List.mem_map.mp am
    rfl
  · obtain ⟨n, _, rfl⟩ := List.mem_map.mp am
    rfl
theorem o_gtP {a b c d : Nat} {P : Bool → Prop} (p : P (decide (lessP (c, d) (a, b)))) : OC .gt (.tup [nD a, nD b]) (.tup [nD c, nD d]) P := by
  refine .mk ?_ p
  show gtD [nD a, nD b] [nD c, nD d] = _
  unfold gtD
  have e : ∀ x y : Nat, pyOf (.tup [nD x, nD y]) = some (.tuple [.int x, .int y]) := fun x y => by
    have dd : Dt (.tup [nD x, nD y]) := (dt_sD (x, y)).dt (by decide)
    rw [dd.py]
    rfl
  rw [e, e]
  simp only
  rw [if_pos (by simp [PySem.W.alike, PySem.W.alikeAll]), PySem.W.dataLt_ii]
  refine congrArg some (decide_eq_decide.mpr ?_)
  unfold lessP
  simp only
  omega
theorem o_mulT {xs : List D} {j : Int} (g : xs.length ≤ 1000 ∧ j ≤ 1000 ∧ -(2 ^ 62) < j) {P : D → Prop} (p : P (.tup (List.replicate j.toNat xs).flatten)) : OB .mul (.tup xs) (.int j) P := .mk (by
  show (if xs.length ≤ 1000 ∧ j ≤ 1000 ∧ -(2 ^ 62) < j then some (D.tup (List.replicate j.toNat xs).flatten) else none) = _
  rw [if_pos g]) p
abbrev T3 := Nat × Nat × Nat
def d3 (t : T3) : D := .tup [nD t.1, nD t.2.1, .int ((t.2.2 : Int) - 1)]
def oD : Option T3 → D
  | none => .non
  | some t => d3 t
theorem eqB_3 (a b : T3) : eqB (d3 a) (d3 b) = decide (a = b) := by
  unfold d3
  rw [eqB_tup]
  simp only [eqL, nD, eqB_int, Bool.and_true]
  rw [Bool.eq_iff_iff]
  simp only [Bool.and_eq_true, decide_eq_true_eq]
  constructor
  · rintro ⟨h1, h2, h3⟩
    exact Prod.ext (by omega) (Prod.ext (by omega) (by omega))
  · rintro rfl
    exact ⟨rfl, rfl, rfl⟩
theorem eqB_o (a b : Option T3) : eqB (oD a) (oD b) = decide (a = b) := by
  cases a with
  | none => cases b with
    | none => rfl
    | some b => rfl
  | some a => cases b with
    | none => rfl
    | some b =>
      show eqB (d3 a) (d3 b) = _
      rw [eqB_3]
      simp
abbrev Row := List (Option T3)
def rowD (r : Row) : D := .lst (r.map oD)
theorem dt_o (a : Option T3) : DtN 1 (oD a) := by
  cases a with
  | none => exact .non
  | some a => exact .tup (.cons .int (.cons .int (.cons .int .all)))
theorem dt_row (r : Row) : DtN 2 (rowD r) := .lst (.map fun a _ => dt_o a)
theorem dt_rows (rs : List Row) : DtN 3 (.lst (rs.map rowD)) := .lst (.map fun r _ => dt_row r)
theorem eqB_row (a b : Row) : eqB (rowD a) (rowD b) = decide (a = b) := by
  unfold rowD
  rw [eqB_lst, eqL_map eqB_o]
theorem eqB_rows (a b : List Row) : eqB (.lst (a.map rowD)) (.lst (b.map rowD)) = decide (a = b) := by
  rw [eqB_lst, eqL_map eqB_row]
end Ev

namespace Ev
local macro_rules | `(tactic| kct_strs) => `(tactic| first | refine w_var rfl ?_ | refine w_int ?_ | refine w_bl ?_ | refine w_str ?_ | refine w_non ?_ | refine w_bor rfl ?_ | refine w_glob ?_ | refine w_bin ?_ | refine w_cmp ?_ | refine w_call ?_ | refine w_pcall ?_ | refine w_dnew ?_ | refine w_dnew1 ?_ | refine w_dget ?_ | refine w_din ?_ | refine w_dget2 ?_ | refine s_dput ?_ | refine w_rev ?_ | refine w_trng ?_ | refine w_lrng ?_ | refine w_cons ?_ | refine w_nil ?_ | refine w_bi ?_ | refine w_idx ?_ | refine w_tup ?_ | refine w_lst ?_ | refine w_isin ?_ | refine w_both ?_ | refine w_and ?_ | refine w_and1 ?_ | refine w_not ?_ | refine w_ife ?_ | refine w_sl ?_ | refine w_sset ?_ | refine w_sm ?_ | refine w_cmp2 ?_ | refine w_neg ?_ | refine w_alloc ?_ | refine w_over ?_ | refine w_rng ?_ | refine w_rng2 ?_ | refine w_enum ?_ | refine w_zip ?_ | refine s_nil ?_ | refine s_ret ?_ | refine s_expr ?_ | refine s_reto rfl ?_ | (refine s_retf ?_) | refine s_par ?_ | (refine s_asg ?_; simp only [List.set_cons_zero, List.set_cons_succ]) | refine s_asgT ?_ | refine s_ife ?_ | refine s_cset ?_ | (refine s_own rfl ?_; simp only [List.set_cons_zero, List.set_cons_succ]) | (refine s_mut rfl ?_; simp only [List.set_cons_zero, List.set_cons_succ]) | (refine s_frz rfl ?_; simp only [List.set_cons_zero, List.set_cons_succ]) | refine s_brk ?_ | refine s_cnt ?_ | refine s_pas ?_ | refine WB.mk ?_ | refine o_add ?_ | refine o_sub ?_ | refine o_lt ?_ | refine o_gt ?_ | refine o_le ?_ | refine o_ge ?_ | refine o_eq ?_ | refine o_ne ?_ | refine o_eqb ?_ | refine o_neb ?_ | refine o_isn ?_ | refine o_notn ?_ | refine o_isnb ?_ | refine o_notnb ?_ | refine o_lenL ?_ | refine o_lenT ?_ | refine o_lenS ?_ | refine o_lenX ?_ | refine o_abs ?_ | refine o_min ?_ | refine o_intb ?_ | refine o_listL ?_ | refine o_listT ?_ | refine o_tupL ?_ | refine o_tupT ?_ | refine ⟨Nat.le_of_ble_eq_true rfl, ?_⟩ | refine knT ?_ | refine knF ?_ | refine knTT ?_ | refine knFF ?_ | refine knTF ?_ | refine knFT ?_ | refine o_ty rfl ?_ | (refine o_bind rfl ?_; simp only [List.set_cons_zero, List.set_cons_succ]) | refine o_cutL ?_ | refine o_cutT ?_ | refine o_optX rfl ?_ | refine o_items rfl ?_ | (refine o_setPar rfl ?_; simp only [List.set_cons_zero, List.set_cons_succ]) | refine o_rev ?_ | refine o_revT ?_ | refine o_neg ?_ | refine o_negB ?_ | refine o_addB ?_ | refine o_subB ?_ | refine ⟨Or.inl rfl, ?_⟩ | refine ⟨Or.inr rfl, ?_⟩ | refine o_over rfl ?_ | refine o_alloc rfl ?_ | refine o_modL rfl ?_ | refine o_fdivL rfl ?_ | refine ⟨_, rfl, ?_⟩)
open PySem L2
def candT (R : Nat → T3) (a : Aro) : T4 := ((R a.2.2.1).1, (R a.2.2.1).2.1 + a.2.2.2, a.2.2.1 + 1, a.2.1 + 1)
def candsT (R : Nat → T3) (as : List Aro) (x : Nat) : List T4 := (as.filter fun a => decide (a.1 = x)).map (candT R)
def leastT (R : Nat → T3) (as : List Aro) (x : Nat) : T4 := min4 (x, 0, 0, 0) (candsT R as x)
def nxT (R : Nat → T3) (as : List Aro) (x : Nat) : T3 := ((leastT R as x).1, (leastT R as x).2.1, (leastT R as x).2.2.2)
def rowT (as : List Aro) : Nat → Nat → T3
  | 0, x => (x, 0, 0)
  | t + 1, x => nxT (rowT as t) as x
theorem mem_cands {R : Nat → T3} {as : List Aro} {x : Nat} {t : T4} : t ∈ candsT R as x ↔ ∃ a ∈ as, a.1 = x ∧ candT R a = t := by
  unfold candsT
  rw [List.mem_map]
  constructor
  · rintro ⟨a, am, e⟩
    have := List.mem_filter.mp am
    exact ⟨a, this.1, of_decide_eq_true this.2, e⟩
  · rintro ⟨a, am, e, e2⟩
    exact ⟨a, List.mem_filter.mpr ⟨am, decide_eq_true e⟩, e2⟩
theorem least_same {R : Nat → T3} {as bs : List Aro} (s : ∀ a, a ∈ as ↔ a ∈ bs) (x : Nat) : leastT R as x = leastT R bs x := by
  unfold leastT
  refine min4_same fun p => ?_
  rw [List.mem_cons, List.mem_cons, mem_cands, mem_cands]
  exact ⟨fun h => h.imp id fun ⟨a, am, e⟩ => ⟨a, (s a).mp am, e⟩, fun h => h.imp id fun ⟨a, am, e⟩ => ⟨a, (s a).mpr am, e⟩⟩
theorem nx_same {R : Nat → T3} {as bs : List Aro} (s : ∀ a, a ∈ as ↔ a ∈ bs) (x : Nat) : nxT R as x = nxT R bs x := by
  unfold nxT
  rw [least_same s]
theorem row_same {as bs : List Aro} (s : ∀ a, a ∈ as ↔ a ∈ bs) : ∀ t, rowT as t = rowT bs t
  | 0 => rfl
  | t + 1 => by
    funext x
    show nxT (rowT as t) as x = nxT (rowT bs t) bs x
    rw [row_same s t, nx_same s]
theorem nx_congr {R R' : Nat → T3} {as : List Aro} (h : ∀ a ∈ as, R a.2.2.1 = R' a.2.2.1) (x : Nat) : nxT R as x = nxT R' as x := by
  have e : candsT R as x = candsT R' as x := by
    unfold candsT
    refine List.map_congr_left fun a am => ?_
    unfold candT
    rw [h a (List.mem_filter.mp am).1]
  unfold nxT leastT
  rw [e]
theorem row_wk {as : List Aro} : ∀ t x, ∃ k, k ≤ t ∧ Wk (as.map aroA) (rowT as t x).1 k x (rowT as t x).2.1
  | 0, x => ⟨0, Nat.le_refl _, .nil⟩
  | t + 1, x => by
    show ∃ k, k ≤ t + 1 ∧ Wk (as.map aroA) (leastT (rowT as t) as x).1 k x (leastT (rowT as t) as x).2.1
    have m := min4_mem (x := (x, 0, 0, 0)) (xs := candsT (rowT as t) as x)
    rcases List.mem_cons.mp m with e | m
    · unfold leastT
      rw [e]
      exact ⟨0, Nat.zero_le _, .nil⟩
    · obtain ⟨a, am, e1, e2⟩ := mem_cands.mp m
      unfold leastT
      rw [← e2]
      obtain ⟨k, hk, w⟩ := row_wk t a.2.2.1
      exact ⟨k + 1, by omega, .step w (List.mem_map.mpr ⟨a, am, by unfold aroA; rw [e1]⟩)⟩
theorem row_le {as : List Aro} {r k x c : Nat} (w : Wk (as.map aroA) r k x c) : ∀ t, k ≤ t → ¬ lessP (r, c) ((rowT as t x).1, (rowT as t x).2.1) := by
  induction w with
  | nil =>
    intro t _
    cases t with
    | zero =>
      show ¬ lessP (r, 0) (r, 0)
      unfold lessP; omega
    | succ t =>
      have := min4_le (x := (r, 0, 0, 0)) (xs := candsT (rowT as t) as r) _ List.mem_cons_self
      show ¬ lessP (r, 0) ((leastT (rowT as t) as r).1, (leastT (rowT as t) as r).2.1)
      unfold leastT
      unfold less4 at this
      unfold lessP
      simp only at *
      omega
  | @step k a c b d _ m ih =>
    intro t ht
    cases t with
    | zero => omega
    | succ t =>
      have h1 := ih t (by omega)
      obtain ⟨e, em, ee⟩ := List.mem_map.mp m
      obtain ⟨to, l, nr, cc⟩ := e
      cases ee
      have h2 := min4_le (x := (to, 0, 0, 0)) (xs := candsT (rowT as t) as to) _ (List.mem_cons_of_mem _ (mem_cands.mpr ⟨_, em, rfl, rfl⟩))
      show ¬ lessP (r, c + cc) ((leastT (rowT as t) as to).1, (leastT (rowT as t) as to).2.1)
      unfold leastT
      unfold less4 candT at h2
      unfold lessP at *
      simp only at *
      omega
theorem filter_short {p : Nat → Bool} {a : Nat} (pa : p a = false) {S : List Nat} (m : a ∈ S) : (S.filter p).length + 1 ≤ S.length := by
  have := filter_lt (p := p) (q := fun _ => true) (a := a) (fun _ _ => rfl) rfl pa m
  rw [List.filter_eq_self.mpr (fun _ _ => rfl)] at this
  exact this
theorem filter_short2 {p : Nat → Bool} {a b : Nat} (pa : p a = false) (pb : p b = false) (ne : a ≠ b) {S : List Nat} (m : a ∈ S) (m2 : b ∈ S) : (S.filter p).length + 2 ≤ S.length := by
  have h1 := filter_lt (p := p) (q := fun u => decide (u = a) || p u) (a := a) (fun u hu => by rw [hu]; exact Bool.or_true _) (by rw [decide_eq_true rfl]; rfl) pa m
  have h2 := filter_short (p := fun u => decide (u = a) || p u) (a := b) (by rw [pb, decide_eq_false (fun q => ne q.symm)]; rfl) m2
  omega
section
variable {w : Wv} {ls : List Nat}
theorem wk_aro {r k x c : Nat} : Wk ((arosL w ls).map aroA) r k x c ↔ Wk (larosL w ls) r k x c :=
  ⟨fun h => h.sub fun e m => (laro_same w ls e).mp m, fun h => h.sub fun e m => (laro_same w ls e).mpr m⟩
theorem wk_root (f : w.Fit) {r k x c : Nat} (hx : x < w.hs.length) (h : Wk (larosL w ls) r k x c) : r ∈ pieceL w ls x := (mem_piece f hx).mpr (rch_of_wk h).symm
theorem root_far (f : w.Fit) {x : Nat} (hx : x < w.hs.length) : ∃ d, farM w ls (rootN w ls x) x = some d ∧ IsMin (larosL w ls) (rootN w ls x) x d ∧ rootN w ls x < w.hs.length ∧ x ∈ pieceL w ls (rootN w ls x) := by
  obtain ⟨rm, _⟩ := root_mem f (ls := ls) hx
  have hr := piece_lt f hx rm
  have xm : x ∈ pieceL w ls (rootN w ls x) := by
    rw [← piece_eq f hx rm]
    exact (mem_piece f hx).mpr .refl
  obtain ⟨d, hd⟩ := far_some f hr xm
  exact ⟨d, hd, (far_law f hr x d).mp hd, hr, xm⟩
/-- a pair of a row that is reached in time is the least one -/
theorem row_pair (f : w.Fit) {x d k t : Nat} (hx : x < w.hs.length) (mn : IsMin (larosL w ls) (rootN w ls x) x d) (wk : Wk (larosL w ls) (rootN w ls x) k x d) (hk : k ≤ t) :
    (rowT (arosL w ls) t x).1 = rootN w ls x ∧ (rowT (arosL w ls) t x).2.1 = d := by
  have h1 := row_le (wk_aro.mpr wk) t hk
  obtain ⟨k', _, w'⟩ := row_wk (as := arosL w ls) t x
  have w' := wk_aro.mp w'
  have h2 := root_le f hx (wk_root f hx w')
  generalize rowT (arosL w ls) t x = e at *
  unfold lessP at h1
  simp only at h1
  have h3 : e.1 = rootN w ls x := by omega
  rw [h3] at w'
  have := mn.2 _ _ w'
  exact ⟨h3, by omega⟩
theorem row_far (f : w.Fit) {x t : Nat} (hx : x < w.hs.length) (ht : (pieceL w ls x).length ≤ t + 1) :
    (rowT (arosL w ls) t x).1 = rootN w ls x ∧ farM w ls (rootN w ls x) x = some (rowT (arosL w ls) t x).2.1 := by
  classical
  obtain ⟨d, hd, mn, hr, xm⟩ := root_far f (ls := ls) hx
  obtain ⟨k, hk, wk⟩ := short (laro_cost f) (S := pieceL w ls (rootN w ls x)) (fun _ _ _ h => (mem_piece f hr).mpr (rch_of_wk h)) d x mn
  have hs := filter_short (p := fun u => decide (∃ c', IsMin (larosL w ls) (rootN w ls x) u c' ∧ c' < d)) (a := x) (decide_eq_false fun ⟨c', a, b⟩ => by have := a.eq mn; omega) xm
  have e := piece_eq f hx (root_mem f (ls := ls) hx).1
  rw [← e] at hk hs
  have := row_pair f hx mn wk (t := t) (by
    refine Nat.le_trans hk ?_
    have : ∀ a b : Nat, a = b → b + 1 ≤ (pieceL w ls x).length → a ≤ t := fun a b q h => by omega
    exact this _ _ (by congr) hs)
  exact ⟨this.1, by rw [hd, this.2]⟩
theorem row_up (f : w.Fit) {x t : Nat} (hx : x < w.hs.length) (ht : (pieceL w ls x).length ≤ t + 1) :
    (rowT (arosL w ls) t x).2.2 = if x = rootN w ls x then 0 else upN w ls (rootN w ls x) x + 1 := by
  classical
  obtain ⟨d, hd, mn, hr, xm⟩ := root_far f (ls := ls) hx
  have rf := row_far f hx ht
  rw [hd] at rf
  have e2 : (rowT (arosL w ls) t x).2.1 = d := (Option.some.inj rf.2).symm
  have e1 := rf.1
  have ep := piece_eq f hx (root_mem f (ls := ls) hx).1
  by_cases hrx : x = rootN w ls x
  · rw [if_pos hrx]
    have d0 : d = 0 := by
      have := mn.2 0 0 (by rw [← hrx]; exact .nil)
      omega
    cases t with
    | zero => rfl
    | succ t =>
      have m := min4_mem (x := (x, 0, 0, 0)) (xs := candsT (rowT (arosL w ls) t) (arosL w ls) x)
      change (leastT (rowT (arosL w ls) t) (arosL w ls) x).2.1 = d at e2
      show (leastT (rowT (arosL w ls) t) (arosL w ls) x).2.2.2 = 0
      unfold leastT at *
      rcases List.mem_cons.mp m with e | m
      · rw [e]
      · obtain ⟨a, am, _, ea⟩ := mem_cands.mp m
        have c1 := laro_cost f (ls := ls) (aroA a) ((laro_same w ls _).mp (List.mem_map.mpr ⟨a, am, rfl⟩))
        rw [← ea] at e2
        unfold candT at e2
        unfold aroA at c1
        simp only at e2 c1
        omega
  · rw [if_neg hrx]
    cases t with
    | zero =>
      exact absurd e1 hrx
    | succ t =>
      change (leastT (rowT (arosL w ls) t) (arosL w ls) x).2.1 = d at e2
      change (leastT (rowT (arosL w ls) t) (arosL w ls) x).1 = _ at e1
      show (leastT (rowT (arosL w ls) t) (arosL w ls) x).2.2.2 = _
      have m := min4_mem (x := (x, 0, 0, 0)) (xs := candsT (rowT (arosL w ls) t) (arosL w ls) x)
      have le := min4_le (x := (x, 0, 0, 0)) (xs := candsT (rowT (arosL w ls) t) (arosL w ls) x)
      unfold leastT at *
      rcases List.mem_cons.mp m with e | m
      · rw [e] at e1
        exact absurd e1 hrx
      · obtain ⟨a, am, ax, ea⟩ := mem_cands.mp m
        rw [← ea] at le e1 e2 ⊢
        obtain ⟨to, l, nr, cc⟩ := a
        simp only at ax
        subst ax
        unfold candT at le e1 e2 ⊢
        simp only at e1 e2 le ⊢
        have ma : (nr, to, cc) ∈ larosL w ls := (laro_same w ls _).mp (List.mem_map.mpr ⟨_, am, rfl⟩)
        -- the house by which it hangs
        have hang : isUp (farM w ls (rootN w ls to)) to (to, l, nr, cc) = true := by
          obtain ⟨k', _, w'⟩ := row_wk (as := arosL w ls) t nr
          have w' := wk_aro.mp w'
          rw [e1] at w'
          obtain ⟨c0, m0⟩ := min_of w'
          have g1 := m0.2 _ _ w'
          obtain ⟨⟨k0, w0⟩, _⟩ := id m0
          have g2 := mn.2 _ _ (.step w0 ma)
          have : c0 + cc = d := by omega
          unfold isUp
          simp only [(far_law f hr nr c0).mpr m0, hd, decide_true, Bool.true_and]
          exact decide_eq_true this
        have hm : ((nr, l) : Nat × Nat) ∈ upsL (farM w ls (rootN w ls to)) to (arosL w ls) := List.mem_map.mpr ⟨_, List.mem_filter.mpr ⟨am, hang⟩, rfl⟩
        have all : ∀ p ∈ upsL (farM w ls (rootN w ls to)) to (arosL w ls), ¬ lessP p (nr, l) := fun p pm => by
          obtain ⟨b, bm, rfl⟩ := List.mem_map.mp pm
          have bm := List.mem_filter.mp bm
          obtain ⟨bt, bl, bn, bc⟩ := b
          have hb := bm.2
          unfold isUp at hb
          simp only [hd] at hb
          rw [Bool.and_eq_true, decide_eq_true_eq] at hb
          obtain ⟨hbt, hb⟩ := hb
          subst hbt
          cases q : farM w ls (rootN w ls bt) bn with
          | none => rw [q] at hb; nomatch hb
          | some c =>
            rw [q] at hb
            have hc : c + bc = d := of_decide_eq_true hb
            have mb := (far_law f hr bn c).mp q
            have arb : (bn, bt, bc) ∈ larosL w ls := (laro_same w ls _).mp (List.mem_map.mpr ⟨_, bm.1, rfl⟩)
            have cb := laro_cost f _ arb
            simp only at cb
            obtain ⟨⟨k0, w0⟩, _⟩ := id mb
            have bnm : bn ∈ pieceL w ls (rootN w ls bt) := (mem_piece f hr).mpr (rch_of_wk w0)
            have bnx : bn < w.hs.length := piece_lt f hr bnm
            obtain ⟨k, hk, wk⟩ := short (laro_cost f) (S := pieceL w ls (rootN w ls bt)) (fun _ _ _ h => (mem_piece f hr).mpr (rch_of_wk h)) c bn mb
            have hs := filter_short2 (p := fun u => decide (∃ c', IsMin (larosL w ls) (rootN w ls bt) u c' ∧ c' < c)) (a := bn) (b := bt) (decide_eq_false fun ⟨c', a, b⟩ => by have := a.eq mb; omega) (decide_eq_false fun ⟨c', a, b⟩ => by have := a.eq mn; omega) (fun z => by
              rw [z] at mb
              have := mb.eq mn
              omega) bnm xm
            rw [← ep] at hk hs
            have er : rootN w ls bn = rootN w ls bt := by
              have h1 := root_eq f hr bnm
              have h2 := root_eq f hx (root_mem f (ls := ls) hx).1
              rw [h1, h2]
            have rp := row_pair f bnx (by rw [er]; exact mb) (by rw [er]; exact wk) (t := t) (by
              refine Nat.le_trans hk ?_
              have : ∀ a b : Nat, a = b → b + 2 ≤ (pieceL w ls bt).length → a ≤ t := fun a b q h => by omega
              exact this _ _ (by congr) hs)
            rw [er] at rp
            have := le _ (List.mem_cons_of_mem _ (mem_cands.mpr ⟨_, bm.1, rfl, rfl⟩))
            unfold candT less4 at this
            simp only at this
            unfold lessP
            simp only
            rw [rp.1, rp.2] at this
            omega
        show l + 1 = upN w ls (rootN w ls to) to + 1
        unfold upN
        cases q : upsL (farM w ls (rootN w ls to)) to (arosL w ls) with
        | nil => rw [q] at hm; nomatch hm
        | cons u us =>
          rw [q] at hm all
          simp only
          have a1 := all _ minP_mem
          have a2 := minP_le (x := u) (xs := us) _ hm
          unfold lessP at a1 a2
          simp only at a1 a2
          omega
theorem row_tree (f : w.Fit) {x t : Nat} (hx : x < w.hs.length) (ht : (pieceL w ls x).length ≤ t + 1) : d3 (rowT (arosL w ls) t x) = entD w ls x := by
  have a := row_far f hx ht
  have b := row_up f hx ht
  unfold d3 entD
  rw [a.1, a.2, b]
  by_cases q : x = rootN w ls x
  · rw [if_pos q, if_pos q]; rfl
  · rw [if_neg q, if_neg q]
    unfold nD
    rw [show ((((upN w ls (rootN w ls x) x + 1 : Nat) : Int)) - 1) = ((upN w ls (rootN w ls x) x : Nat) : Int) by omega]
    rfl
end
def rowO (as : List Aro) (fhs : List Nat) (n t : Nat) : Row := (List.range n).map fun x => if x ∈ fhs then none else some (rowT as t x)
theorem rowO_len (as : List Aro) (fhs : List Nat) (n t : Nat) : (rowO as fhs n t).length = n := by
  unfold rowO
  rw [List.length_map, List.length_range]
theorem rowO_at (as : List Aro) (fhs : List Nat) {n x : Nat} (t : Nat) (h : x < n) : (rowO as fhs n t)[x]? = some (if x ∈ fhs then none else some (rowT as t x)) := by
  unfold rowO
  rw [List.getElem?_map, List.getElem?_range h]
  rfl
theorem rowO_eq {as : List Aro} {fhs : List Nat} {n s t : Nat} : rowO as fhs n s = rowO as fhs n t ↔ ∀ x, x < n → x ∉ fhs → rowT as s x = rowT as t x := by
  constructor
  · intro e x hx hf
    have := rowO_at as fhs s hx
    rw [e, rowO_at as fhs t hx, if_neg hf, if_neg hf] at this
    exact (Option.some.inj (Option.some.inj this)).symm
  · intro h
    unfold rowO
    refine List.map_congr_left fun x xm => ?_
    have := List.mem_range.mp xm
    split
    · rfl
    · rename_i q
      rw [h x this q]
/-- arrows come from whole houses that there are -/
def ArOk (as : List Aro) (fhs : List Nat) (n : Nat) : Prop := as.length ≤ 1000 ∧ ∀ a ∈ as, a.2.2.1 < n ∧ a.2.2.1 ∉ fhs
theorem rowO_next {as : List Aro} {fhs : List Nat} {n s t : Nat} (o : ArOk as fhs n) (e : rowO as fhs n s = rowO as fhs n t) : rowO as fhs n (s + 1) = rowO as fhs n (t + 1) := by
  rw [rowO_eq] at *
  intro x hx hf
  exact nx_congr (fun a am => e _ (o.2 a am).1 (o.2 a am).2) x
theorem rowO_stay {as : List Aro} {fhs : List Nat} {n t : Nat} (o : ArOk as fhs n) (e : rowO as fhs n (t + 1) = rowO as fhs n t) : ∀ j, rowO as fhs n (t + j) = rowO as fhs n t
  | 0 => rfl
  | j + 1 => by
    have := rowO_next o (rowO_stay o e j)
    exact this.trans e
/-- how many rows are told -/
structure Tld (as : List Aro) (fhs : List Nat) (n L : Nat) : Prop where
  pos : 1 ≤ L
  same : rowO as fhs n L = rowO as fhs n (L - 1)
  un : ∀ j, 1 ≤ j → j < L → rowO as fhs n j ≠ rowO as fhs n (j - 1)
theorem Tld.eq {as : List Aro} {fhs : List Nat} {n L L' : Nat} (a : Tld as fhs n L) (b : Tld as fhs n L') : L = L' := by
  rcases Nat.lt_trichotomy L L' with h | h | h
  · exact absurd a.same (b.un L a.pos h)
  · exact h
  · exact absurd b.same (a.un L' b.pos h)
theorem Tld.of {as : List Aro} {fhs : List Nat} {n M : Nat} (hM : 1 ≤ M) (e : rowO as fhs n M = rowO as fhs n (M - 1)) : ∃ L, L ≤ M ∧ Tld as fhs n L := by
  obtain ⟨L, ⟨h1, h2⟩, h3⟩ := least (P := fun L => 1 ≤ L ∧ rowO as fhs n L = rowO as fhs n (L - 1)) (c := M) ⟨hM, e⟩
  exact ⟨L, h3 M ⟨hM, e⟩, h1, h2, fun j hj hl q => by have := h3 j ⟨hj, q⟩; omega⟩
def rowsO (as : List Aro) (fhs : List Nat) (n L : Nat) : List Row := (List.range L).map (rowO as fhs n)
section
variable {w : Wv} {fa : Fa} {g : Nat}
theorem ar_ok (f : w.Fit) : ArOk (arosL w (standL w fa g)) fa.hs w.hs.length := by
  have lo := stand_ok (fa := fa) f g
  refine ⟨?_, fun a am => ?_⟩
  · have := fm_lenA (f := aros1 w) (c := 2) (xs := standL w fa g) fun x _ => aros1_len w x
    have := lo.1
    unfold arosL
    omega
  · obtain ⟨l, lm, e⟩ := List.mem_flatMap.mp am
    cases q : w.ls[l]? with
    | none => unfold aros1 at e; rw [q] at e; nomatch e
    | some ln =>
      rw [aros1_at q] at e
      have o := f.l2 ln (List.mem_of_getElem? q)
      have s := stand_off lm q
      simp only [List.mem_cons, List.not_mem_nil, or_false] at e
      have := o.a
      have := o.b
      rcases e with rfl | rfl
      · exact ⟨(by show ln.other < _; omega), s.2⟩
      · exact ⟨(by show ln.one < _; omega), s.1⟩
/-- rows late enough are the tree -/
theorem row_last (f : w.Fit) {M : Nat} (hM : ∀ x, x < w.hs.length → x ∉ fa.hs → (pieceL w (standL w fa g) x).length ≤ M) {t : Nat} (ht : M ≤ t + 1) :
    rowD (rowO (arosL w (standL w fa g)) fa.hs w.hs.length t) = .lst ((List.range w.hs.length).map (treeD w fa.hs (standL w fa g))) := by
  unfold rowD rowO
  rw [List.map_map]
  congr 1
  refine List.map_congr_left fun x xm => ?_
  have hx := List.mem_range.mp xm
  show oD (if x ∈ fa.hs then none else some _) = treeD w fa.hs (standL w fa g) x
  unfold treeD
  split
  · rfl
  · rename_i q
    exact row_tree f hx (Nat.le_trans (hM x hx q) ht)
theorem row_fix (f : w.Fit) {M : Nat} (h1 : 1 ≤ M) (hM : ∀ x, x < w.hs.length → x ∉ fa.hs → (pieceL w (standL w fa g) x).length ≤ M) :
    rowO (arosL w (standL w fa g)) fa.hs w.hs.length M = rowO (arosL w (standL w fa g)) fa.hs w.hs.length (M - 1) := by
  have a := row_last f hM (t := M) (by omega)
  have b := row_last f hM (t := M - 1) (by omega)
  have e := eqB_row (rowO (arosL w (standL w fa g)) fa.hs w.hs.length M) (rowO (arosL w (standL w fa g)) fa.hs w.hs.length (M - 1))
  rw [a, b] at e
  have d := dt_row (rowO (arosL w (standL w fa g)) fa.hs w.hs.length M)
  rw [a] at d
  rw [eqB_refl (d.dt (by decide))] at e
  exact of_decide_eq_true e.symm
/-- the rows told: no more than the houses of the greatest piece -/
theorem stp_of (f : w.Fit) (fa : Fa) (g : Nat) {M : Nat} (h1 : 1 ≤ M) (hM : ∀ x, x < w.hs.length → x ∉ fa.hs → (pieceL w (standL w fa g) x).length ≤ M) : ∃ L, L ≤ M ∧ Tld (arosL w (standL w fa g)) fa.hs w.hs.length L :=
  Tld.of h1 (row_fix f h1 hM)
theorem stp_last (f : w.Fit) {L : Nat} (s : Tld (arosL w (standL w fa g)) fa.hs w.hs.length L) : rowD (rowO (arosL w (standL w fa g)) fa.hs w.hs.length (L - 1)) = .lst ((List.range w.hs.length).map (treeD w fa.hs (standL w fa g))) := by
  have e : rowO (arosL w (standL w fa g)) fa.hs w.hs.length (L - 1 + w.hs.length) = rowO (arosL w (standL w fa g)) fa.hs w.hs.length (L - 1) := by
    refine rowO_stay (ar_ok f) ?_ _
    have := s.pos
    rw [show L - 1 + 1 = L by omega]
    exact s.same
  rw [← e]
  exact row_last f (M := w.hs.length) (fun x hx _ => piece_len f hx) (by omega)
end
end Ev

namespace Ev
local macro_rules | `(tactic| kct_strs) => `(tactic| first | refine w_var rfl ?_ | refine w_int ?_ | refine w_bl ?_ | refine w_str ?_ | refine w_non ?_ | refine w_bor rfl ?_ | refine w_glob ?_ | refine w_bin ?_ | refine w_cmp ?_ | refine w_call ?_ | refine w_pcall ?_ | refine w_dnew ?_ | refine w_dnew1 ?_ | refine w_dget ?_ | refine w_din ?_ | refine w_dget2 ?_ | refine s_dput ?_ | refine w_rev ?_ | refine w_trng ?_ | refine w_lrng ?_ | refine w_cons ?_ | refine w_nil ?_ | refine w_bi ?_ | refine w_idx ?_ | refine w_tup ?_ | refine w_lst ?_ | refine w_isin ?_ | refine w_both ?_ | refine w_and ?_ | refine w_and1 ?_ | refine w_not ?_ | refine w_ife ?_ | refine w_sl ?_ | refine w_sset ?_ | refine w_sm ?_ | refine w_cmp2 ?_ | refine w_neg ?_ | refine w_alloc ?_ | refine w_over ?_ | refine w_rng ?_ | refine w_rng2 ?_ | refine w_enum ?_ | refine w_zip ?_ | refine s_nil ?_ | refine s_ret ?_ | refine s_expr ?_ | refine s_reto rfl ?_ | (refine s_retf ?_) | refine s_par ?_ | (refine s_asg ?_; simp only [List.set_cons_zero, List.set_cons_succ]) | refine s_asgT ?_ | refine s_ife ?_ | refine s_cset ?_ | (refine s_own rfl ?_; simp only [List.set_cons_zero, List.set_cons_succ]) | (refine s_mut rfl ?_; simp only [List.set_cons_zero, List.set_cons_succ]) | (refine s_frz rfl ?_; simp only [List.set_cons_zero, List.set_cons_succ]) | refine s_brk ?_ | refine s_cnt ?_ | refine s_pas ?_ | refine WB.mk ?_ | refine o_add ?_ | refine o_sub ?_ | refine o_lt ?_ | refine o_gt ?_ | refine o_le ?_ | refine o_ge ?_ | refine o_eq ?_ | refine o_ne ?_ | refine o_eqb ?_ | refine o_neb ?_ | refine o_isn ?_ | refine o_notn ?_ | refine o_isnb ?_ | refine o_notnb ?_ | refine o_lenL ?_ | refine o_lenT ?_ | refine o_lenS ?_ | refine o_lenX ?_ | refine o_abs ?_ | refine o_min ?_ | refine o_intb ?_ | refine o_listL ?_ | refine o_listT ?_ | refine o_tupL ?_ | refine o_tupT ?_ | refine ⟨Nat.le_of_ble_eq_true rfl, ?_⟩ | refine knT ?_ | refine knF ?_ | refine knTT ?_ | refine knFF ?_ | refine knTF ?_ | refine knFT ?_ | refine o_ty rfl ?_ | (refine o_bind rfl ?_; simp only [List.set_cons_zero, List.set_cons_succ]) | refine o_cutL ?_ | refine o_cutT ?_ | refine o_optX rfl ?_ | refine o_items rfl ?_ | (refine o_setPar rfl ?_; simp only [List.set_cons_zero, List.set_cons_succ]) | refine o_rev ?_ | refine o_revT ?_ | refine o_neg ?_ | refine o_negB ?_ | refine o_addB ?_ | refine o_subB ?_ | refine ⟨Or.inl rfl, ?_⟩ | refine ⟨Or.inr rfl, ?_⟩ | refine o_over rfl ?_ | refine o_alloc rfl ?_ | refine o_modL rfl ?_ | refine o_fdivL rfl ?_ | refine ⟨_, rfl, ?_⟩)
open PySem L2
def nextFn : Fn := ⟨2, 10, [.own 2 (.lst []), .fors (.tp [3, 4]) (.enum (.var 0)) [.asg (.nm 5) (.tup [(.var 3), (.int 0), (.neg (.int 1)), (.neg (.int 1))]), .fors (.tp [6, 7, 8, 9]) (.over (.var 1)) [.ife (.cmp .eq (.var 6) (.var 3)) [.asg (.nm 5) (.bi .min2 [(.var 5), (.tup [(.idx (.idx (.var 0) (.var 8)) (.int 0)), (.bin .add (.idx (.idx (.var 0) (.var 8)) (.int 1)) (.var 9)), (.var 8), (.var 7)])])] []], .mut .append 2 [(.ife (.cmp .isn (.var 4) .non) .non (.bin .add (.sl (.var 5) .non (.int 2)) (.sl (.var 5) (.int 3) .non)))]], .reto 2], true⟩
def rowsFn : Fn := ⟨3, 7, [.asg (.nm 3) (.call "arrows_of" [(.var 0), (.call "standing" [(.var 0), (.var 1), (.var 2)])]), .asg (.nm 4) (.comp [5] (.nm 5) (.rng (.bi .len [(.idx (.var 0) (.int 0))])) (.bl true) (.ife (.cmp .inn (.var 5) (.idx (.var 1) (.int 0))) .non (.tup [(.var 5), (.int 0), (.neg (.int 1))]))), .own 6 (.lst []), .whil (.both false [(.cmp .eq (.bi .len [(.bor 6)]) (.int 0)), (.cmp .ne (.var 4) (.idx (.bor 6) (.neg (.int 1))))]) [.mut .append 6 [(.var 4)], .asg (.nm 4) (.call "next_row" [(.var 4), (.var 3)])], .reto 6], true⟩
structure RwFns (fns : List (String × Fn)) : Prop where
  st : fns.lookup "standing" = some standingFn
  ss : fns.lookup "stands" = some standsFn
  wh : fns.lookup "whole_strands" = some wholeFn
  ar : fns.lookup "arrows_of" = some arrowsFn
  nx : fns.lookup "next_row" = some nextFn
  tr : fns.lookup "told_rows" = some rowsFn
theorem rowsO_succ (as : List Aro) (fhs : List Nat) (n L : Nat) : rowsO as fhs n (L + 1) = rowsO as fhs n L ++ [rowO as fhs n L] := by
  unfold rowsO
  rw [List.range_succ, List.map_append]; rfl
theorem rowsO_len (as : List Aro) (fhs : List Nat) (n L : Nat) : (rowsO as fhs n L).length = L := by
  unfold rowsO
  rw [List.length_map, List.length_range]
theorem ixM1 {xs : List D} {y : D} : idxD (.lst (xs ++ [y])) (.int (-1)) = some y := by
  simp only [idxD]
  unfold L2.atI
  have : L2.ixN (xs ++ [y]).length (-1) = some xs.length := by
    unfold L2.ixN
    rw [List.length_append]
    simp
    omega
  rw [this]
  simp
theorem ix0 {xs : List D} {y : D} : idxD (.lst (y :: xs)) (.int 0) = some y := ixL (i := 0) (by simp)
theorem ix_row {as : List Aro} {fhs : List Nat} {n x : Nat} (t : Nat) (hx : x < n) (hf : x ∉ fhs) : idxD (.lst ((rowO as fhs n t).map oD)) (nD x) = some (.tup [nD (rowT as t x).1, nD (rowT as t x).2.1, .int (((rowT as t x).2.2 : Int) - 1)]) := by
  have e := rowO_at as fhs t hx
  have hl : x < ((rowO as fhs n t).map oD).length := by rw [List.length_map, rowO_len]; exact hx
  have e2 := ixL hl
  rw [show idxD (.lst ((rowO as fhs n t).map oD)) (nD x) = idxD (.lst ((rowO as fhs n t).map oD)) (.int (x : Int)) from rfl, e2, List.getElem_map]
  rw [List.getElem?_eq_getElem (by rw [rowO_len]; exact hx), if_neg hf] at e
  rw [Option.some.inj e]
  rfl
theorem cands_take {R : Nat → T3} {as : List Aro} {x j : Nat} {a : Aro} (e : as[j]? = some a) : candsT R (as.take (j + 1)) x = candsT R (as.take j) x ++ if a.1 = x then [candT R a] else [] := by
  unfold candsT
  rw [List.take_succ, e, List.filter_append, List.map_append]
  congr 1
  show (([a] : List Aro).filter _).map _ = _
  rw [List.filter_cons]
  by_cases h : a.1 = x
  · rw [if_pos (decide_eq_true h), if_pos h]; rfl
  · rw [if_neg (by simpa using h), if_neg h]; rfl
section
variable {fns : List (String × Fn)} {k : Nat} {h : Hs} {w : Wv} {fa : Fa} {g : Nat}
theorem next_e (hf : fns.lookup "next_row" = some nextFn) {as : List Aro} {fhs : List Nat} {n : Nat} (hn : n ≤ 1000) (o : ArOk as fhs n) (t : Nat) :
    callF fns (k + 1) "next_row" [rowD (rowO as fhs n t), .lst (as.map aroD)] h = some (rowD (rowO as fhs n (t + 1)), h) := by
  refine WC.eq (c_defF hf rfl ?_)
  show WS _ nextFn.body [_, _, _, _, _, _, _, _, _, _] _ _
  unfold nextFn rowD
  have hlim : lim = 4000000 := rfl
  repeat kct_strs
  refine s_for ?_
  repeat kct_strs
  refine ⟨fun i ρ h' => h' = h ∧ ∃ s3 s4 s5 s6 s7 s8 s9, ρ = [.val (.lst ((rowO as fhs n t).map oD)), .val (.lst (as.map aroD)), .own (((rowO as fhs n (t + 1)).take i).map oD), s3, s4, s5, s6, s7, s8, s9], ⟨rfl, _, _, _, _, _, _, _, rfl⟩, ?_, ?_⟩
  · rintro i d ρ h3 ei ⟨rfl, s3, s4, s5, s6, s7, s8, s9, rfl⟩
    obtain ⟨hi, rfl⟩ := enum_get ei
    have hi2 : i < n := by rw [List.length_map, rowO_len] at hi; exact hi
    have e1 : ((rowO as fhs n t).map oD)[i] = oD (if i ∈ fhs then none else some (rowT as t i)) := by
      rw [List.getElem_map]
      have e := rowO_at as fhs t hi2
      rw [List.getElem?_eq_getElem (by rw [rowO_len]; exact hi2)] at e
      rw [Option.some.inj e]
    rw [e1]
    have etk : ((rowO as fhs n (t + 1)).take (i + 1)).map oD = ((rowO as fhs n (t + 1)).take i).map oD ++ [oD (if i ∈ fhs then none else some (rowT as (t + 1) i))] := by
      rw [List.take_succ, rowO_at as fhs (t + 1) hi2, List.map_append]; rfl
    have tl : (((rowO as fhs n (t + 1)).take i).map oD).length ≤ 1000 := by rw [List.length_map, List.length_take]; omega
    generalize ((rowO as fhs n (t + 1)).take i).map oD = cur at etk tl ⊢
    refine .mk rfl ?_
    simp only [List.set_cons_zero, List.set_cons_succ]
    repeat kct_strs
    rw [d4_own]
    refine s_for ?_
    repeat kct_strs
    refine ⟨fun j ρ h' => h' = h3 ∧ ∃ s6 s7 s8 s9, ρ = [.val (.lst ((rowO as fhs n t).map oD)), .val (.lst (as.map aroD)), .own cur, .val (nD i), .val (oD (if i ∈ fhs then none else some (rowT as t i))), .val (d4 (min4 (i, 0, 0, 0) (candsT (rowT as t) (as.take j) i))), s6, s7, s8, s9], ⟨rfl, _, _, _, _, rfl⟩, ?_, ?_⟩
    · rintro j d ρ h4 ej ⟨rfl, t6, t7, t8, t9, rfl⟩
      obtain ⟨a, ea, rfl⟩ : ∃ a, as[j]? = some a ∧ d = aroD a := by
        rw [List.getElem?_map] at ej
        cases q : as[j]? with
        | none => rw [q] at ej; cases ej
        | some l => rw [q] at ej; exact ⟨l, rfl, (Option.some.inj ej).symm⟩
      have ct := cands_take (R := rowT as t) (x := i) ea
      have oa := o.2 a (List.mem_of_getElem? ea)
      obtain ⟨to, l, nr, cc⟩ := a
      simp only at oa ct
      have ir := ix_row (as := as) t oa.1 oa.2
      generalize candsT (rowT as t) (as.take j) i = cs at ct ⊢
      unfold aroD
      refine .mk rfl ?_
      simp only [List.set_cons_zero, List.set_cons_succ]
      repeat kct_strs
      refine dec2 (fun c => ?_) fun c => ?_
      · have c : to = i := by omega
        rw [if_pos c] at ct
        repeat kct_strs
        refine x_lst ir ?_
        repeat kct_strs
        refine x_tup rfl ?_
        repeat kct_strs
        refine x_lst ir ?_
        repeat kct_strs
        refine x_tup rfl ?_
        repeat kct_strs
        rw [d4_cand]
        refine o_min4 ?_
        repeat kct_strs
        rw [ct, min4_snoc]
        exact ⟨rfl, _, _, _, _, rfl⟩
      · have c : to ≠ i := by omega
        rw [if_neg c, List.append_nil] at ct
        repeat kct_strs
        rw [ct]
        exact ⟨rfl, _, _, _, _, rfl⟩
    · rintro ρ h4 ⟨rfl, t6, t7, t8, t9, rfl⟩
      rw [List.length_map, List.take_length]
      have fin : oD (if i ∈ fhs then none else some (rowT as (t + 1) i)) = if i ∈ fhs then .non else .tup [nD (leastT (rowT as t) as i).1, nD (leastT (rowT as t) as i).2.1, .int (((leastT (rowT as t) as i).2.2.2 : Int) - 1)] := by
        split <;> rfl
      rw [fin] at etk
      change WS _ _ [_, _, _, _, _, .val (d4 (leastT (rowT as t) as i)), _, _, _, _] _ _
      generalize leastT (rowT as t) as i = m at etk ⊢
      unfold d4
      by_cases c : i ∈ fhs
      · rw [if_pos c]
        rw [if_pos c] at etk
        show WS _ _ [_, _, _, _, .val .non, _, _, _, _, _] _ _
        repeat kct_strs
        refine o_app (by omega) ?_
        repeat kct_strs
        rw [etk]
        exact ⟨rfl, _, _, _, _, _, _, _, rfl⟩
      · rw [if_neg c]
        rw [if_neg c] at etk
        show WS _ _ [_, _, _, _, .val (.tup [_, _, _]), _, _, _, _, _] _ _
        repeat kct_strs
        rw [show cutL [nD m.1, nD m.2.1, D.int ((m.2.2.1 : Int) - 1), D.int ((m.2.2.2 : Int) - 1)] none (some 2) = [nD m.1, nD m.2.1] from rfl, show cutL [nD m.1, nD m.2.1, D.int ((m.2.2.1 : Int) - 1), D.int ((m.2.2.2 : Int) - 1)] (some 3) none = [D.int ((m.2.2.2 : Int) - 1)] from rfl]
        refine o_addT (by simp only [List.length_cons, List.length_nil]; omega) ?_
        repeat kct_strs
        refine o_app (by omega) ?_
        repeat kct_strs
        rw [etk]
        exact ⟨rfl, _, _, _, _, _, _, _, rfl⟩
  · rintro ρ h3 ⟨rfl, s3, s4, s5, s6, s7, s8, s9, rfl⟩
    have el : (pairs (rngL 0 ((rowO as fhs n t).map oD).length) ((rowO as fhs n t).map oD)).length = n := by
      unfold pairs
      rw [List.length_zipWith, rngL_len, List.length_map, rowO_len]
      omega
    rw [el, List.take_of_length_le (by rw [rowO_len]; exact Nat.le_refl _)]
    repeat kct_strs
    exact ⟨rfl, rfl⟩
def r0F (fhs : List Nat) : D → D
  | .int i => oD (if i.toNat ∈ fhs then none else some (i.toNat, 0, 0))
  | _ => .non
theorem r0F_nat (fhs : List Nat) (x : Nat) : r0F fhs (nD x) = oD (if x ∈ fhs then none else some (x, 0, 0)) := by
  unfold r0F nD
  simp only [Int.toNat_natCast]
theorem row0_D (fhs : List Nat) (as : List Aro) (n : Nat) : ((List.range n).map nD).map (r0F fhs) = (rowO as fhs n 0).map oD := by
  unfold rowO
  rw [List.map_map, List.map_map]
  refine List.map_congr_left fun x _ => ?_
  show r0F fhs (nD x) = oD (if x ∈ fhs then none else some (x, 0, 0))
  rw [r0F_nat]
theorem rows_e (F : RwFns fns) (f : w.Fit) (fo : fa.Ok w) {L : Nat} (hL : Tld (arosL w (standL w fa g)) fa.hs w.hs.length L) (l1 : L ≤ 1000) :
    callF fns (k + 4) "told_rows" [w.d, fa.d, nD g] h = some (.lst ((rowsO (arosL w (standL w fa g)) fa.hs w.hs.length L).map rowD), h) := by
  refine WC.eq (c_defF F.tr rfl ?_)
  show WS _ rowsFn.body [_, _, _, _, _, _, _] _ _
  unfold rowsFn
  have hlim : lim = 4000000 := rfl
  have hn := f.h1
  have h4 : ∀ l ∈ w.ls, l.str ≤ 4 := fun l m => (f.l2 l m).s2
  have lo := stand_ok (fa := fa) f g
  have ao := ar_ok (fa := fa) (g := g) f
  repeat kct_strs
  refine .mk (standing_e F.st F.ss F.wh fo h4 g) ?_
  repeat kct_strs
  refine .mk (arrows_e F.ar lo) ?_
  repeat kct_strs
  generalize arosL w (standL w fa g) = as at *
  refine w_compm ?_
  repeat kct_strs
  refine x_tup (z := w.hd) rfl ?_
  unfold Wv.hd
  repeat kct_strs
  refine ⟨by rw [List.length_map]; omega, by rw [List.length_map]; omega, r0F fa.hs, fun d m => ?_, ?_⟩
  · rw [rngL0] at m
    obtain ⟨i, im, rfl⟩ := List.mem_map.mp m
    refine .mk rfl ?_
    simp only [wipeR, List.set_cons_zero, List.set_cons_succ]
    repeat kct_strs
    refine x_tup (z := fa.hd) rfl ?_
    unfold Fa.hd
    refine o_inT Dt.int (dt_nats _ |>.dt (by decide)) ?_
    rw [inN]
    repeat kct_strs
    rw [r0F_nat]
    refine dec2 (fun c => ?_) fun c => ?_
    · rw [if_pos c]
      repeat kct_strs
      exact ⟨rfl, rfl⟩
    · rw [if_neg c]
      repeat kct_strs
      exact ⟨rfl, rfl⟩
  rw [rngL0, List.length_map, Int.toNat_natCast, row0_D fa.hs as]
  repeat kct_strs
  refine s_while (fun m ρ h' => h' = h ∧ ∃ j s5, j ≤ L ∧ m + j = L ∧ ρ = [.val w.d, .val fa.d, .val (nD g), .val (.lst (as.map aroD)), .val (rowD (rowO as fa.hs w.hs.length j)), s5, .own ((rowsO as fa.hs w.hs.length j).map rowD)]) (m := L) (by omega) ⟨rfl, 0, _, Nat.zero_le _, rfl, rfl⟩ ?_
  rintro m ρ h3 ⟨rfl, j, s5, hj, hm, rfl⟩
  have body : j < L → 0 < m ∧ WS (callF fns (k + 3)) [.mut .append 6 [(.var 4)], .asg (.nm 4) (.call "next_row" [(.var 4), (.var 3)])] [.val w.d, .val fa.d, .val (nD g), .val (.lst (as.map aroD)), .val (rowD (rowO as fa.hs w.hs.length j)), s5, .own ((rowsO as fa.hs w.hs.length j).map rowD)] h3 (LpE (fun ρ h' => (fun m ρ h' => h' = h3 ∧ ∃ j s5, j ≤ L ∧ m + j = L ∧ ρ = [.val w.d, .val fa.d, .val (nD g), .val (.lst (as.map aroD)), .val (rowD (rowO as fa.hs w.hs.length j)), s5, .own ((rowsO as fa.hs w.hs.length j).map rowD)]) (m - 1) ρ h') (Seq (callF fns (k + 3)) [.reto 6] (RetF fun d1 h1 => d1 = .lst ((rowsO as fa.hs w.hs.length L).map rowD) ∧ h1 = h3))) := fun hlt => by
    refine ⟨by omega, ?_⟩
    repeat kct_strs
    refine o_app (by rw [List.length_map, rowsO_len]; omega) ?_
    repeat kct_strs
    refine .mk (next_e F.nx (by omega) ao j) ?_
    repeat kct_strs
    exact ⟨rfl, j + 1, _, by omega, by omega, by rw [rowsO_succ, List.map_append]; rfl⟩
  repeat kct_strs
  cases j with
  | zero =>
    repeat kct_strs
    exact body (by have := hL.pos; omega)
  | succ j =>
    rw [List.length_map, rowsO_len]
    refine ⟨fun _ => ?_, fun q => by have := of_decide_eq_true q; omega⟩
    · repeat kct_strs
      rw [rowsO_succ, List.map_append]
      refine x_lst ixM1 ?_
      refine o_neD ((dt_row _).dt (by decide)) ((dt_row _).dt (by decide)) ?_
      rw [eqB_row]
      repeat kct_strs
      refine ⟨fun q => ?_, fun q => ?_⟩
      · have ne : rowO as fa.hs w.hs.length (j + 1) ≠ rowO as fa.hs w.hs.length j := by simpa using q
        have := body (by
          rcases Nat.lt_or_ge (j + 1) L with z | z
          · exact z
          · have e : j + 1 = L := by omega
            have := hL.same
            rw [← e] at this
            exact absurd this ne)
        rw [rowsO_succ, List.map_append] at this
        exact this
      · have e : rowO as fa.hs w.hs.length (j + 1) = rowO as fa.hs w.hs.length j := by simpa using q
        have ej : j + 1 = L := by
          rcases Nat.lt_or_ge (j + 1) L with z | z
          · exact absurd e (hL.un (j + 1) (by omega) z)
          · omega
        repeat kct_strs
        rw [← ej, rowsO_succ, List.map_append]
        exact ⟨rfl, rfl⟩
end
end Ev

namespace Ev
local macro_rules | `(tactic| kct_strs) => `(tactic| first | refine w_var rfl ?_ | refine w_int ?_ | refine w_bl ?_ | refine w_str ?_ | refine w_non ?_ | refine w_bor rfl ?_ | refine w_glob ?_ | refine w_bin ?_ | refine w_cmp ?_ | refine w_call ?_ | refine w_pcall ?_ | refine w_dnew ?_ | refine w_dnew1 ?_ | refine w_dget ?_ | refine w_din ?_ | refine w_dget2 ?_ | refine s_dput ?_ | refine w_rev ?_ | refine w_trng ?_ | refine w_lrng ?_ | refine w_cons ?_ | refine w_nil ?_ | refine w_bi ?_ | refine w_idx ?_ | refine w_tup ?_ | refine w_lst ?_ | refine w_isin ?_ | refine w_both ?_ | refine w_and ?_ | refine w_and1 ?_ | refine w_not ?_ | refine w_ife ?_ | refine w_sl ?_ | refine w_sset ?_ | refine w_sm ?_ | refine w_cmp2 ?_ | refine w_neg ?_ | refine w_alloc ?_ | refine w_over ?_ | refine w_rng ?_ | refine w_rng2 ?_ | refine w_enum ?_ | refine w_zip ?_ | refine s_nil ?_ | refine s_ret ?_ | refine s_expr ?_ | refine s_reto rfl ?_ | (refine s_retf ?_) | refine s_par ?_ | (refine s_asg ?_; simp only [List.set_cons_zero, List.set_cons_succ]) | refine s_asgT ?_ | refine s_ife ?_ | refine s_cset ?_ | (refine s_own rfl ?_; simp only [List.set_cons_zero, List.set_cons_succ]) | (refine s_mut rfl ?_; simp only [List.set_cons_zero, List.set_cons_succ]) | (refine s_frz rfl ?_; simp only [List.set_cons_zero, List.set_cons_succ]) | refine s_brk ?_ | refine s_cnt ?_ | refine s_pas ?_ | refine WB.mk ?_ | refine o_add ?_ | refine o_sub ?_ | refine o_lt ?_ | refine o_gt ?_ | refine o_le ?_ | refine o_ge ?_ | refine o_eq ?_ | refine o_ne ?_ | refine o_eqb ?_ | refine o_neb ?_ | refine o_isn ?_ | refine o_notn ?_ | refine o_isnb ?_ | refine o_notnb ?_ | refine o_lenL ?_ | refine o_lenT ?_ | refine o_lenS ?_ | refine o_lenX ?_ | refine o_abs ?_ | refine o_min ?_ | refine o_intb ?_ | refine o_listL ?_ | refine o_listT ?_ | refine o_tupL ?_ | refine o_tupT ?_ | refine ⟨Nat.le_of_ble_eq_true rfl, ?_⟩ | refine knT ?_ | refine knF ?_ | refine knTT ?_ | refine knFF ?_ | refine knTF ?_ | refine knFT ?_ | refine o_ty rfl ?_ | (refine o_bind rfl ?_; simp only [List.set_cons_zero, List.set_cons_succ]) | refine o_cutL ?_ | refine o_cutT ?_ | refine o_optX rfl ?_ | refine o_items rfl ?_ | (refine o_setPar rfl ?_; simp only [List.set_cons_zero, List.set_cons_succ]) | refine o_rev ?_ | refine o_revT ?_ | refine o_neg ?_ | refine o_negB ?_ | refine o_addB ?_ | refine o_subB ?_ | refine ⟨Or.inl rfl, ?_⟩ | refine ⟨Or.inr rfl, ?_⟩ | refine o_over rfl ?_ | refine o_alloc rfl ?_ | refine o_modL rfl ?_ | refine o_fdivL rfl ?_ | refine ⟨_, rfl, ?_⟩)
open PySem L2
def lnextFn : Fn := ⟨3, 13, [.own 3 (.lst []), .fors (.tp [4, 5]) (.enum (.var 2)) [.own 6 (.lst [(.tup [(.var 4), (.int 0), (.neg (.int 1)), (.neg (.int 1))])]), .fors (.nm 7) (.over (.var 1)) [.asg (.tp [9, 10, 11]) (.sl (.idx (.idx (.var 0) (.int 1)) (.var 7)) .non (.int 3)), .ife (.both true [(.cmp .inn (.var 4) (.tup [(.var 9), (.var 10)])), (.cmp .notn (.var 5) .non)]) [.asg (.nm 12) (.bin .sub (.bin .add (.var 9) (.var 10)) (.var 4)), .mut .append 6 [(.tup [(.idx (.idx (.var 2) (.var 12)) (.int 0)), (.bin .add (.idx (.idx (.var 2) (.var 12)) (.int 1)) (.var 11)), (.var 12), (.var 7)])]] []], .asg (.nm 8) (.idx (.bi .sorted [(.bor 6)]) (.int 0)), .mut .append 3 [(.ife (.cmp .isn (.var 5) .non) .non (.tup [(.idx (.var 8) (.int 0)), (.idx (.var 8) (.int 1)), (.idx (.var 8) (.int 3))]))]], .reto 3], true⟩
def lrowsFn : Fn := ⟨3, 8, [.par [3, 4] [false, true] [(.call "_law_stands" [(.var 0), (.var 1), (.var 2)]), (.lst [])], .mut .append 4 [(.comp [5] (.nm 5) (.rng (.bi .len [(.idx (.var 0) (.int 0))])) (.bl true) (.ife (.cmp .inn (.var 5) (.idx (.var 1) (.int 0))) .non (.tup [(.var 5), (.int 0), (.neg (.int 1))])))], .fors (.nm 6) (.over (.idx (.var 0) (.int 0))) [.asg (.nm 7) (.call "_law_next_row" [(.var 0), (.var 3), (.idx (.bor 4) (.neg (.int 1)))]), .ife (.cmp .ne (.var 7) (.idx (.bor 4) (.neg (.int 1)))) [.mut .append 4 [(.var 7)]] []], .reto 4], true⟩
structure LrFns (fns : List (String × Fn)) : Prop where
  st : fns.lookup "_law_stands" = some lstandsFn
  wh : fns.lookup "_law_whole" = some wholeFn
  nx : fns.lookup "_law_next_row" = some lnextFn
  tr : fns.lookup "_law_rows" = some lrowsFn
theorem arosL_take {w : Wv} {ls : List Nat} {i l : Nat} {ln : Ln} (e : ls[i]? = some l) (e2 : w.ls[l]? = some ln) : arosL w (ls.take (i + 1)) = arosL w (ls.take i) ++ [(ln.one, l, ln.other, ln.cost), (ln.other, l, ln.one, ln.cost)] := by
  unfold arosL
  rw [take_fmA e, aros1_at e2]
theorem cands_app (R : Nat → T3) (as bs : List Aro) (x : Nat) : candsT R (as ++ bs) x = candsT R as x ++ candsT R bs x := by
  unfold candsT
  rw [List.filter_append, List.map_append]
section
variable {fns : List (String × Fn)} {k : Nat} {h : Hs} {w : Wv} {fa : Fa} {g : Nat}
theorem lnext_e (hf : fns.lookup "_law_next_row" = some lnextFn) (f : w.Fit) {ls fhs : List Nat} (lo : LsOk w ls) (o : ArOk (arosL w ls) fhs w.hs.length) (t : Nat) :
    callF fns (k + 1) "_law_next_row" [w.d, .lst (ls.map nD), rowD (rowO (arosL w ls) fhs w.hs.length t)] h = some (rowD (rowO (arosL w ls) fhs w.hs.length (t + 1)), h) := by
  refine WC.eq (c_defF hf rfl ?_)
  show WS _ lnextFn.body [_, _, _, _, _, _, _, _, _, _, _, _, _] _ _
  unfold lnextFn rowD
  have hlim : lim = 4000000 := rfl
  have hn := f.h1
  repeat kct_strs
  refine s_for ?_
  repeat kct_strs
  refine ⟨fun i ρ h' => h' = h ∧ ∃ s4 s5 s6 s7 s8 s9 s10 s11 s12, ρ = [.val w.d, .val (.lst (ls.map nD)), .val (.lst ((rowO (arosL w ls) fhs w.hs.length t).map oD)), .own (((rowO (arosL w ls) fhs w.hs.length (t + 1)).take i).map oD), s4, s5, s6, s7, s8, s9, s10, s11, s12], ⟨rfl, _, _, _, _, _, _, _, _, _, rfl⟩, ?_, ?_⟩
  · rintro i d ρ h3 ei ⟨rfl, s4, s5, s6, s7, s8, s9, s10, s11, s12, rfl⟩
    obtain ⟨hi, rfl⟩ := enum_get ei
    have hi2 : i < w.hs.length := by rw [List.length_map, rowO_len] at hi; exact hi
    have e1 : ((rowO (arosL w ls) fhs w.hs.length t).map oD)[i] = oD (if i ∈ fhs then none else some (rowT (arosL w ls) t i)) := by
      rw [List.getElem_map]
      have e := rowO_at (arosL w ls) fhs t hi2
      rw [List.getElem?_eq_getElem (by rw [rowO_len]; exact hi2)] at e
      rw [Option.some.inj e]
    rw [e1]
    have etk : ((rowO (arosL w ls) fhs w.hs.length (t + 1)).take (i + 1)).map oD = ((rowO (arosL w ls) fhs w.hs.length (t + 1)).take i).map oD ++ [oD (if i ∈ fhs then none else some (rowT (arosL w ls) (t + 1) i))] := by
      rw [List.take_succ, rowO_at (arosL w ls) fhs (t + 1) hi2, List.map_append]; rfl
    have tl : (((rowO (arosL w ls) fhs w.hs.length (t + 1)).take i).map oD).length ≤ 1000 := by rw [List.length_map, List.length_take]; omega
    generalize ((rowO (arosL w ls) fhs w.hs.length (t + 1)).take i).map oD = cur at etk tl ⊢
    refine .mk rfl ?_
    simp only [List.set_cons_zero, List.set_cons_succ]
    repeat kct_strs
    rw [d4_own]
    refine s_for ?_
    repeat kct_strs
    refine ⟨fun j ρ h' => h' = h3 ∧ ∃ s7 s8 s9 s10 s11 s12, ρ = [.val w.d, .val (.lst (ls.map nD)), .val (.lst ((rowO (arosL w ls) fhs w.hs.length t).map oD)), .own cur, .val (nD i), .val (oD (if i ∈ fhs then none else some (rowT (arosL w ls) t i))), .own (((i, 0, 0, 0) :: if i ∈ fhs then [] else candsT (rowT (arosL w ls) t) (arosL w (ls.take j)) i).map d4), s7, s8, s9, s10, s11, s12], ⟨rfl, _, _, _, _, _, _, by
      have : (if i ∈ fhs then [] else candsT (rowT (arosL w ls) t) (arosL w (ls.take 0)) i) = [] := by split <;> rfl
      rw [this]; rfl⟩, ?_, ?_⟩
    · rintro j d ρ h4 ej ⟨rfl, t7, t8, t9, t10, t11, t12, rfl⟩
      obtain ⟨l, el, rfl⟩ := nat_at ej
      have hl := lo.2 l (List.mem_of_getElem? el)
      have eln : w.ls[l]? = some w.ls[l] := List.getElem?_eq_getElem hl
      generalize w.ls[l] = ln at eln
      have lk := f.l2 ln (List.mem_of_getElem? eln)
      have lka := lk.a
      have lkb := lk.b
      have ne : ln.one ≠ ln.other := by omega
      have am1 : (ln.one, l, ln.other, ln.cost) ∈ arosL w ls := List.mem_flatMap.mpr ⟨l, List.mem_of_getElem? el, by rw [aros1_at eln]; exact List.mem_cons_self⟩
      have am2 : (ln.other, l, ln.one, ln.cost) ∈ arosL w ls := List.mem_flatMap.mpr ⟨l, List.mem_of_getElem? el, by rw [aros1_at eln]; exact List.mem_cons_of_mem _ List.mem_cons_self⟩
      have o1 := o.2 _ am1
      have o2 := o.2 _ am2
      simp only at o1 o2
      have r1 := ix_row (as := arosL w ls) t o1.1 o1.2
      have r2 := ix_row (as := arosL w ls) t o2.1 o2.2
      have ct : candsT (rowT (arosL w ls) t) (arosL w (ls.take (j + 1))) i = candsT (rowT (arosL w ls) t) (arosL w (ls.take j)) i ++ (if i = ln.one then [candT (rowT (arosL w ls) t) (ln.one, l, ln.other, ln.cost)] else if i = ln.other then [candT (rowT (arosL w ls) t) (ln.other, l, ln.one, ln.cost)] else []) := by
        rw [arosL_take el eln, cands_app]
        congr 1
        unfold candsT
        simp only [List.filter_cons, List.filter_nil]
        by_cases c1 : i = ln.one
        · subst c1
          rw [if_pos (by simp), if_neg (by simpa using fun z => ne z.symm), if_pos rfl]; rfl
        · by_cases c2 : i = ln.other
          · subst c2
            rw [if_neg (by simpa using ne), if_pos (by simp), if_neg c1, if_pos rfl]; rfl
          · rw [if_neg (by simpa using fun z => c1 z.symm), if_neg (by simpa using fun z => c2 z.symm), if_neg c1, if_neg c2]; rfl
      have cl : (candsT (rowT (arosL w ls) t) (arosL w (ls.take j)) i).length ≤ 1000 := by
        unfold candsT
        rw [List.length_map]
        have h1 := List.length_filter_le (fun a : Aro => decide (a.1 = i)) (arosL w (ls.take j))
        have h2 := aros_len w (ls.take j)
        have h3 := lo.1
        rw [List.length_take] at h2
        omega
      generalize candsT (rowT (arosL w ls) t) (arosL w (ls.take j)) i = cs at ct cl ⊢
      refine .mk rfl ?_
      simp only [List.set_cons_zero, List.set_cons_succ]
      repeat kct_strs
      refine x_tup (z := w.ld) rfl ?_
      unfold Wv.ld
      repeat kct_strs
      refine x_tup (z := ln.d) (ld_at eln) ?_
      unfold Ln.d
      repeat kct_strs
      refine o_inT Dt.int ((DtN.tup (n := 1) (.cons .int (.cons .int .all))).dt (by decide)) ?_
      have eIn : ([nD ln.one, nD ln.other].any fun z => eqB z (nD i)) = decide (i = ln.one ∨ i = ln.other) := by
        simp only [List.any_cons, List.any_nil, eqB_nat, Bool.or_false]
        rw [Bool.eq_iff_iff]
        simp only [Bool.or_eq_true, decide_eq_true_eq]
        constructor
        · rintro (e | e)
          · exact .inl e.symm
          · exact .inr e.symm
        · rintro (e | e)
          · exact .inl e.symm
          · exact .inr e.symm
      rw [eIn]
      repeat kct_strs
      refine dec2a (fun q => ?_) fun q => ?_
      · have hw : i ∉ fhs := by
          rcases q with q | q
          · rw [q]; exact o2.2
          · rw [q]; exact o1.2
        rw [if_neg hw, if_neg hw]
        repeat kct_strs
        rcases q with q | q
        · have ef : (ln.one : Int) + (ln.other : Int) - (i : Int) = ((ln.other : Nat) : Int) := by omega
          have fin : ((i, 0, 0, 0) :: candsT (rowT (arosL w ls) t) (arosL w (ls.take (j + 1))) i).map d4 = ((i, 0, 0, 0) :: cs).map d4 ++ [d4 (candT (rowT (arosL w ls) t) (ln.one, l, ln.other, ln.cost))] := by
            rw [ct, if_pos q]
            simp
          rw [ef]
          refine x_lst r1 ?_
          repeat kct_strs
          refine x_tup rfl ?_
          repeat kct_strs
          refine x_lst r1 ?_
          repeat kct_strs
          refine x_tup rfl ?_
          repeat kct_strs
          refine o_app (by rw [List.length_map, List.length_cons]; omega) ?_
          repeat kct_strs
          have e5 := d4_cand (rowT (arosL w ls) t ln.other).1 (rowT (arosL w ls) t ln.other).2.1 ln.cost ln.other l
          rw [if_neg hw, fin]
          unfold candT
          simp only
          rw [← e5]
          exact ⟨rfl, _, _, _, _, _, _, rfl⟩
        · have ef : (ln.one : Int) + (ln.other : Int) - (i : Int) = ((ln.one : Nat) : Int) := by omega
          have fin : ((i, 0, 0, 0) :: candsT (rowT (arosL w ls) t) (arosL w (ls.take (j + 1))) i).map d4 = ((i, 0, 0, 0) :: cs).map d4 ++ [d4 (candT (rowT (arosL w ls) t) (ln.other, l, ln.one, ln.cost))] := by
            rw [ct, if_neg (fun z => ne (z.symm.trans q)), if_pos q]
            simp
          rw [ef]
          refine x_lst r2 ?_
          repeat kct_strs
          refine x_tup rfl ?_
          repeat kct_strs
          refine x_lst r2 ?_
          repeat kct_strs
          refine x_tup rfl ?_
          repeat kct_strs
          refine o_app (by rw [List.length_map, List.length_cons]; omega) ?_
          repeat kct_strs
          have e5 := d4_cand (rowT (arosL w ls) t ln.one).1 (rowT (arosL w ls) t ln.one).2.1 ln.cost ln.one l
          rw [if_neg hw, fin]
          unfold candT
          simp only
          rw [← e5]
          exact ⟨rfl, _, _, _, _, _, _, rfl⟩
      · repeat kct_strs
        refine ⟨fun z => absurd (of_decide_eq_true z) q, fun _ => ?_⟩
        repeat kct_strs
        rw [ct, if_neg (fun z => q (.inl z)), if_neg (fun z => q (.inr z)), List.append_nil]
        exact ⟨rfl, _, _, _, _, _, _, rfl⟩
    · rintro ρ h4 ⟨rfl, t7, t8, t9, t10, t11, t12, rfl⟩
      rw [List.length_map, List.take_length]
      have fin : oD (if i ∈ fhs then none else some (rowT (arosL w ls) (t + 1) i)) = if i ∈ fhs then .non else .tup [nD (leastT (rowT (arosL w ls) t) (arosL w ls) i).1, nD (leastT (rowT (arosL w ls) t) (arosL w ls) i).2.1, .int (((leastT (rowT (arosL w ls) t) (arosL w ls) i).2.2.2 : Int) - 1)] := by
        split <;> rfl
      rw [fin] at etk
      repeat kct_strs
      refine o_sort4 fun tl => ?_
      repeat kct_strs
      refine x_lst ix0 ?_
      repeat kct_strs
      by_cases c : i ∈ fhs
      · rw [if_pos c] at etk
        rw [if_pos c, if_pos c]
        refine ⟨fun _ => ?_, fun z => by simp [oD, isNonD] at z⟩
        repeat kct_strs
        refine o_app (by omega) ?_
        repeat kct_strs
        rw [etk]
        exact ⟨rfl, _, _, _, _, _, _, _, _, _, rfl⟩
      · rw [if_neg c] at etk
        rw [if_neg c, if_neg c]
        refine ⟨fun z => by simp [oD, isNonD, d3] at z, fun _ => ?_⟩
        change WE _ _ [_, _, _, _, _, _, _, _, .val (d4 (leastT (rowT (arosL w ls) t) (arosL w ls) i)), _, _, _, _] _ _
        generalize leastT (rowT (arosL w ls) t) (arosL w ls) i = m at etk ⊢
        unfold d4
        repeat kct_strs
        refine x_tup rfl ?_
        repeat kct_strs
        refine x_tup rfl ?_
        repeat kct_strs
        refine x_tup rfl ?_
        repeat kct_strs
        refine o_app (by omega) ?_
        repeat kct_strs
        rw [etk]
        exact ⟨rfl, _, _, _, _, _, _, _, _, _, rfl⟩
  · rintro ρ h3 ⟨rfl, s4, s5, s6, s7, s8, s9, s10, s11, s12, rfl⟩
    have el : (pairs (rngL 0 ((rowO (arosL w ls) fhs w.hs.length t).map oD).length) ((rowO (arosL w ls) fhs w.hs.length t).map oD)).length = w.hs.length := by
      unfold pairs
      rw [List.length_zipWith, rngL_len, List.length_map, rowO_len]
      omega
    rw [el, List.take_of_length_le (by rw [rowO_len]; exact Nat.le_refl _)]
    repeat kct_strs
    exact ⟨rfl, rfl⟩
theorem lrows_e (F : LrFns fns) (f : w.Fit) (fo : fa.Ok w) {L : Nat} (hL : Tld (arosL w (standL w fa g)) fa.hs w.hs.length L) (l1 : L ≤ w.hs.length) :
    callF fns (k + 3) "_law_rows" [w.d, fa.d, nD g] h = some (.lst ((rowsO (arosL w (standL w fa g)) fa.hs w.hs.length L).map rowD), h) := by
  refine WC.eq (c_defF F.tr rfl ?_)
  show WS _ lrowsFn.body [_, _, _, _, _, _, _, _] _ _
  unfold lrowsFn
  have hlim : lim = 4000000 := rfl
  have hn := f.h1
  have h4 : ∀ l ∈ w.ls, l.str ≤ 4 := fun l m => (f.l2 l m).s2
  have lo := stand_ok (fa := fa) f g
  have ao := ar_ok (fa := fa) (g := g) f
  have fl := f.l1
  repeat kct_strs
  refine .mk (lstands_e F.st F.wh fo h4 (by omega) g) ?_
  repeat kct_strs
  refine w_compm ?_
  repeat kct_strs
  refine x_tup (z := w.hd) rfl ?_
  unfold Wv.hd
  repeat kct_strs
  refine ⟨by rw [List.length_map]; omega, by rw [List.length_map]; omega, r0F fa.hs, fun d m => ?_, ?_⟩
  · rw [rngL0] at m
    obtain ⟨i, im, rfl⟩ := List.mem_map.mp m
    refine .mk rfl ?_
    simp only [wipeR, List.set_cons_zero, List.set_cons_succ]
    repeat kct_strs
    refine x_tup (z := fa.hd) rfl ?_
    unfold Fa.hd
    refine o_inT Dt.int (dt_nats _ |>.dt (by decide)) ?_
    rw [inN]
    repeat kct_strs
    rw [r0F_nat]
    refine dec2 (fun c => ?_) fun c => ?_
    · rw [if_pos c]
      repeat kct_strs
      exact ⟨rfl, rfl⟩
    · rw [if_neg c]
      repeat kct_strs
      exact ⟨rfl, rfl⟩
  rw [rngL0, List.length_map, Int.toNat_natCast, row0_D fa.hs (arosL w (standL w fa g))]
  repeat kct_strs
  refine o_app (by simp) ?_
  repeat kct_strs
  refine s_for ?_
  repeat kct_strs
  refine x_tup (z := w.hd) rfl ?_
  unfold Wv.hd
  repeat kct_strs
  refine ⟨fun i ρ h' => h' = h ∧ ∃ s5 s6 s7, ρ = [.val w.d, .val fa.d, .val (nD g), .val (.lst ((standL w fa g).map nD)), .own ((rowsO (arosL w (standL w fa g)) fa.hs w.hs.length (min (i + 1) L)).map rowD), s5, s6, s7], ⟨rfl, _, _, _, by
    have : min (0 + 1) L = 0 + 1 := by have := hL.pos; omega
    rw [this, rowsO_succ]; rfl⟩, ?_, ?_⟩
  · rintro i d ρ h3 ei ⟨rfl, s5, s6, s7, rfl⟩
    have hp := hL.pos
    have hm : ∃ j, min (i + 1) L = j + 1 := ⟨min (i + 1) L - 1, by omega⟩
    obtain ⟨j, ej⟩ := hm
    have jl : j + 1 ≤ L := by omega
    refine .mk rfl ?_
    simp only [List.set_cons_zero, List.set_cons_succ]
    rw [ej, rowsO_succ, List.map_append]
    repeat kct_strs
    refine x_lst ixM1 ?_
    repeat kct_strs
    refine .mk (lnext_e F.nx f lo ao j) ?_
    repeat kct_strs
    refine x_lst ixM1 ?_
    repeat kct_strs
    refine o_neD ((dt_row _).dt (by decide)) ((dt_row _).dt (by decide)) ?_
    rw [eqB_row]
    repeat kct_strs
    refine dec2n (fun c => ?_) fun c => ?_
    · have lt : j + 1 < L := by
        rcases Nat.lt_or_ge (j + 1) L with z | z
        · exact z
        · have e : j + 1 = L := by omega
          have := hL.same
          rw [← e] at this
          exact absurd this c
      have e2 : min (i + 1 + 1) L = j + 1 + 1 := by omega
      repeat kct_strs
      refine o_app (by rw [List.length_append, List.length_map, rowsO_len]; simp; omega) ?_
      repeat kct_strs
      rw [e2, rowsO_succ, rowsO_succ, List.map_append, List.map_append]
      exact ⟨rfl, _, _, _, rfl⟩
    · have e1 : j + 1 = L := by
        rcases Nat.lt_or_ge (j + 1) L with z | z
        · exact absurd c (hL.un (j + 1) (by omega) z)
        · omega
      have e2 : min (i + 1 + 1) L = j + 1 := by omega
      repeat kct_strs
      rw [e2, rowsO_succ, List.map_append]
      exact ⟨rfl, _, _, _, rfl⟩
  · rintro ρ h3 ⟨rfl, s5, s6, s7, rfl⟩
    rw [List.length_map, show min (w.hs.length + 1) L = L by omega]
    repeat kct_strs
    exact ⟨rfl, rfl⟩
end
end Ev

namespace Ev
local macro_rules | `(tactic| kct_strs) => `(tactic| first | refine w_var rfl ?_ | refine w_int ?_ | refine w_bl ?_ | refine w_str ?_ | refine w_non ?_ | refine w_bor rfl ?_ | refine w_glob ?_ | refine w_bin ?_ | refine w_cmp ?_ | refine w_call ?_ | refine w_pcall ?_ | refine w_dnew ?_ | refine w_dnew1 ?_ | refine w_dget ?_ | refine w_din ?_ | refine w_dget2 ?_ | refine s_dput ?_ | refine w_rev ?_ | refine w_trng ?_ | refine w_lrng ?_ | refine w_cons ?_ | refine w_nil ?_ | refine w_bi ?_ | refine w_idx ?_ | refine w_tup ?_ | refine w_lst ?_ | refine w_isin ?_ | refine w_both ?_ | refine w_and ?_ | refine w_and1 ?_ | refine w_not ?_ | refine w_ife ?_ | refine w_sl ?_ | refine w_sset ?_ | refine w_sm ?_ | refine w_cmp2 ?_ | refine w_neg ?_ | refine w_alloc ?_ | refine w_over ?_ | refine w_rng ?_ | refine w_rng2 ?_ | refine w_enum ?_ | refine w_zip ?_ | refine s_nil ?_ | refine s_ret ?_ | refine s_expr ?_ | refine s_reto rfl ?_ | (refine s_retf ?_) | refine s_par ?_ | (refine s_asg ?_; simp only [List.set_cons_zero, List.set_cons_succ]) | refine s_asgT ?_ | refine s_ife ?_ | refine s_cset ?_ | (refine s_own rfl ?_; simp only [List.set_cons_zero, List.set_cons_succ]) | (refine s_mut rfl ?_; simp only [List.set_cons_zero, List.set_cons_succ]) | (refine s_frz rfl ?_; simp only [List.set_cons_zero, List.set_cons_succ]) | refine s_brk ?_ | refine s_cnt ?_ | refine s_pas ?_ | refine WB.mk ?_ | refine o_add ?_ | refine o_sub ?_ | refine o_lt ?_ | refine o_gt ?_ | refine o_le ?_ | refine o_ge ?_ | refine o_eq ?_ | refine o_ne ?_ | refine o_eqb ?_ | refine o_neb ?_ | refine o_isn ?_ | refine o_notn ?_ | refine o_isnb ?_ | refine o_notnb ?_ | refine o_lenL ?_ | refine o_lenT ?_ | refine o_lenS ?_ | refine o_lenX ?_ | refine o_abs ?_ | refine o_min ?_ | refine o_intb ?_ | refine o_listL ?_ | refine o_listT ?_ | refine o_tupL ?_ | refine o_tupT ?_ | refine ⟨Nat.le_of_ble_eq_true rfl, ?_⟩ | refine knT ?_ | refine knF ?_ | refine knTT ?_ | refine knFF ?_ | refine knTF ?_ | refine knFT ?_ | refine o_ty rfl ?_ | (refine o_bind rfl ?_; simp only [List.set_cons_zero, List.set_cons_succ]) | refine o_cutL ?_ | refine o_cutT ?_ | refine o_optX rfl ?_ | refine o_items rfl ?_ | (refine o_setPar rfl ?_; simp only [List.set_cons_zero, List.set_cons_succ]) | refine o_rev ?_ | refine o_revT ?_ | refine o_neg ?_ | refine o_negB ?_ | refine o_addB ?_ | refine o_subB ?_ | refine ⟨Or.inl rfl, ?_⟩ | refine ⟨Or.inr rfl, ?_⟩ | refine o_over rfl ?_ | refine o_alloc rfl ?_ | refine o_modL rfl ?_ | refine o_fdivL rfl ?_ | refine ⟨_, rfl, ?_⟩)
open PySem L2
def tiedFn : Fn := ⟨1, 9, [.asg (.tp [1, 2]) (.tup [(.bin .add (.int 3) (.call "_law_take" [(.var 0), (.int 7)])), (.call "_law_take" [(.var 0), (.int 8)])]), .own 3 (.lst []), .fors (.nm 4) (.rng (.bin .add (.var 1) (.call "_law_take" [(.var 0), (.int 12)]))) [.asg (.nm 5) (.call "_law_take" [(.var 0), (.bin .sub (.var 1) (.int 1))]), .asg (.nm 6) (.bin .add (.bin .add (.var 5) (.int 1)) (.call "_law_take" [(.var 0), (.bi .min2 [(.int 3), (.bin .sub (.bin .sub (.var 1) (.int 1)) (.var 5))])])), .mut .append 3 [(.tup [(.var 5), (.var 6), (.bin .add (.int 1) (.call "_law_take" [(.var 0), (.int 2)])), (.tup [(.var 2)]), (.bin .add (.int 1) (.call "_law_take" [(.var 0), (.int 2)]))])]], .asg (.nm 7) (.bi .tuple [(.comp [8] (.nm 8) (.rng (.var 1)) (.bl true) (.bin .mul (.tup [(.var 2)]) (.call "_law_take" [(.var 0), (.int 3)])))]), .ret (.tup [(.tup [(.var 7), (.bi .tuple [(.sl (.bor 3) .non (.int 20))])]), (.var 2)])], false⟩
section
variable {fns : List (String × Fn)} {k : Nat} {h0 h : Hs} {n T : Nat} {r : List D} {P : D → Hs → Prop}
theorem rep_nat (d g : Nat) : (List.replicate ((d : Int).toNat) [nD g]).flatten = (List.replicate d g).map nD := by
  rw [Int.toNat_natCast]
  induction d with
  | zero => rfl
  | succ d ih => rw [List.replicate_succ, List.flatten_cons, ih, List.replicate_succ]; rfl
theorem tied_w (ht : fns.lookup "_law_take" = some takeFn) (hf : fns.lookup "_law_tied" = some tiedFn) (b : Bx h0 n r T h) (hT : T < 2 ^ 30)
    (q : ∀ (w : Wv) (g : Nat) h', w.Fit → g < 8 → Bx h0 n r (T + 200) h' → P (.tup [w.d, nD g]) h') : WC (callF fns (k + 2)) "_law_tied" [.ref n] h P := by
  refine c_def hf rfl ?_
  show WS _ tiedFn.body [_, _, _, _, _, _, _, _, _] _ _
  unfold tiedFn
  have hlim : lim = 4000000 := rfl
  repeat kct_strs
  refine take_w ht b (by decide) (by decide) (by omega) fun mn h1 hmn b1 => ?_
  repeat kct_strs
  refine take_w ht b1 (by decide) (by decide) (by omega) fun g h2 hg b2 => ?_
  repeat kct_strs
  have em : D.int (3 + (mn : Int)) = nD (3 + mn) := by
    unfold nD
    rw [show (((3 + mn : Nat) : Int)) = 3 + (mn : Int) by omega]
  rw [em]
  have hm : 3 + mn ≤ 9 := by omega
  have hm3 : 3 ≤ 3 + mn := by omega
  generalize 3 + mn = many at hm hm3 ⊢
  have hg : g < 8 := by omega
  refine s_for ?_
  repeat kct_strs
  refine take_w ht b2 (by decide) (by decide) (by omega) fun ln h3 hln b3 => ?_
  repeat kct_strs
  refine ⟨by omega, by omega, fun i ρ h' => ∃ (ls : List Ln) (s4 s5 s6 : Sl), ρ = [.val (.ref n), .val (nD many), .val (nD g), .own (ls.map Ln.d), s4, s5, s6, .un, .un] ∧ ls.length = i ∧ (∀ l ∈ ls, l.Ok many) ∧ Bx h0 n r (T + 3 + 4 * i) h', ⟨[], _, _, _, rfl, rfl, (fun _ m => nomatch m), b3⟩, ?_, ?_⟩
  · rintro i d ρ h5 ei ⟨ls, s4, s5, s6, rfl, hl, lo, b5⟩
    have hi := (rng_at ei).1
    refine .mk rfl ?_
    simp only [List.set_cons_zero, List.set_cons_succ]
    repeat kct_strs
    refine take_w ht b5 (by omega) (by omega) (by omega) fun one h6 hone b6 => ?_
    repeat kct_strs
    refine take_w ht b6 (by split <;> omega) (by split <;> omega) (by omega) fun oth h7 hoth b7 => ?_
    repeat kct_strs
    refine take_w ht b7 (by decide) (by decide) (by omega) fun cost h8 hcost b8 => ?_
    repeat kct_strs
    refine take_w ht b8 (by decide) (by decide) (by omega) fun str h9 hstr b9 => ?_
    repeat kct_strs
    refine o_app (by rw [List.length_map]; omega) ?_
    repeat kct_strs
    have hoth2 : (oth : Int) < (many : Int) - 1 - (one : Int) := by split at hoth <;> omega
    have e : (ls ++ [(⟨one, one + 1 + oth, 1 + cost, [g], 1 + str⟩ : Ln)]).map Ln.d = ls.map Ln.d ++ [D.tup [D.int ↑one, D.int (↑one + 1 + ↑oth), D.int (1 + ↑cost), D.tup [nD g], D.int (1 + ↑str)]] := by
      rw [List.map_append]
      simp only [List.map_cons, List.map_nil, Ln.d, nD, Int.natCast_add, Int.natCast_one]
    refine ⟨ls ++ [⟨one, one + 1 + oth, 1 + cost, [g], 1 + str⟩], .val d, .val (.int one), .val (.int (one + 1 + oth)), by rw [e], by simp [hl], fun l m => ?_, b9.mono (by omega)⟩
    · rcases List.mem_append.mp m with m | m
      · exact lo l m
      · rw [List.mem_singleton.mp m]
        exact ⟨by show one < one + 1 + oth; omega, by show one + 1 + oth < many; omega, by show 1 ≤ 1 + cost; omega, by show 1 + cost ≤ 99; omega, by simp, List.pairwise_singleton _ _, fun x xm => by rw [List.mem_singleton.mp xm]; exact hg, by show 1 ≤ 1 + str; omega, by show 1 + str ≤ 4; omega⟩
  · rintro ρ h5 ⟨ls, s4, s5, s6, rfl, hl, lo, b5⟩
    rw [rngL_len] at hl b5
    have hl2 : ls.length ≤ 20 := by omega
    repeat kct_strs
    refine w_compD (h0 := h0) (n := n) (r := r) (T := T + 3 + 4 * 20) 1 (fun d => ∃ ds : List Nat, d = .tup (ds.map nD) ∧ (ds.length ≤ 6 ∧ ∀ x ∈ ds, x < 8)) ?_
    repeat kct_strs
    refine ⟨by omega, by omega, b5.mono (by omega), fun i d h7 ei b7 => ?_, fun ys h7 zl zg b7 => ?_⟩
    · have hi := (rng_at ei).1
      refine .mk rfl ?_
      simp only [wipeR, List.set_cons_zero, List.set_cons_succ]
      repeat kct_strs
      refine take_w ht b7 (by decide) (by decide) (by omega) fun d h8 hd b8 => ?_
      repeat kct_strs
      refine o_mulT ⟨by simp, by omega, by omega⟩ ?_
      rw [rep_nat]
      exact ⟨⟨List.replicate d g, rfl, by rw [List.length_replicate]; omega, fun x xm => by rw [(List.mem_replicate.mp xm).2]; exact hg⟩, b8⟩
    · obtain ⟨hs, rfl, ho⟩ := lift_map zg
      rw [rngL_len] at zl b7
      rw [List.length_map] at zl
      repeat kct_strs
      rw [show (20 : Int) = ((20 : Nat) : Int) from rfl, cut_to, List.take_of_length_le (by rw [List.length_map]; exact hl2)]
      repeat kct_strs
      have ml : hs.length = many := by omega
      rw [← ml] at lo
      show P _ _
      exact q ⟨hs, ls⟩ g h7 ⟨by show 1 ≤ hs.length; omega, by show hs.length ≤ 20; omega, ho, hl2, lo⟩ hg (b7.mono (by omega))
end
end Ev

namespace Ev
local macro_rules | `(tactic| kct_strs) => `(tactic| first | refine w_var rfl ?_ | refine w_int ?_ | refine w_bl ?_ | refine w_str ?_ | refine w_non ?_ | refine w_bor rfl ?_ | refine w_glob ?_ | refine w_bin ?_ | refine w_cmp ?_ | refine w_call ?_ | refine w_pcall ?_ | refine w_dnew ?_ | refine w_dnew1 ?_ | refine w_dget ?_ | refine w_din ?_ | refine w_dget2 ?_ | refine s_dput ?_ | refine w_rev ?_ | refine w_trng ?_ | refine w_lrng ?_ | refine w_cons ?_ | refine w_nil ?_ | refine w_bi ?_ | refine w_idx ?_ | refine w_tup ?_ | refine w_lst ?_ | refine w_isin ?_ | refine w_both ?_ | refine w_and ?_ | refine w_and1 ?_ | refine w_not ?_ | refine w_ife ?_ | refine w_sl ?_ | refine w_sset ?_ | refine w_sm ?_ | refine w_cmp2 ?_ | refine w_neg ?_ | refine w_alloc ?_ | refine w_over ?_ | refine w_rng ?_ | refine w_rng2 ?_ | refine w_enum ?_ | refine w_zip ?_ | refine s_nil ?_ | refine s_ret ?_ | refine s_expr ?_ | refine s_reto rfl ?_ | (refine s_retf ?_) | refine s_par ?_ | (refine s_asg ?_; simp only [List.set_cons_zero, List.set_cons_succ]) | refine s_asgT ?_ | refine s_ife ?_ | refine s_cset ?_ | (refine s_own rfl ?_; simp only [List.set_cons_zero, List.set_cons_succ]) | (refine s_mut rfl ?_; simp only [List.set_cons_zero, List.set_cons_succ]) | (refine s_frz rfl ?_; simp only [List.set_cons_zero, List.set_cons_succ]) | refine s_brk ?_ | refine s_cnt ?_ | refine s_pas ?_ | refine WB.mk ?_ | refine o_add ?_ | refine o_sub ?_ | refine o_lt ?_ | refine o_gt ?_ | refine o_le ?_ | refine o_ge ?_ | refine o_eq ?_ | refine o_ne ?_ | refine o_eqb ?_ | refine o_neb ?_ | refine o_isn ?_ | refine o_notn ?_ | refine o_isnb ?_ | refine o_notnb ?_ | refine o_lenL ?_ | refine o_lenT ?_ | refine o_lenS ?_ | refine o_lenX ?_ | refine o_abs ?_ | refine o_min ?_ | refine o_intb ?_ | refine o_listL ?_ | refine o_listT ?_ | refine o_tupL ?_ | refine o_tupT ?_ | refine ⟨Nat.le_of_ble_eq_true rfl, ?_⟩ | refine knT ?_ | refine knF ?_ | refine knTT ?_ | refine knFF ?_ | refine knTF ?_ | refine knFT ?_ | refine o_ty rfl ?_ | (refine o_bind rfl ?_; simp only [List.set_cons_zero, List.set_cons_succ]) | refine o_cutL ?_ | refine o_cutT ?_ | refine o_optX rfl ?_ | refine o_items rfl ?_ | (refine o_setPar rfl ?_; simp only [List.set_cons_zero, List.set_cons_succ]) | refine o_rev ?_ | refine o_revT ?_ | refine o_neg ?_ | refine o_negB ?_ | refine o_addB ?_ | refine o_subB ?_ | refine ⟨Or.inl rfl, ?_⟩ | refine ⟨Or.inr rfl, ?_⟩ | refine o_over rfl ?_ | refine o_alloc rfl ?_ | refine o_modL rfl ?_ | refine o_fdivL rfl ?_ | refine ⟨_, rfl, ?_⟩)
open PySem L2
def maxN (x : Nat) (xs : List Nat) : Nat := xs.foldl (fun a y => if a < y then y else a) x
theorem maxN_mem : ∀ {xs : List Nat} {x : Nat}, maxN x xs ∈ x :: xs
  | [], x => List.mem_cons_self
  | y :: ys, x => by
    show maxN (if x < y then y else x) ys ∈ x :: y :: ys
    have := maxN_mem (xs := ys) (x := if x < y then y else x)
    rcases List.mem_cons.mp this with e | m
    · rw [e]
      split
      · exact List.mem_cons_of_mem _ List.mem_cons_self
      · exact List.mem_cons_self
    · exact List.mem_cons_of_mem _ (List.mem_cons_of_mem _ m)
theorem maxN_le : ∀ {xs : List Nat} {x : Nat}, ∀ y ∈ x :: xs, y ≤ maxN x xs
  | [], x, y, m => by
    rcases List.mem_cons.mp m with e | m
    · subst e; exact Nat.le_refl _
    · nomatch m
  | z :: zs, x, y, m => by
    show y ≤ maxN (if x < z then z else x) zs
    have ih := maxN_le (xs := zs) (x := if x < z then z else x)
    have h0 := ih _ List.mem_cons_self
    rcases List.mem_cons.mp m with e | m
    · subst e
      split at h0 <;> rename_i q
      · rw [if_pos q]; omega
      · rw [if_neg q]; omega
    · rcases List.mem_cons.mp m with e | m
      · subst e
        split at h0 <;> rename_i q
        · rw [if_pos q]; omega
        · rw [if_neg q]; omega
      · exact ih y (List.mem_cons_of_mem _ m)
theorem best_nat : ∀ (xs : List Nat) (x : Nat), bestL true (nD x) (xs.map nD) = nD (maxN x xs)
  | [], _ => rfl
  | y :: ys, x => by
    have e : bestL true (nD x) ((y :: ys).map nD) = bestL true (if x < y then nD y else nD x) (ys.map nD) := by
      unfold bestL
      rw [List.map_cons, List.foldl_cons]
      congr 1
      simp only [if_true]
      rw [encD_int, encD_int, PySem.W.dataLt_int]
      by_cases q : x < y
      · rw [if_pos q, if_pos (by rw [decide_eq_true_eq]; omega)]
      · rw [if_neg q, if_neg (by rw [decide_eq_true_eq]; omega)]
    have e2 : (if x < y then nD y else nD x) = nD (if x < y then y else x) := by split <;> rfl
    rw [e, e2, best_nat ys]
    rfl
theorem o_max1N {x : Nat} {xs : List Nat} {P : D → Prop} (p : P (nD (maxN x xs))) : OI .max1 [.lst ((x :: xs).map nD)] P := by
  refine .mk ?_ p
  show bestD1 true ((x :: xs).map nD) = some (nD (maxN x xs))
  rw [List.map_cons]
  simp only [bestD1]
  rw [show mapO pyOf (nD x :: xs.map nD) = some ((x :: xs).map fun n : Nat => PyData.int n) from pyL_nats (x :: xs)]
  simp only
  rw [if_pos ?_, best_nat]
  unfold allAlike
  rw [Bool.and_eq_true]
  refine ⟨List.all_eq_true.mpr fun a am => List.all_eq_true.mpr fun b bm => ?_, List.all_eq_true.mpr fun a am => ?_⟩
  · obtain ⟨n, _, rfl⟩ := List.mem_map.mp am
    obtain ⟨m, _, rfl⟩ := List.mem_map.mp bm
    rfl
  · obtain ⟨n, _, rfl⟩ := List.mem_map.mp am
    rfl
theorem o_max2 {i j : Int} {P : D → Prop} (p : P (.int (if j > i then j else i))) : OI .max2 [.int i, .int j] P := .mk rfl p
theorem rowsO_at {as : List Aro} {fhs : List Nat} {n L i : Nat} (h : i < L) : ((rowsO as fhs n L).map rowD)[i]? = some (rowD (rowO as fhs n i)) := by
  unfold rowsO
  rw [List.map_map, List.getElem?_map, List.getElem?_range h]
  rfl
theorem rows_pair {as : List Aro} {fhs : List Nat} {n L j : Nat} {d : D} (e : (pairs ((rowsO as fhs n L).map rowD) (((rowsO as fhs n L).map rowD).drop 1))[j]? = some d) :
    j + 1 < L ∧ d = .tup [rowD (rowO as fhs n j), rowD (rowO as fhs n (j + 1))] := by
  by_cases h : j + 1 < L
  · have h1 := rowsO_at (as := as) (fhs := fhs) (n := n) (L := L) (i := j) (by omega)
    have h2 : (((rowsO as fhs n L).map rowD).drop 1)[j]? = some (rowD (rowO as fhs n (j + 1))) := by
      rw [List.getElem?_drop, Nat.add_comm 1 j]
      exact rowsO_at h
    rw [pairs_get h1 h2] at e
    exact ⟨h, (Option.some.inj e).symm⟩
  · rw [List.getElem?_eq_none (by
      unfold pairs
      rw [List.length_zipWith, List.length_drop, List.length_map, rowsO_len]
      omega)] at e
    cases e
theorem row_pairs {as : List Aro} {fhs : List Nat} {n s t j : Nat} {d : D} (e : (pairs ((rowO as fhs n s).map oD) ((rowO as fhs n t).map oD))[j]? = some d) :
    d = .tup [oD (if j ∈ fhs then none else some (rowT as s j)), oD (if j ∈ fhs then none else some (rowT as t j))] := by
  by_cases h : j < n
  · have h1 : ((rowO as fhs n s).map oD)[j]? = some (oD (if j ∈ fhs then none else some (rowT as s j))) := by
      rw [List.getElem?_map, rowO_at as fhs s h]; rfl
    have h2 : ((rowO as fhs n t).map oD)[j]? = some (oD (if j ∈ fhs then none else some (rowT as t j))) := by
      rw [List.getElem?_map, rowO_at as fhs t h]; rfl
    rw [pairs_get h1 h2] at e
    exact (Option.some.inj e).symm
  · rw [List.getElem?_eq_none (by
      unfold pairs
      rw [List.length_zipWith, List.length_map, List.length_map, rowO_len, rowO_len]
      omega)] at e
    cases e
/-- pairs never rise from row to row -/
theorem row_down {as : List Aro} (t x : Nat) : ¬ lessP ((rowT as t x).1, (rowT as t x).2.1) ((rowT as (t + 1) x).1, (rowT as (t + 1) x).2.1) := by
  obtain ⟨k, hk, w⟩ := row_wk (as := as) t x
  exact row_le w (t + 1) (by omega)
theorem filter_two {p : Nat → Bool} : ∀ xs : List Nat, (xs.filter p).length + (xs.filter fun x => !p x).length = xs.length
  | [] => rfl
  | x :: xs => by
    have ih := filter_two (p := p) xs
    rw [List.filter_cons, List.filter_cons]
    cases h : p x with
    | true => simp; omega
    | false => simp; omega
section
variable {w : Wv} {fa : Fa} {g : Nat}
theorem whL_len (fo : fa.Ok w) : (whL w fa.hs).length + fa.hs.length = w.hs.length := by
  have h1 := filter_two (p := fun x => decide (x ∉ fa.hs)) (List.range w.hs.length)
  have h2 : ((List.range w.hs.length).filter fun x => !decide (x ∉ fa.hs)) = fa.hs := by
    refine up_ext (List.pairwise_lt_range.filter _) fo.h1 fun x => ?_
    rw [List.mem_filter, List.mem_range]
    constructor
    · intro h
      simpa using h.2
    · intro h
      exact ⟨fo.h2 x h, by simpa using h⟩
  rw [h2, List.length_range] at h1
  exact h1
theorem nodup_sub : ∀ {xs ys : List Nat}, xs.Nodup → (∀ x ∈ xs, x ∈ ys) → xs.length ≤ ys.length
  | [], _, _, _ => Nat.zero_le _
  | x :: xs, ys, nd, h => by
    have nd' := List.nodup_cons.mp nd
    have hx := h x List.mem_cons_self
    have := nodup_sub (xs := xs) (ys := ys.erase x) nd'.2 fun y m => by
      have ne : y ≠ x := fun e => nd'.1 (by rw [← e]; exact m)
      exact (List.mem_erase_of_ne ne).mpr (h y (List.mem_cons_of_mem _ m))
    have := List.length_erase_of_mem hx
    have := List.length_pos_of_mem hx
    rw [List.length_cons]
    omega
theorem piece_wh (f : w.Fit) {x : Nat} (hx : x < w.hs.length) (hf : x ∉ fa.hs) : (pieceL w (standL w fa g) x).length ≤ (whL w fa.hs).length := by
  refine nodup_sub ((up_srtN (ns := bfs (endsL w (standL w fa g)) x w.hs.length)).imp fun {a b} h => by omega) fun y m => ?_
  have m : y ∈ pieceL w (standL w fa g) x := m
  exact List.mem_filter.mpr ⟨List.mem_range.mpr (piece_lt f hx m), by simpa using rch_off ((mem_piece f hx).mp m) hf⟩
theorem piece_pos (f : w.Fit) {ls : List Nat} {x : Nat} (hx : x < w.hs.length) : 1 ≤ (pieceL w ls x).length := List.length_pos_of_mem ((mem_piece f hx).mpr .refl)
end
def szF (w : Wv) (ls : List Nat) : D → D
  | .int i => nD (pieceL w ls i.toNat).length
  | _ => .non
theorem szF_nat (w : Wv) (ls : List Nat) (x : Nat) : szF w ls (nD x) = nD (pieceL w ls x).length := by
  unfold szF nD
  simp only [Int.toNat_natCast]
end Ev

namespace Lawk16
open PySem L2 PySem.Spec PyProof.Rows Ev
local macro_rules | `(tactic| kct_strs) => `(tactic| first | refine w_var rfl ?_ | refine w_int ?_ | refine w_bl ?_ | refine w_str ?_ | refine w_non ?_ | refine w_bor rfl ?_ | refine w_glob ?_ | refine w_bin ?_ | refine w_cmp ?_ | refine w_call ?_ | refine w_pcall ?_ | refine w_dnew ?_ | refine w_dnew1 ?_ | refine w_dget ?_ | refine w_din ?_ | refine w_dget2 ?_ | refine s_dput ?_ | refine w_rev ?_ | refine w_trng ?_ | refine w_lrng ?_ | refine w_cons ?_ | refine w_nil ?_ | refine w_bi ?_ | refine w_idx ?_ | refine w_tup ?_ | refine w_lst ?_ | refine w_isin ?_ | refine w_both ?_ | refine w_and ?_ | refine w_and1 ?_ | refine w_not ?_ | refine w_ife ?_ | refine w_sl ?_ | refine w_sset ?_ | refine w_sm ?_ | refine w_cmp2 ?_ | refine w_neg ?_ | refine w_alloc ?_ | refine w_over ?_ | refine w_rng ?_ | refine w_rng2 ?_ | refine w_enum ?_ | refine w_zip ?_ | refine s_nil ?_ | refine s_ret ?_ | refine s_expr ?_ | refine s_reto rfl ?_ | (refine s_retf ?_) | refine s_par ?_ | (refine s_asg ?_; simp only [List.set_cons_zero, List.set_cons_succ]) | refine s_asgT ?_ | refine s_ife ?_ | refine s_cset ?_ | (refine s_own rfl ?_; simp only [List.set_cons_zero, List.set_cons_succ]) | (refine s_mut rfl ?_; simp only [List.set_cons_zero, List.set_cons_succ]) | (refine s_frz rfl ?_; simp only [List.set_cons_zero, List.set_cons_succ]) | refine s_brk ?_ | refine s_cnt ?_ | refine s_pas ?_ | refine WB.mk ?_ | refine o_add ?_ | refine o_sub ?_ | refine o_lt ?_ | refine o_gt ?_ | refine o_le ?_ | refine o_ge ?_ | refine o_eq ?_ | refine o_ne ?_ | refine o_eqb ?_ | refine o_neb ?_ | refine o_isn ?_ | refine o_notn ?_ | refine o_isnb ?_ | refine o_notnb ?_ | refine o_lenL ?_ | refine o_lenT ?_ | refine o_lenS ?_ | refine o_lenX ?_ | refine o_abs ?_ | refine o_min ?_ | refine o_intb ?_ | refine o_listL ?_ | refine o_listT ?_ | refine o_tupL ?_ | refine o_tupT ?_ | refine ⟨Nat.le_of_ble_eq_true rfl, ?_⟩ | refine knT ?_ | refine knF ?_ | refine knTT ?_ | refine knFF ?_ | refine knTF ?_ | refine knFT ?_ | refine o_ty rfl ?_ | (refine o_bind rfl ?_; simp only [List.set_cons_zero, List.set_cons_succ]) | refine o_cutL ?_ | refine o_cutT ?_ | refine o_optX rfl ?_ | refine o_items rfl ?_ | (refine o_setPar rfl ?_; simp only [List.set_cons_zero, List.set_cons_succ]) | refine o_rev ?_ | refine o_revT ?_ | refine o_neg ?_ | refine o_negB ?_ | refine o_addB ?_ | refine o_subB ?_ | refine ⟨Or.inl rfl, ?_⟩ | refine ⟨Or.inr rfl, ?_⟩ | refine o_over rfl ?_ | refine o_alloc rfl ?_ | refine o_modL rfl ?_ | refine o_fdivL rfl ?_ | refine ⟨_, rfl, ?_⟩)
def topS (i : Nat) : Stmt := PySem.Challenge.pw_namelines_k16_how_soon_they_come_to_it.main.body.getD i (.Pass ⟨0, 0, 0, 0⟩)
def N_whole_strands : List Str := ["weaving", "falls", "line", "number"]
def f_whole_strands : Fn := ⟨3, 4, [.retf (.comp [3] (.nm 3) (.rng (.idx (.idx (.idx (.var 0) (.int 1)) (.var 2)) (.int 4))) (.cmp .nin (.tup [(.var 2), (.var 3)]) (.idx (.var 1) (.int 1))) (.var 3))], true⟩
def N_stands : List Str := ["weaving", "falls", "line", "one", "other"]
def f_stands : Fn := ⟨3, 5, [.asg (.tp [3, 4]) (.sl (.idx (.idx (.var 0) (.int 1)) (.var 2)) .non (.int 2)), .ife (.both false [(.cmp .inn (.var 3) (.idx (.var 1) (.int 0))), (.cmp .inn (.var 4) (.idx (.var 1) (.int 0)))]) [.ret (.bl false)] [], .ret (.cmp .gt (.bi .len [(.call "whole_strands" [(.var 0), (.var 1), (.var 2)])]) (.int 0))], false⟩
def N_standing : List Str := ["weaving", "falls", "group", "carrying", "line", "row"]
def f_standing : Fn := ⟨3, 6, [.asg (.nm 3) (.comp [4, 5] (.tp [4, 5]) (.enum (.idx (.var 0) (.int 1))) (.cmp .inn (.var 2) (.idx (.var 5) (.int 3))) (.var 4)), .retf (.comp [4] (.nm 4) (.over (.var 3)) (.call "stands" [(.var 0), (.var 1), (.var 4)]) (.var 4))], true⟩
def N_arrows_of : List Str := ["weaving", "lines", "found", "line", "one", "other", "cost"]
def f_arrows_of : Fn := ⟨2, 7, [.own 2 (.lst []), .fors (.nm 3) (.over (.var 1)) [.asg (.tp [4, 5, 6]) (.sl (.idx (.idx (.var 0) (.int 1)) (.var 3)) .non (.int 3)), .mut .extend 2 [(.lst [(.tup [(.var 4), (.var 3), (.var 5), (.var 6)]), (.tup [(.var 5), (.var 3), (.var 4), (.var 6)])])]], .reto 2], true⟩
def N_next_row : List Str := ["row", "arrows", "found", "house", "told", "least", "there", "line", "near", "cost"]
def f_next_row : Fn := ⟨2, 10, [.own 2 (.lst []), .fors (.tp [3, 4]) (.enum (.var 0)) [.asg (.nm 5) (.tup [(.var 3), (.int 0), (.neg (.int 1)), (.neg (.int 1))]), .fors (.tp [6, 7, 8, 9]) (.over (.var 1)) [.ife (.cmp .eq (.var 6) (.var 3)) [.asg (.nm 5) (.bi .min2 [(.var 5), (.tup [(.idx (.idx (.var 0) (.var 8)) (.int 0)), (.bin .add (.idx (.idx (.var 0) (.var 8)) (.int 1)) (.var 9)), (.var 8), (.var 7)])])] []], .mut .append 2 [(.ife (.cmp .isn (.var 4) .non) .non (.bin .add (.sl (.var 5) .non (.int 2)) (.sl (.var 5) (.int 3) .non)))]], .reto 2], true⟩
def N_told_rows : List Str := ["weaving", "falls", "group", "arrows", "row", "house", "found"]
def f_told_rows : Fn := ⟨3, 7, [.asg (.nm 3) (.call "arrows_of" [(.var 0), (.call "standing" [(.var 0), (.var 1), (.var 2)])]), .asg (.nm 4) (.comp [5] (.nm 5) (.rng (.bi .len [(.idx (.var 0) (.int 0))])) (.bl true) (.ife (.cmp .inn (.var 5) (.idx (.var 1) (.int 0))) .non (.tup [(.var 5), (.int 0), (.neg (.int 1))]))), .own 6 (.lst []), .whil (.both false [(.cmp .eq (.bi .len [(.bor 6)]) (.int 0)), (.cmp .ne (.var 4) (.idx (.bor 6) (.neg (.int 1))))]) [.mut .append 6 [(.var 4)], .asg (.nm 4) (.call "next_row" [(.var 4), (.var 3)])], .reto 6], true⟩
def N__law_box : List Str := ["_law_script", "_law_k", "_law_cell", "_law_great"]
def f__law_box : Fn := ⟨2, 4, [.asg (.nm 2) (.ife (.cmp .lt (.var 1) (.bi .len [(.var 0)])) (.idx (.var 0) (.var 1)) (.int 0)), .asg (.nm 3) (.ife (.cmp .ge (.bi .abs [(.var 2)]) (.bin .pow (.int 10) (.int 18))) (.bi .abs [(.var 2)]) (.int 0)), .ret (.alloc (.lst [(.var 3), (.bin .add (.var 2) (.bin .mul (.int 999983) (.var 1))), (.int 0)]))], false⟩
def N__law_take : List Str := ["_law_box_here", "_law_many", "_law_digit", "_law_prime", "_law_mixed"]
def f__law_take : Fn := ⟨2, 5, [.cset (.var 0) (.int 2) (.bin .add (.idx (.var 0) (.int 2)) (.int 1)), .ife (.cmp .gt (.idx (.var 0) (.int 0)) (.int 0)) [.asg (.nm 2) (.bin .mod (.idx (.var 0) (.int 0)) (.var 1)), .cset (.var 0) (.int 0) (.bin .fdiv (.idx (.var 0) (.int 0)) (.var 1)), .ret (.var 2)] [], .asg (.nm 3) (.idx (.lst [(.int 2147483647), (.int 2147483629), (.int 2147483587), (.int 2147483579), (.int 2147483563), (.int 2147483549), (.int 2147483543)]) (.bin .mod (.idx (.var 0) (.int 2)) (.int 7))), .asg (.nm 4) (.bin .mod (.bin .mul (.bin .add (.bin .add (.bin .mod (.idx (.var 0) (.int 1)) (.var 3)) (.bin .mul (.bin .mul (.idx (.var 0) (.int 2)) (.idx (.var 0) (.int 2))) (.int 7919))) (.int 11)) (.int 48271)) (.var 3)), .asg (.nm 4) (.bin .mod (.bin .mul (.bin .mod (.bin .pow (.var 4) (.int 3)) (.var 3)) (.bin .add (.int 39373) (.idx (.var 0) (.int 2)))) (.int 1999999973)), .ret (.bin .mod (.bin .fdiv (.var 4) (.int 64)) (.var 1))], false⟩
def N__law_some_groups : List Str := ["_law_box_here", "_law_some", "_law_way", "_law_first", "_law_group"]
def f__law_some_groups : Fn := ⟨2, 5, [.asg (.tp [2, 3]) (.tup [(.call "_law_take" [(.var 0), (.int 4)]), (.idx (.var 1) (.call "_law_take" [(.var 0), (.bi .len [(.var 1)])]))]), .ife (.cmp .lt (.var 2) (.int 2)) [.ret (.bi .tuple [(.sset (.var 1))])] [], .ife (.cmp .eq (.var 2) (.int 2)) [.ret (.tup [(.var 3)])] [], .ret (.bi .tuple [(.sset (.bin .add (.lst [(.var 3)]) (.comp [4] (.nm 4) (.rng (.int 8)) (.cmp .eq (.call "_law_take" [(.var 0), (.int 3)]) (.int 0)) (.var 4))))])], false⟩
def N__law_line : List Str := ["_law_box_here", "_law_many", "_law_some", "_law_one", "_law_other", "_law_cost", "_law_strands"]
def f__law_line : Fn := ⟨3, 7, [.asg (.nm 3) (.call "_law_take" [(.var 0), (.bin .sub (.var 1) (.int 1))]), .asg (.nm 4) (.bin .add (.bin .add (.var 3) (.int 1)) (.call "_law_take" [(.var 0), (.bin .sub (.bin .sub (.var 1) (.int 1)) (.var 3))])), .asg (.nm 5) (.bin .add (.int 1) (.call "_law_take" [(.var 0), (.idx (.lst [(.int 1), (.int 3), (.int 3), (.int 99)]) (.call "_law_take" [(.var 0), (.int 4)]))])), .asg (.nm 6) (.bin .add (.int 1) (.call "_law_take" [(.var 0), (.idx (.lst [(.int 1), (.int 1), (.int 2), (.int 4)]) (.call "_law_take" [(.var 0), (.int 4)]))])), .ret (.tup [(.var 3), (.var 4), (.var 5), (.call "_law_some_groups" [(.var 0), (.var 2)]), (.var 6)])], false⟩
def N__law_weaving : List Str := ["_law_box_here", "_law_great", "_law_many", "_law_some", "_law_k", "_law_houses", "_law_house", "_law_doors", "_law_door", "_law_lines", "_law_line_here"]
def f__law_weaving : Fn := ⟨1, 11, [.asg (.nm 1) (.bi .int [(.cmp .eq (.call "_law_take" [(.var 0), (.int 8)]) (.int 0))]), .asg (.nm 2) (.bin .add (.int 1) (.call "_law_take" [(.var 0), (.idx (.lst [(.int 6), (.int 12)]) (.var 1))])), .asg (.nm 3) (.comp [4] (.nm 4) (.rng (.bin .add (.int 1) (.call "_law_take" [(.var 0), (.int 3)]))) (.bl true) (.call "_law_take" [(.var 0), (.int 8)])), .own 5 (.lst []), .fors (.nm 6) (.rng (.var 2)) [.asg (.nm 7) (.call "_law_take" [(.var 0), (.idx (.lst [(.int 4), (.int 7)]) (.var 1))]), .mut .append 5 [(.bi .tuple [(.comp [8] (.nm 8) (.rng (.var 7)) (.bl true) (.idx (.var 3) (.call "_law_take" [(.var 0), (.bi .len [(.var 3)])])))])]], .asg (.nm 9) (.comp [10] (.nm 10) (.rng (.bin .mul (.call "_law_take" [(.var 0), (.idx (.lst [(.int 11), (.int 21)]) (.var 1))]) (.bi .int [(.cmp .gt (.var 2) (.int 1))]))) (.bl true) (.call "_law_line" [(.var 0), (.var 2), (.var 3)])), .ret (.tup [(.bi .tuple [(.bor 5)]), (.bi .tuple [(.var 9)])])], false⟩
def N__law_falls : List Str := ["_law_box_here", "_law_weaving_here", "_law_way", "_law_houses", "_law_strands", "_law_house", "_law_line_here", "_law_row", "_law_number"]
def f__law_falls : Fn := ⟨2, 9, [.par [2, 3, 4] [false, true, true] [(.call "_law_take" [(.var 0), (.int 4)]), (.lst []), (.lst [])], .fors (.nm 5) (.rng (.bi .len [(.idx (.var 1) (.int 0))])) [.mut .extend 3 [(.bin .mul (.lst [(.var 5)]) (.bi .int [(.both true [(.cmp .gt (.var 2) (.int 1)), (.cmp .eq (.call "_law_take" [(.var 0), (.int 6)]) (.int 0))])]))]], .fors (.tp [6, 7]) (.enum (.idx (.var 1) (.int 1))) [.fors (.nm 8) (.rng (.idx (.var 7) (.int 4))) [.mut .extend 4 [(.bin .mul (.lst [(.tup [(.var 6), (.var 8)])]) (.bi .int [(.both true [(.cmp .gt (.var 2) (.int 0)), (.cmp .eq (.call "_law_take" [(.var 0), (.int 4)]) (.int 0))])]))]]], .ret (.tup [(.bi .tuple [(.bor 3)]), (.bi .tuple [(.bor 4)])])], false⟩
def N__law_whole : List Str := ["_law_weaving_here", "_law_falls_here", "_law_line_here", "_law_number"]
def f__law_whole : Fn := ⟨3, 4, [.retf (.comp [3] (.nm 3) (.rng (.idx (.idx (.idx (.var 0) (.int 1)) (.var 2)) (.int 4))) (.cmp .nin (.tup [(.var 2), (.var 3)]) (.idx (.var 1) (.int 1))) (.var 3))], true⟩
def N__law_stands : List Str := ["_law_weaving_here", "_law_falls_here", "_law_group", "_law_found", "_law_line_here", "_law_row"]
def f__law_stands : Fn := ⟨3, 6, [.own 3 (.lst []), .fors (.tp [4, 5]) (.enum (.idx (.var 0) (.int 1))) [.ife (.both true [(.cmp .nin (.idx (.var 5) (.int 0)) (.idx (.var 1) (.int 0))), (.cmp .nin (.idx (.var 5) (.int 1)) (.idx (.var 1) (.int 0))), (.cmp .inn (.var 2) (.idx (.var 5) (.int 3)))]) [.mut .extend 3 [(.bin .mul (.lst [(.var 4)]) (.bi .int [(.cmp .ne (.call "_law_whole" [(.var 0), (.var 1), (.var 4)]) (.lst []))]))]] []], .reto 3], true⟩
def N__law_piece_of : List Str := ["_law_weaving_here", "_law_lines", "_law_house", "_law_found", "_law_turn", "_law_line_here", "_law_ends", "_law_end"]
def f__law_piece_of : Fn := ⟨3, 8, [.own 3 (.lst [(.var 2)]), .fors (.nm 4) (.over (.idx (.var 0) (.int 0))) [.fors (.nm 5) (.over (.var 1)) [.asg (.nm 6) (.sl (.idx (.idx (.var 0) (.int 1)) (.var 5)) .non (.int 2)), .mut .extend 3 [(.comp [7] (.nm 7) (.over (.var 6)) (.both true [(.cmp .nin (.var 7) (.bor 3)), (.both false [(.cmp .inn (.idx (.var 6) (.int 0)) (.bor 3)), (.cmp .inn (.idx (.var 6) (.int 1)) (.bor 3))])]) (.var 7))]]], .retf (.bi .sorted [(.bor 3)])], true⟩
def N__law_fars : List Str := ["_law_weaving_here", "_law_lines", "_law_root", "_law_far", "_law_turn", "_law_line_here", "_law_one", "_law_other", "_law_cost", "_law_here", "_law_there"]
def f__law_fars : Fn := ⟨3, 11, [.asg (.nm 3) (.dnew1 (.var 2) (.int 0)), .fors (.nm 4) (.over (.idx (.var 0) (.int 0))) [.fors (.nm 5) (.over (.var 1)) [.asg (.tp [6, 7, 8]) (.sl (.idx (.idx (.var 0) (.int 1)) (.var 5)) .non (.int 3)), .fors (.tp [9, 10]) (.over (.tup [(.tup [(.var 6), (.var 7)]), (.tup [(.var 7), (.var 6)])])) [.ife (.din false (.var 9) (.var 3)) [.dput (.var 3) (.var 10) (.bi .min2 [(.dget2 (.var 3) (.var 10) (.bin .add (.dget (.var 3) (.var 9)) (.var 8))), (.bin .add (.dget (.var 3) (.var 9)) (.var 8))])] []]]], .ret (.var 3)], false⟩
def N__law_tree : List Str := ["_law_weaving_here", "_law_falls_here", "_law_group", "_law_lines", "_law_found", "_law_house", "_law_root", "_law_line_here", "_law_far", "_law_ups", "_law_one", "_law_other", "_law_cost", "_law_here", "_law_there"]
def f__law_tree : Fn := ⟨3, 15, [.par [3, 4] [false, true] [(.call "_law_stands" [(.var 0), (.var 1), (.var 2)]), (.lst [])], .fors (.nm 5) (.rng (.bi .len [(.idx (.var 0) (.int 0))])) [.ife (.cmp .inn (.var 5) (.idx (.var 1) (.int 0))) [.mut .append 4 [.non]] [.asg (.nm 6) (.idx (.call "_law_piece_of" [(.var 0), (.var 3), (.var 5)]) (.int 0)), .par [8, 9] [false, true] [(.call "_law_fars" [(.var 0), (.var 3), (.var 6)]), (.lst [])], .fors (.nm 7) (.over (.var 3)) [.asg (.tp [10, 11, 12]) (.sl (.idx (.idx (.var 0) (.int 1)) (.var 7)) .non (.int 3)), .fors (.tp [13, 14]) (.over (.tup [(.tup [(.var 10), (.var 11)]), (.tup [(.var 11), (.var 10)])])) [.ife (.both true [(.cmp .eq (.var 14) (.var 5)), (.din false (.var 13) (.var 8)), (.cmp .eq (.bin .add (.dget (.var 8) (.var 13)) (.var 12)) (.dget (.var 8) (.var 5)))]) [.mut .append 9 [(.tup [(.var 13), (.var 7)])]] []]], .mut .append 4 [(.tup [(.var 6), (.dget (.var 8) (.var 5)), (.ife (.cmp .ne (.var 5) (.var 6)) (.idx (.bi .min1 [(.bor 9)]) (.int 1)) (.neg (.int 1)))])]]], .reto 4], true⟩
def N__law_same : List Str := ["_law_found", "_law_due", "_law_one", "_law_other"]
def f__law_same : Fn := ⟨2, 4, [.ife (.isin (.var 1) [.list, .tuple]) [.ife (.both false [(.cmp .ne (.isin (.var 0) [.list]) (.isin (.var 1) [.list])), (.cmp .ne (.isin (.var 0) [.tuple]) (.isin (.var 1) [.tuple]))]) [.ret (.bl false)] [], .ret (.both true [(.cmp .eq (.bi .len [(.var 0)]) (.bi .len [(.var 1)])), (.bi .all [(.comp [2, 3] (.tp [2, 3]) (.zip (.var 0) (.var 1)) (.bl true) (.call "_law_same" [(.var 2), (.var 3)]))])])] [], .ife (.both false [(.cmp .isn (.var 1) .non), (.isin (.var 1) [.str, .bool])]) [.ret (.both true [(.cmp .eq (.var 0) (.var 1)), (.cmp .eq (.isin (.var 0) [.bool]) (.isin (.var 1) [.bool])), (.cmp .eq (.cmp .isn (.var 0) .non) (.cmp .isn (.var 1) .non))])] [], .ret (.both true [(.isin (.var 0) [.int]), (.not (.isin (.var 0) [.bool])), (.cmp .eq (.var 0) (.var 1))])], false⟩
def N_law : List Str := ["_law_script", "_law_k", "_law_box_here", "_law_weaving_here", "_law_falls_here", "_law_many", "_law_group", "_law_lines", "_law_sizes", "_law_rows", "_law_made", "_law_one", "_law_other", "_law_first", "_law_second", "_law_house"]
def f_law : Fn := ⟨1, 16, [.fors (.nm 1) (.rng (.bin .add (.int 1) (.bi .min2 [(.int 16), (.bi .len [(.var 0)])]))) [.asg (.nm 2) (.call "_law_box" [(.var 0), (.var 1)]), .asg (.nm 3) (.call "_law_weaving" [(.var 2)]), .asg (.nm 4) (.call "_law_falls" [(.var 2), (.var 3)]), .asg (.nm 5) (.bin .sub (.bi .len [(.idx (.var 3) (.int 0))]) (.bi .len [(.idx (.var 4) (.int 0))])), .fors (.nm 6) (.rng (.int 8)) [.asg (.tp [9, 10]) (.tup [(.call "told_rows" [(.var 3), (.var 4), (.var 6)]), (.call "_law_tree" [(.var 3), (.var 4), (.var 6)])]), .ife (.both false [(.not (.cmp2 .le .le (.int 1) (.bi .len [(.var 9)]) (.bi .max2 [(.int 1), (.var 5)]))), (.not (.call "_law_same" [(.idx (.var 9) (.neg (.int 1))), (.var 10)]))]) [.ret (.bl false)] [], .ife (.bi .any [(.comp [11, 12] (.tp [11, 12]) (.zip (.var 9) (.sl (.var 9) (.int 1) .non)) (.bl true) (.cmp .eq (.var 11) (.var 12)))]) [.ret (.bl false)] [], .fors (.tp [11, 12]) (.zip (.var 9) (.sl (.var 9) (.int 1) .non)) [.fors (.tp [13, 14]) (.zip (.var 11) (.var 12)) [.ife (.both true [(.cmp .notn (.var 13) .non), (.cmp .gt (.sl (.var 14) .non (.int 2)) (.sl (.var 13) .non (.int 2)))]) [.ret (.bl false)] []]], .asg (.nm 7) (.call "_law_stands" [(.var 3), (.var 4), (.var 6)]), .asg (.nm 8) (.comp [15] (.nm 15) (.rng (.bi .len [(.idx (.var 3) (.int 0))])) (.bl true) (.bi .len [(.call "_law_piece_of" [(.var 3), (.var 7), (.var 15)])])), .ife (.cmp .gt (.bi .len [(.var 9)]) (.bi .max1 [(.var 8)])) [.ret (.bl false)] []]], .ret (.bl true)], false⟩
def fns : List (String × Fn) := [("whole_strands", f_whole_strands), ("stands", f_stands), ("standing", f_standing), ("arrows_of", f_arrows_of), ("next_row", f_next_row), ("told_rows", f_told_rows), ("_law_box", f__law_box), ("_law_take", f__law_take), ("_law_some_groups", f__law_some_groups), ("_law_line", f__law_line), ("_law_weaving", f__law_weaving), ("_law_falls", f__law_falls), ("_law_whole", f__law_whole), ("_law_stands", f__law_stands), ("_law_piece_of", f__law_piece_of), ("_law_fars", f__law_fars), ("_law_tree", f__law_tree), ("_law_same", f__law_same), ("law", f_law)]
def cs : List (Str × GD) := []
abbrev nms : List String := ["whole_strands", "stands", "standing", "arrows_of", "next_row", "told_rows", "_law_box", "_law_take", "_law_some_groups", "_law_line", "_law_weaving", "_law_falls", "_law_whole", "_law_stands", "_law_piece_of", "_law_fars", "_law_tree", "_law_same", "law"]
theorem nms_eq : fns.map (·.1) = nms := rfl
abbrev frs : List String := ["whole_strands", "standing", "arrows_of", "next_row", "told_rows", "_law_whole", "_law_stands", "_law_piece_of", "_law_tree"]
theorem frs_eq : frsOf fns = frs := rfl
theorem frs_ok : FrOk fns := frs_by (by rw [frs_eq]; rfl)
abbrev s_whole_strands : Stmt := topS 1
theorem sc_whole_strands : FnScope N_whole_strands ["weaving", "falls", "line"] (defScope s_whole_strands) := ⟨rfl, rfl, rfl, by decide +kernel, rfl, by decide +kernel, by decide +kernel⟩
theorem ck_whole_strands : chkSs ⟨N_whole_strands, cs, nms, frs⟩ (fun _ => true) (defScope s_whole_strands) f_whole_strands.body (defBody s_whole_strands) = true := by decide +kernel
abbrev s_stands : Stmt := topS 2
theorem sc_stands : FnScope N_stands ["weaving", "falls", "line"] (defScope s_stands) := ⟨rfl, rfl, rfl, by decide +kernel, rfl, by decide +kernel, by decide +kernel⟩
theorem ck_stands : chkSs ⟨N_stands, cs, nms, frs⟩ (fun _ => true) (defScope s_stands) f_stands.body (defBody s_stands) = true := by decide +kernel
abbrev s_standing : Stmt := topS 3
theorem sc_standing : FnScope N_standing ["weaving", "falls", "group"] (defScope s_standing) := ⟨rfl, rfl, rfl, by decide +kernel, rfl, by decide +kernel, by decide +kernel⟩
theorem ck_standing : chkSs ⟨N_standing, cs, nms, frs⟩ (fun _ => true) (defScope s_standing) f_standing.body (defBody s_standing) = true := by decide +kernel
abbrev s_arrows_of : Stmt := topS 5
theorem sc_arrows_of : FnScope N_arrows_of ["weaving", "lines"] (defScope s_arrows_of) := ⟨rfl, rfl, rfl, by decide +kernel, rfl, by decide +kernel, by decide +kernel⟩
theorem ck_arrows_of : chkSs ⟨N_arrows_of, cs, nms, frs⟩ (fun _ => true) (defScope s_arrows_of) f_arrows_of.body (defBody s_arrows_of) = true := by decide +kernel
abbrev s_next_row : Stmt := topS 7
theorem sc_next_row : FnScope N_next_row ["row", "arrows"] (defScope s_next_row) := ⟨rfl, rfl, rfl, by decide +kernel, rfl, by decide +kernel, by decide +kernel⟩
theorem ck_next_row : chkSs ⟨N_next_row, cs, nms, frs⟩ (fun _ => true) (defScope s_next_row) f_next_row.body (defBody s_next_row) = true := by decide +kernel
abbrev s_told_rows : Stmt := topS 8
theorem sc_told_rows : FnScope N_told_rows ["weaving", "falls", "group"] (defScope s_told_rows) := ⟨rfl, rfl, rfl, by decide +kernel, rfl, by decide +kernel, by decide +kernel⟩
theorem ck_told_rows : chkSs ⟨N_told_rows, cs, nms, frs⟩ (fun _ => true) (defScope s_told_rows) f_told_rows.body (defBody s_told_rows) = true := by decide +kernel
abbrev s__law_box : Stmt := topS 10
theorem sc__law_box : FnScope N__law_box ["_law_script", "_law_k"] (defScope s__law_box) := ⟨rfl, rfl, rfl, by decide +kernel, rfl, by decide +kernel, by decide +kernel⟩
theorem ck__law_box : chkSs ⟨N__law_box, cs, nms, frs⟩ (fun _ => true) (defScope s__law_box) f__law_box.body (defBody s__law_box) = true := by decide +kernel
abbrev s__law_take : Stmt := topS 11
theorem sc__law_take : FnScope N__law_take ["_law_box_here", "_law_many"] (defScope s__law_take) := ⟨rfl, rfl, rfl, by decide +kernel, rfl, by decide +kernel, by decide +kernel⟩
theorem ck__law_take : chkSs ⟨N__law_take, cs, nms, frs⟩ (fun _ => true) (defScope s__law_take) f__law_take.body (defBody s__law_take) = true := by decide +kernel
abbrev s__law_some_groups : Stmt := topS 12
theorem sc__law_some_groups : FnScope N__law_some_groups ["_law_box_here", "_law_some"] (defScope s__law_some_groups) := ⟨rfl, rfl, rfl, by decide +kernel, rfl, by decide +kernel, by decide +kernel⟩
theorem ck__law_some_groups : chkSs ⟨N__law_some_groups, cs, nms, frs⟩ (fun _ => true) (defScope s__law_some_groups) f__law_some_groups.body (defBody s__law_some_groups) = true := by decide +kernel
abbrev s__law_line : Stmt := topS 13
theorem sc__law_line : FnScope N__law_line ["_law_box_here", "_law_many", "_law_some"] (defScope s__law_line) := ⟨rfl, rfl, rfl, by decide +kernel, rfl, by decide +kernel, by decide +kernel⟩
theorem ck__law_line : chkSs ⟨N__law_line, cs, nms, frs⟩ (fun _ => true) (defScope s__law_line) f__law_line.body (defBody s__law_line) = true := by decide +kernel
abbrev s__law_weaving : Stmt := topS 14
theorem sc__law_weaving : FnScope N__law_weaving ["_law_box_here"] (defScope s__law_weaving) := ⟨rfl, rfl, rfl, by decide +kernel, rfl, by decide +kernel, by decide +kernel⟩
theorem ck__law_weaving : chkSs ⟨N__law_weaving, cs, nms, frs⟩ (fun _ => true) (defScope s__law_weaving) f__law_weaving.body (defBody s__law_weaving) = true := by decide +kernel
abbrev s__law_falls : Stmt := topS 15
theorem sc__law_falls : FnScope N__law_falls ["_law_box_here", "_law_weaving_here"] (defScope s__law_falls) := ⟨rfl, rfl, rfl, by decide +kernel, rfl, by decide +kernel, by decide +kernel⟩
theorem ck__law_falls : chkSs ⟨N__law_falls, cs, nms, frs⟩ (fun _ => true) (defScope s__law_falls) f__law_falls.body (defBody s__law_falls) = true := by decide +kernel
abbrev s__law_whole : Stmt := topS 16
theorem sc__law_whole : FnScope N__law_whole ["_law_weaving_here", "_law_falls_here", "_law_line_here"] (defScope s__law_whole) := ⟨rfl, rfl, rfl, by decide +kernel, rfl, by decide +kernel, by decide +kernel⟩
theorem ck__law_whole : chkSs ⟨N__law_whole, cs, nms, frs⟩ (fun _ => true) (defScope s__law_whole) f__law_whole.body (defBody s__law_whole) = true := by decide +kernel
abbrev s__law_stands : Stmt := topS 17
theorem sc__law_stands : FnScope N__law_stands ["_law_weaving_here", "_law_falls_here", "_law_group"] (defScope s__law_stands) := ⟨rfl, rfl, rfl, by decide +kernel, rfl, by decide +kernel, by decide +kernel⟩
theorem ck__law_stands : chkSs ⟨N__law_stands, cs, nms, frs⟩ (fun _ => true) (defScope s__law_stands) f__law_stands.body (defBody s__law_stands) = true := by decide +kernel
abbrev s__law_piece_of : Stmt := topS 18
theorem sc__law_piece_of : FnScope N__law_piece_of ["_law_weaving_here", "_law_lines", "_law_house"] (defScope s__law_piece_of) := ⟨rfl, rfl, rfl, by decide +kernel, rfl, by decide +kernel, by decide +kernel⟩
theorem ck__law_piece_of : chkSs ⟨N__law_piece_of, cs, nms, frs⟩ (fun _ => true) (defScope s__law_piece_of) f__law_piece_of.body (defBody s__law_piece_of) = true := by decide +kernel
abbrev s__law_fars : Stmt := topS 19
theorem sc__law_fars : FnScope N__law_fars ["_law_weaving_here", "_law_lines", "_law_root"] (defScope s__law_fars) := ⟨rfl, rfl, rfl, by decide +kernel, rfl, by decide +kernel, by decide +kernel⟩
theorem ck__law_fars : chkSs ⟨N__law_fars, cs, nms, frs⟩ (fun _ => true) (defScope s__law_fars) f__law_fars.body (defBody s__law_fars) = true := by decide +kernel
abbrev s__law_tree : Stmt := topS 20
theorem sc__law_tree : FnScope N__law_tree ["_law_weaving_here", "_law_falls_here", "_law_group"] (defScope s__law_tree) := ⟨rfl, rfl, rfl, by decide +kernel, rfl, by decide +kernel, by decide +kernel⟩
theorem ck__law_tree : chkSs ⟨N__law_tree, cs, nms, frs⟩ (fun _ => true) (defScope s__law_tree) f__law_tree.body (defBody s__law_tree) = true := by decide +kernel
abbrev s__law_same : Stmt := topS 21
theorem sc__law_same : FnScope N__law_same ["_law_found", "_law_due"] (defScope s__law_same) := ⟨rfl, rfl, rfl, by decide +kernel, rfl, by decide +kernel, by decide +kernel⟩
theorem ck__law_same : chkSs ⟨N__law_same, cs, nms, frs⟩ (fun _ => true) (defScope s__law_same) f__law_same.body (defBody s__law_same) = true := by decide +kernel
abbrev s_law : Stmt := topS 22
theorem sc_law : FnScope N_law ["_law_script"] (defScope s_law) := ⟨rfl, rfl, rfl, by decide +kernel, rfl, by decide +kernel, by decide +kernel⟩
theorem ck_law : chkSs ⟨N_law, cs, nms, frs⟩ (fun _ => true) (defScope s_law) f_law.body (defBody s_law) = true := by decide +kernel
section
variable {l : PySem.W.OpenLaw} {w : World} {K : PySem.W.Frag} {h : Heap} {mg : Str → Option Value} {fa : Addr}
theorem all_mk (k : Nat) (X : K.In h) (G : h.Ns mainGlobals mg) (hfa : mg "law" = some (.ref fa))
  {od0 an0 : Option Addr} {sl0 : Array (Option Value)} {oc0 kV0 dc0 pm0 cd0 ct0 : Value} {g0 : Addr}
  {od1 an1 : Option Addr} {sl1 : Array (Option Value)} {oc1 kV1 dc1 pm1 cd1 ct1 : Value} {g1 : Addr}
  {od2 an2 : Option Addr} {sl2 : Array (Option Value)} {oc2 kV2 dc2 pm2 cd2 ct2 : Value} {g2 : Addr}
  {od3 an3 : Option Addr} {sl3 : Array (Option Value)} {oc3 kV3 dc3 pm3 cd3 ct3 : Value} {g3 : Addr}
  {od4 an4 : Option Addr} {sl4 : Array (Option Value)} {oc4 kV4 dc4 pm4 cd4 ct4 : Value} {g4 : Addr}
  {od5 an5 : Option Addr} {sl5 : Array (Option Value)} {oc5 kV5 dc5 pm5 cd5 ct5 : Value} {g5 : Addr}
  {od6 an6 : Option Addr} {sl6 : Array (Option Value)} {oc6 kV6 dc6 pm6 cd6 ct6 : Value} {g6 : Addr}
  {od7 an7 : Option Addr} {sl7 : Array (Option Value)} {oc7 kV7 dc7 pm7 cd7 ct7 : Value} {g7 : Addr}
  {od8 an8 : Option Addr} {sl8 : Array (Option Value)} {oc8 kV8 dc8 pm8 cd8 ct8 : Value} {g8 : Addr}
  {od9 an9 : Option Addr} {sl9 : Array (Option Value)} {oc9 kV9 dc9 pm9 cd9 ct9 : Value} {g9 : Addr}
  {od10 an10 : Option Addr} {sl10 : Array (Option Value)} {oc10 kV10 dc10 pm10 cd10 ct10 : Value} {g10 : Addr}
  {od11 an11 : Option Addr} {sl11 : Array (Option Value)} {oc11 kV11 dc11 pm11 cd11 ct11 : Value} {g11 : Addr}
  {od12 an12 : Option Addr} {sl12 : Array (Option Value)} {oc12 kV12 dc12 pm12 cd12 ct12 : Value} {g12 : Addr}
  {od13 an13 : Option Addr} {sl13 : Array (Option Value)} {oc13 kV13 dc13 pm13 cd13 ct13 : Value} {g13 : Addr}
  {od14 an14 : Option Addr} {sl14 : Array (Option Value)} {oc14 kV14 dc14 pm14 cd14 ct14 : Value} {g14 : Addr}
  {od15 an15 : Option Addr} {sl15 : Array (Option Value)} {oc15 kV15 dc15 pm15 cd15 ct15 : Value} {g15 : Addr}
  {od16 an16 : Option Addr} {sl16 : Array (Option Value)} {oc16 kV16 dc16 pm16 cd16 ct16 : Value} {g16 : Addr}
  {od17 an17 : Option Addr} {sl17 : Array (Option Value)} {oc17 kV17 dc17 pm17 cd17 ct17 : Value} {g17 : Addr}
  {od18 an18 : Option Addr} {sl18 : Array (Option Value)} {oc18 kV18 dc18 pm18 cd18 ct18 : Value} {g18 : Addr}
  (a0 : PySem.W.nsIn K mainGlobals "whole_strands" = some (some (.ref g0))) (l0 : K.lookup g0 = some ⟨oc0, od0, .func (PySem.W.fnOf "whole_strands" "whole_strands" (defArgs s_whole_strands) (defBody s_whole_strands) (defScope s_whole_strands) .none kV0 dc0 pm0 an0 cd0 ct0), sl0⟩) (c0 : PySem.W.codeIn K cd0 "whole_strands" = true) (k0 : PySem.W.keepIn K (.ref g0) = true)
  (a1 : PySem.W.nsIn K mainGlobals "stands" = some (some (.ref g1))) (l1 : K.lookup g1 = some ⟨oc1, od1, .func (PySem.W.fnOf "stands" "stands" (defArgs s_stands) (defBody s_stands) (defScope s_stands) .none kV1 dc1 pm1 an1 cd1 ct1), sl1⟩) (c1 : PySem.W.codeIn K cd1 "stands" = true) (k1 : PySem.W.keepIn K (.ref g1) = true)
  (a2 : PySem.W.nsIn K mainGlobals "standing" = some (some (.ref g2))) (l2 : K.lookup g2 = some ⟨oc2, od2, .func (PySem.W.fnOf "standing" "standing" (defArgs s_standing) (defBody s_standing) (defScope s_standing) .none kV2 dc2 pm2 an2 cd2 ct2), sl2⟩) (c2 : PySem.W.codeIn K cd2 "standing" = true) (k2 : PySem.W.keepIn K (.ref g2) = true)
  (a3 : PySem.W.nsIn K mainGlobals "arrows_of" = some (some (.ref g3))) (l3 : K.lookup g3 = some ⟨oc3, od3, .func (PySem.W.fnOf "arrows_of" "arrows_of" (defArgs s_arrows_of) (defBody s_arrows_of) (defScope s_arrows_of) .none kV3 dc3 pm3 an3 cd3 ct3), sl3⟩) (c3 : PySem.W.codeIn K cd3 "arrows_of" = true) (k3 : PySem.W.keepIn K (.ref g3) = true)
  (a4 : PySem.W.nsIn K mainGlobals "next_row" = some (some (.ref g4))) (l4 : K.lookup g4 = some ⟨oc4, od4, .func (PySem.W.fnOf "next_row" "next_row" (defArgs s_next_row) (defBody s_next_row) (defScope s_next_row) .none kV4 dc4 pm4 an4 cd4 ct4), sl4⟩) (c4 : PySem.W.codeIn K cd4 "next_row" = true) (k4 : PySem.W.keepIn K (.ref g4) = true)
  (a5 : PySem.W.nsIn K mainGlobals "told_rows" = some (some (.ref g5))) (l5 : K.lookup g5 = some ⟨oc5, od5, .func (PySem.W.fnOf "told_rows" "told_rows" (defArgs s_told_rows) (defBody s_told_rows) (defScope s_told_rows) .none kV5 dc5 pm5 an5 cd5 ct5), sl5⟩) (c5 : PySem.W.codeIn K cd5 "told_rows" = true) (k5 : PySem.W.keepIn K (.ref g5) = true)
  (a6 : PySem.W.nsIn K mainGlobals "_law_box" = some (some (.ref g6))) (l6 : K.lookup g6 = some ⟨oc6, od6, .func (PySem.W.fnOf "_law_box" "_law_box" (defArgs s__law_box) (defBody s__law_box) (defScope s__law_box) .none kV6 dc6 pm6 an6 cd6 ct6), sl6⟩) (c6 : PySem.W.codeIn K cd6 "_law_box" = true) (k6 : PySem.W.keepIn K (.ref g6) = true)
  (a7 : PySem.W.nsIn K mainGlobals "_law_take" = some (some (.ref g7))) (l7 : K.lookup g7 = some ⟨oc7, od7, .func (PySem.W.fnOf "_law_take" "_law_take" (defArgs s__law_take) (defBody s__law_take) (defScope s__law_take) .none kV7 dc7 pm7 an7 cd7 ct7), sl7⟩) (c7 : PySem.W.codeIn K cd7 "_law_take" = true) (k7 : PySem.W.keepIn K (.ref g7) = true)
  (a8 : PySem.W.nsIn K mainGlobals "_law_some_groups" = some (some (.ref g8))) (l8 : K.lookup g8 = some ⟨oc8, od8, .func (PySem.W.fnOf "_law_some_groups" "_law_some_groups" (defArgs s__law_some_groups) (defBody s__law_some_groups) (defScope s__law_some_groups) .none kV8 dc8 pm8 an8 cd8 ct8), sl8⟩) (c8 : PySem.W.codeIn K cd8 "_law_some_groups" = true) (k8 : PySem.W.keepIn K (.ref g8) = true)
  (a9 : PySem.W.nsIn K mainGlobals "_law_line" = some (some (.ref g9))) (l9 : K.lookup g9 = some ⟨oc9, od9, .func (PySem.W.fnOf "_law_line" "_law_line" (defArgs s__law_line) (defBody s__law_line) (defScope s__law_line) .none kV9 dc9 pm9 an9 cd9 ct9), sl9⟩) (c9 : PySem.W.codeIn K cd9 "_law_line" = true) (k9 : PySem.W.keepIn K (.ref g9) = true)
  (a10 : PySem.W.nsIn K mainGlobals "_law_weaving" = some (some (.ref g10))) (l10 : K.lookup g10 = some ⟨oc10, od10, .func (PySem.W.fnOf "_law_weaving" "_law_weaving" (defArgs s__law_weaving) (defBody s__law_weaving) (defScope s__law_weaving) .none kV10 dc10 pm10 an10 cd10 ct10), sl10⟩) (c10 : PySem.W.codeIn K cd10 "_law_weaving" = true) (k10 : PySem.W.keepIn K (.ref g10) = true)
  (a11 : PySem.W.nsIn K mainGlobals "_law_falls" = some (some (.ref g11))) (l11 : K.lookup g11 = some ⟨oc11, od11, .func (PySem.W.fnOf "_law_falls" "_law_falls" (defArgs s__law_falls) (defBody s__law_falls) (defScope s__law_falls) .none kV11 dc11 pm11 an11 cd11 ct11), sl11⟩) (c11 : PySem.W.codeIn K cd11 "_law_falls" = true) (k11 : PySem.W.keepIn K (.ref g11) = true)
  (a12 : PySem.W.nsIn K mainGlobals "_law_whole" = some (some (.ref g12))) (l12 : K.lookup g12 = some ⟨oc12, od12, .func (PySem.W.fnOf "_law_whole" "_law_whole" (defArgs s__law_whole) (defBody s__law_whole) (defScope s__law_whole) .none kV12 dc12 pm12 an12 cd12 ct12), sl12⟩) (c12 : PySem.W.codeIn K cd12 "_law_whole" = true) (k12 : PySem.W.keepIn K (.ref g12) = true)
  (a13 : PySem.W.nsIn K mainGlobals "_law_stands" = some (some (.ref g13))) (l13 : K.lookup g13 = some ⟨oc13, od13, .func (PySem.W.fnOf "_law_stands" "_law_stands" (defArgs s__law_stands) (defBody s__law_stands) (defScope s__law_stands) .none kV13 dc13 pm13 an13 cd13 ct13), sl13⟩) (c13 : PySem.W.codeIn K cd13 "_law_stands" = true) (k13 : PySem.W.keepIn K (.ref g13) = true)
  (a14 : PySem.W.nsIn K mainGlobals "_law_piece_of" = some (some (.ref g14))) (l14 : K.lookup g14 = some ⟨oc14, od14, .func (PySem.W.fnOf "_law_piece_of" "_law_piece_of" (defArgs s__law_piece_of) (defBody s__law_piece_of) (defScope s__law_piece_of) .none kV14 dc14 pm14 an14 cd14 ct14), sl14⟩) (c14 : PySem.W.codeIn K cd14 "_law_piece_of" = true) (k14 : PySem.W.keepIn K (.ref g14) = true)
  (a15 : PySem.W.nsIn K mainGlobals "_law_fars" = some (some (.ref g15))) (l15 : K.lookup g15 = some ⟨oc15, od15, .func (PySem.W.fnOf "_law_fars" "_law_fars" (defArgs s__law_fars) (defBody s__law_fars) (defScope s__law_fars) .none kV15 dc15 pm15 an15 cd15 ct15), sl15⟩) (c15 : PySem.W.codeIn K cd15 "_law_fars" = true) (k15 : PySem.W.keepIn K (.ref g15) = true)
  (a16 : PySem.W.nsIn K mainGlobals "_law_tree" = some (some (.ref g16))) (l16 : K.lookup g16 = some ⟨oc16, od16, .func (PySem.W.fnOf "_law_tree" "_law_tree" (defArgs s__law_tree) (defBody s__law_tree) (defScope s__law_tree) .none kV16 dc16 pm16 an16 cd16 ct16), sl16⟩) (c16 : PySem.W.codeIn K cd16 "_law_tree" = true) (k16 : PySem.W.keepIn K (.ref g16) = true)
  (a17 : PySem.W.nsIn K mainGlobals "_law_same" = some (some (.ref g17))) (l17 : K.lookup g17 = some ⟨oc17, od17, .func (PySem.W.fnOf "_law_same" "_law_same" (defArgs s__law_same) (defBody s__law_same) (defScope s__law_same) .none kV17 dc17 pm17 an17 cd17 ct17), sl17⟩) (c17 : PySem.W.codeIn K cd17 "_law_same" = true) (k17 : PySem.W.keepIn K (.ref g17) = true)
  (a18 : PySem.W.nsIn K mainGlobals "law" = some (some (.ref g18))) (l18 : K.lookup g18 = some ⟨oc18, od18, .func (PySem.W.fnOf "law" "law" (defArgs s_law) (defBody s_law) (defScope s_law) .none kV18 dc18 pm18 an18 cd18 ct18), sl18⟩) (c18 : PySem.W.codeIn K cd18 "law" = true) (k18 : PySem.W.keepIn K (.ref g18) = true)
  (z0 : PySem.W.nsIn K mainGlobals "len" = some none)
  (z1 : PySem.W.nsIn K mainGlobals "abs" = some none)
  (z2 : PySem.W.nsIn K mainGlobals "min" = some none)
  (z3 : PySem.W.nsIn K mainGlobals "max" = some none)
  (z4 : PySem.W.nsIn K mainGlobals "int" = some none)
  (z5 : PySem.W.nsIn K mainGlobals "str" = some none)
  (z6 : PySem.W.nsIn K mainGlobals "ord" = some none)
  (z7 : PySem.W.nsIn K mainGlobals "sum" = some none)
  (z8 : PySem.W.nsIn K mainGlobals "all" = some none)
  (z9 : PySem.W.nsIn K mainGlobals "any" = some none)
  (z10 : PySem.W.nsIn K mainGlobals "sorted" = some none)
  (z11 : PySem.W.nsIn K mainGlobals "list" = some none)
  (z12 : PySem.W.nsIn K mainGlobals "tuple" = some none)
  (z13 : PySem.W.nsIn K mainGlobals "bool" = some none)
  (z14 : PySem.W.nsIn K mainGlobals "isinstance" = some none)
  (z15 : PySem.W.nsIn K mainGlobals "range" = some none)
  (z16 : PySem.W.nsIn K mainGlobals "enumerate" = some none)
  (z17 : PySem.W.nsIn K mainGlobals "zip" = some none)
  (z18 : PySem.W.nsIn K mainGlobals "set" = some none)
  (z19 : PySem.W.nsIn K mainGlobals "dict" = some none) :
  ∃ fd : FuncData, (∀ (s : Shared) (v : Value), BindsTo s fd ⟨[v], []⟩ [("_law_script", v)]) ∧ ∀ base : Heap, K.In base → base.Ns mainGlobals mg → FnG l.prog w K mg base (k + 1) fa fd ["_law_script"] (spF K (callF fns (k + 1)) 1 "law" false) := by
  have e := hfa.symm.trans (PySem.W.mg_of X G a18)
  cases e
  have F0 := fun_mk (st := s_whole_strands) l0 c0 k0
  have B0 := F0.binds (ps := ["weaving", "falls", "line"]) fun _ _ _ _ _ _ us hl => match us, hl with | [_, _, _], _ => rfl
  have F1 := fun_mk (st := s_stands) l1 c1 k1
  have B1 := F1.binds (ps := ["weaving", "falls", "line"]) fun _ _ _ _ _ _ us hl => match us, hl with | [_, _, _], _ => rfl
  have F2 := fun_mk (st := s_standing) l2 c2 k2
  have B2 := F2.binds (ps := ["weaving", "falls", "group"]) fun _ _ _ _ _ _ us hl => match us, hl with | [_, _, _], _ => rfl
  have F3 := fun_mk (st := s_arrows_of) l3 c3 k3
  have B3 := F3.binds (ps := ["weaving", "lines"]) fun _ _ _ _ _ _ us hl => match us, hl with | [_, _], _ => rfl
  have F4 := fun_mk (st := s_next_row) l4 c4 k4
  have B4 := F4.binds (ps := ["row", "arrows"]) fun _ _ _ _ _ _ us hl => match us, hl with | [_, _], _ => rfl
  have F5 := fun_mk (st := s_told_rows) l5 c5 k5
  have B5 := F5.binds (ps := ["weaving", "falls", "group"]) fun _ _ _ _ _ _ us hl => match us, hl with | [_, _, _], _ => rfl
  have F6 := fun_mk (st := s__law_box) l6 c6 k6
  have B6 := F6.binds (ps := ["_law_script", "_law_k"]) fun _ _ _ _ _ _ us hl => match us, hl with | [_, _], _ => rfl
  have F7 := fun_mk (st := s__law_take) l7 c7 k7
  have B7 := F7.binds (ps := ["_law_box_here", "_law_many"]) fun _ _ _ _ _ _ us hl => match us, hl with | [_, _], _ => rfl
  have F8 := fun_mk (st := s__law_some_groups) l8 c8 k8
  have B8 := F8.binds (ps := ["_law_box_here", "_law_some"]) fun _ _ _ _ _ _ us hl => match us, hl with | [_, _], _ => rfl
  have F9 := fun_mk (st := s__law_line) l9 c9 k9
  have B9 := F9.binds (ps := ["_law_box_here", "_law_many", "_law_some"]) fun _ _ _ _ _ _ us hl => match us, hl with | [_, _, _], _ => rfl
  have F10 := fun_mk (st := s__law_weaving) l10 c10 k10
  have B10 := F10.binds (ps := ["_law_box_here"]) fun _ _ _ _ _ _ us hl => match us, hl with | [_], _ => rfl
  have F11 := fun_mk (st := s__law_falls) l11 c11 k11
  have B11 := F11.binds (ps := ["_law_box_here", "_law_weaving_here"]) fun _ _ _ _ _ _ us hl => match us, hl with | [_, _], _ => rfl
  have F12 := fun_mk (st := s__law_whole) l12 c12 k12
  have B12 := F12.binds (ps := ["_law_weaving_here", "_law_falls_here", "_law_line_here"]) fun _ _ _ _ _ _ us hl => match us, hl with | [_, _, _], _ => rfl
  have F13 := fun_mk (st := s__law_stands) l13 c13 k13
  have B13 := F13.binds (ps := ["_law_weaving_here", "_law_falls_here", "_law_group"]) fun _ _ _ _ _ _ us hl => match us, hl with | [_, _, _], _ => rfl
  have F14 := fun_mk (st := s__law_piece_of) l14 c14 k14
  have B14 := F14.binds (ps := ["_law_weaving_here", "_law_lines", "_law_house"]) fun _ _ _ _ _ _ us hl => match us, hl with | [_, _, _], _ => rfl
  have F15 := fun_mk (st := s__law_fars) l15 c15 k15
  have B15 := F15.binds (ps := ["_law_weaving_here", "_law_lines", "_law_root"]) fun _ _ _ _ _ _ us hl => match us, hl with | [_, _, _], _ => rfl
  have F16 := fun_mk (st := s__law_tree) l16 c16 k16
  have B16 := F16.binds (ps := ["_law_weaving_here", "_law_falls_here", "_law_group"]) fun _ _ _ _ _ _ us hl => match us, hl with | [_, _, _], _ => rfl
  have F17 := fun_mk (st := s__law_same) l17 c17 k17
  have B17 := F17.binds (ps := ["_law_found", "_law_due"]) fun _ _ _ _ _ _ us hl => match us, hl with | [_, _], _ => rfl
  have F18 := fun_mk (st := s_law) l18 c18 k18
  have B18 := F18.binds (ps := ["_law_script"]) fun _ _ _ _ _ _ us hl => match us, hl with | [_], _ => rfl
  have hD : ∀ f fn, fns.lookup f = some fn → DefOk K mg cs (fns.map (·.1)) (frsOf fns) f fn := dmap_one ⟨_, _, _, _, _, _, F0, sc_whole_strands, B0, PySem.W.mg_of X G a0, rfl, rfl, ck_whole_strands⟩ (dmap_one ⟨_, _, _, _, _, _, F1, sc_stands, B1, PySem.W.mg_of X G a1, rfl, rfl, ck_stands⟩ (dmap_one ⟨_, _, _, _, _, _, F2, sc_standing, B2, PySem.W.mg_of X G a2, rfl, rfl, ck_standing⟩ (dmap_one ⟨_, _, _, _, _, _, F3, sc_arrows_of, B3, PySem.W.mg_of X G a3, rfl, rfl, ck_arrows_of⟩ (dmap_one ⟨_, _, _, _, _, _, F4, sc_next_row, B4, PySem.W.mg_of X G a4, rfl, rfl, ck_next_row⟩ (dmap_one ⟨_, _, _, _, _, _, F5, sc_told_rows, B5, PySem.W.mg_of X G a5, rfl, rfl, ck_told_rows⟩ (dmap_one ⟨_, _, _, _, _, _, F6, sc__law_box, B6, PySem.W.mg_of X G a6, rfl, rfl, ck__law_box⟩ (dmap_one ⟨_, _, _, _, _, _, F7, sc__law_take, B7, PySem.W.mg_of X G a7, rfl, rfl, ck__law_take⟩ (dmap_one ⟨_, _, _, _, _, _, F8, sc__law_some_groups, B8, PySem.W.mg_of X G a8, rfl, rfl, ck__law_some_groups⟩ (dmap_one ⟨_, _, _, _, _, _, F9, sc__law_line, B9, PySem.W.mg_of X G a9, rfl, rfl, ck__law_line⟩ (dmap_one ⟨_, _, _, _, _, _, F10, sc__law_weaving, B10, PySem.W.mg_of X G a10, rfl, rfl, ck__law_weaving⟩ (dmap_one ⟨_, _, _, _, _, _, F11, sc__law_falls, B11, PySem.W.mg_of X G a11, rfl, rfl, ck__law_falls⟩ (dmap_one ⟨_, _, _, _, _, _, F12, sc__law_whole, B12, PySem.W.mg_of X G a12, rfl, rfl, ck__law_whole⟩ (dmap_one ⟨_, _, _, _, _, _, F13, sc__law_stands, B13, PySem.W.mg_of X G a13, rfl, rfl, ck__law_stands⟩ (dmap_one ⟨_, _, _, _, _, _, F14, sc__law_piece_of, B14, PySem.W.mg_of X G a14, rfl, rfl, ck__law_piece_of⟩ (dmap_one ⟨_, _, _, _, _, _, F15, sc__law_fars, B15, PySem.W.mg_of X G a15, rfl, rfl, ck__law_fars⟩ (dmap_one ⟨_, _, _, _, _, _, F16, sc__law_tree, B16, PySem.W.mg_of X G a16, rfl, rfl, ck__law_tree⟩ (dmap_one ⟨_, _, _, _, _, _, F17, sc__law_same, B17, PySem.W.mg_of X G a17, rfl, rfl, ck__law_same⟩ (dmap_one ⟨_, _, _, _, _, _, F18, sc_law, B18, PySem.W.mg_of X G a18, rfl, rfl, ck_law⟩ (dmap_nil)))))))))))))))))))
  have hb : ∀ x ∈ bltNames, mg x = none := blt_one (PySem.W.mg_none_of X G z0) (blt_one (PySem.W.mg_none_of X G z1) (blt_one (PySem.W.mg_none_of X G z2) (blt_one (PySem.W.mg_none_of X G z3) (blt_one (PySem.W.mg_none_of X G z4) (blt_one (PySem.W.mg_none_of X G z5) (blt_one (PySem.W.mg_none_of X G z6) (blt_one (PySem.W.mg_none_of X G z7) (blt_one (PySem.W.mg_none_of X G z8) (blt_one (PySem.W.mg_none_of X G z9) (blt_one (PySem.W.mg_none_of X G z10) (blt_one (PySem.W.mg_none_of X G z11) (blt_one (PySem.W.mg_none_of X G z12) (blt_one (PySem.W.mg_none_of X G z13) (blt_one (PySem.W.mg_none_of X G z14) (blt_one (PySem.W.mg_none_of X G z15) (blt_one (PySem.W.mg_none_of X G z16) (blt_one (PySem.W.mg_none_of X G z17) (blt_one (PySem.W.mg_none_of X G z18) (blt_one (PySem.W.mg_none_of X G z19) (blt_nil))))))))))))))))))))
  have hc : ∀ x g, cs.lookup x = some g → ∃ u v, mg x = some u ∧ RelV v u ∧ ∀ M L H, Rep K M L H g.d v := cst_nil
  exact ⟨_, fun s v => .of_eq rfl, fun base _ _ => one_av F18 sc_law rfl rfl ck_law hb hc frs_ok rfl (all_av hD hb hc frs_ok k)⟩
end
theorem draws : DrawFns fns := ⟨rfl, rfl, rfl, rfl⟩
theorem rwf : RwFns fns := ⟨rfl, rfl, rfl, rfl, rfl, rfl⟩
theorem ltf : LtFns fns := ⟨rfl, rfl, rfl, rfl, rfl⟩
theorem cut_1 {α : Type} (xs : List α) : cutL xs (some 1) none = xs.drop 1 := cut_from xs 1
theorem dt_tree (w : Wv) (fhs ls : List Nat) (n : Nat) : DtN 2 (.lst ((List.range n).map (treeD w fhs ls))) := .lst (.map fun x _ => by
  unfold treeD
  split
  · exact .non
  · unfold entD
    refine .tup (.cons .int (.cons .int (.cons ?_ .all)))
    split <;> exact .int)
theorem main : ∀ ns : List Int, ns.length ≤ 63 → (∀ z ∈ ns, Builtin.Int.intBits z ≤ 1048576) → ∃ h', callF fns (20 + 1) "law" [.scr ns] [] = some (.bl true, h') := by
  intro ns hl _
  suffices w : WC (callF fns (20 + 1)) "law" [.scr ns] [] fun d _ => d = .bl true by
    obtain ⟨d, h', e, rfl⟩ := w.get
    exact ⟨h', e⟩
  refine c_def rfl rfl ?_
  show WS _ f_law.body [_, _, _, _, _, _, _, _, _, _, _, _, _, _, _, _] _ _
  unfold f_law
  have hlim : lim = 4000000 := rfl
  refine s_for ?_
  repeat kct_strs
  refine ⟨by split <;> omega, by split <;> omega, fun _ ρ _ => ∃ s1 s2 s3 s4 s5 s6 s7 s8 s9 s10 s11 s12 s13 s14 s15, ρ = [.val (.scr ns), s1, s2, s3, s4, s5, s6, s7, s8, s9, s10, s11, s12, s13, s14, s15], ⟨_, _, _, _, _, _, _, _, _, _, _, _, _, _, _, rfl⟩, ?_, fun ρ h ⟨_, _, _, _, _, _, _, _, _, _, _, _, _, _, _, e⟩ => ?_⟩
  rotate_left
  · rw [e]
    repeat kct_strs
    rfl
  rintro i d ρ h ei ⟨s1, s2, s3, s4, s5, s6, s7, s8, s9, s10, s11, s12, s13, s14, s15, rfl⟩
  obtain ⟨hi, rfl⟩ := rng_at0 ei
  refine .mk rfl ?_
  simp only [List.set_cons_zero, List.set_cons_succ]
  repeat kct_strs
  refine box_w rfl ns (by omega) fun h1 _ _ b1 => ?_
  repeat kct_strs
  refine weav_w draws b1 (by decide) fun w h2 wo b2 => ?_
  have f := wo.fit
  have fh := f.h1
  have f0 := f.h0
  have fl := f.l1
  have h4 : ∀ l ∈ w.ls, l.str ≤ 4 := fun l m => (f.l2 l m).s2
  repeat kct_strs
  refine lfalls_w draws rfl f b2 (by decide) fun fa h3 fo b3 => ?_
  repeat kct_strs
  refine x_tup (z := w.hd) rfl ?_
  unfold Wv.hd
  repeat kct_strs
  refine x_tup (z := fa.hd) rfl ?_
  unfold Fa.hd
  repeat kct_strs
  rw [List.length_map, List.length_map]
  have wl := whL_len fo
  have em : D.int ((w.hs.length : Int) - (fa.hs.length : Int)) = nD (whL w fa.hs).length := by
    unfold nD
    rw [show ((w.hs.length : Int) - (fa.hs.length : Int)) = (((whL w fa.hs).length : Nat) : Int) by omega]
  rw [em]
  refine s_for ?_
  repeat kct_strs
  refine ⟨by decide, by decide, fun _ ρ _ => ∃ s6 s7 s8 s9 s10 s11 s12 s13 s14 s15, ρ = [.val (.scr ns), .val (nD i), .val (.ref h.length), .val w.d, .val fa.d, .val (nD (whL w fa.hs).length), s6, s7, s8, s9, s10, s11, s12, s13, s14, s15], ⟨_, _, _, _, _, _, _, _, _, _, rfl⟩, ?_, ?_⟩
  · rintro g d ρ h6 eg ⟨t6, t7, t8, t9, t10, t11, t12, t13, t14, t15, rfl⟩
    obtain ⟨hg, rfl⟩ := rng_at0 eg
    obtain ⟨L, lL, tl⟩ := stp_of f fa g (M := max 1 (whL w fa.hs).length) (by omega) (fun x hx hf => by have := piece_wh (g := g) f hx hf; omega)
    have sz : ∀ M, (∀ x, x < w.hs.length → (pieceL w (standL w fa g) x).length ≤ M) → L ≤ M := fun M hM => by
      obtain ⟨L', l', t'⟩ := stp_of f fa g (M := M) (by have := piece_pos (ls := standL w fa g) f f0; have := hM 0 f0; omega) (fun x hx _ => hM x hx)
      rw [tl.eq t']; exact l'
    have l1 := tl.pos
    have lo := stand_ok (fa := fa) f g
    have last := stp_last f tl
    have dd := dt_tree w fa.hs (standL w fa g) w.hs.length
    have re : ∀ h, callF fns (16 + 4) "told_rows" [w.d, fa.d, nD g] h = some (.lst ((rowsO (arosL w (standL w fa g)) fa.hs w.hs.length L).map rowD), h) := fun h => rows_e rwf f fo tl (by omega)
    have lw : ∀ {P : D → Hs → Prop} {h : Hs}, (∀ h', P (.lst ((List.range w.hs.length).map (treeD w fa.hs (standL w fa g)))) h') → WC (callF fns (17 + 3)) "_law_tree" [w.d, fa.d, nD g] h P := fun q => ltree_w ltf f fo g q
    have sm : ∀ h, callF fns (19 + 1) "_law_same" [.lst ((List.range w.hs.length).map (treeD w fa.hs (standL w fa g))), .lst ((List.range w.hs.length).map (treeD w fa.hs (standL w fa g)))] h = some (.bl true, h) := fun h => same_ok rfl h 19 _ (by have := dd.dep; omega) dd.ok
    have lr : idxD (.lst ((rowsO (arosL w (standL w fa g)) fa.hs w.hs.length L).map rowD)) (.int (-1)) = some (.lst ((List.range w.hs.length).map (treeD w fa.hs (standL w fa g)))) := by
      obtain ⟨L', rfl⟩ : ∃ L', L = L' + 1 := ⟨L - 1, by omega⟩
      rw [rowsO_succ, List.map_append]
      simp only [List.map_cons, List.map_nil]
      rw [Nat.add_sub_cancel] at last
      rw [last]
      exact ixM1
    have rl : ((rowsO (arosL w (standL w fa g)) fa.hs w.hs.length L).map rowD).length = L := by rw [List.length_map, rowsO_len]
    refine .mk rfl ?_
    simp only [List.set_cons_zero, List.set_cons_succ]
    repeat kct_strs
    refine .mk (re _) ?_
    repeat kct_strs
    refine lw fun h7 => ?_
    repeat kct_strs
    refine ⟨fun q => absurd (of_decide_eq_false q) (by rw [rl]; omega), fun _ => ?_⟩
    repeat kct_strs
    refine o_max2 ?_
    repeat kct_strs
    rw [rl]
    have cc : (L : Int) ≤ if ((whL w fa.hs).length : Int) > 1 then ((whL w fa.hs).length : Int) else 1 := by split <;> omega
    rw [decide_eq_true cc]
    repeat kct_strs
    refine x_lst lr ?_
    repeat kct_strs
    refine .mk (sm _) ?_
    repeat kct_strs
    refine w_compm ?_
    repeat kct_strs
    rw [cut_1]
    refine ⟨fun _ => .bl false, fun d m => ?_, ?_⟩
    · obtain ⟨j, ej⟩ := List.getElem?_of_mem m
      obtain ⟨jl, rfl⟩ := rows_pair ej
      refine .mk rfl ?_
      simp only [wipeR, List.set_cons_zero, List.set_cons_succ]
      repeat kct_strs
      refine o_eqD ((dt_row _).dt (by decide)) ((dt_row _).dt (by decide)) ?_
      rw [eqB_row, decide_eq_false (fun q => tl.un (j + 1) (by omega) jl q.symm)]
      exact ⟨rfl, rfl⟩
    repeat kct_strs
    refine o_any (f := fun _ => false) ?_
    rw [show ∀ xs : List D, xs.any (fun _ => false) = false from fun xs => by simp]
    repeat kct_strs
    refine s_for ?_
    repeat kct_strs
    rw [cut_1]
    refine ⟨fun _ ρ _ => ∃ s11 s12 s13 s14, ρ = [.val (.scr ns), .val (nD i), .val (.ref h.length), .val w.d, .val fa.d, .val (nD (whL w fa.hs).length), .val (nD g), t7, t8, .val (.lst ((rowsO (arosL w (standL w fa g)) fa.hs w.hs.length L).map rowD)), .val (.lst ((List.range w.hs.length).map (treeD w fa.hs (standL w fa g)))), s11, s12, s13, s14, t15], ⟨_, _, _, _, rfl⟩, ?_, ?_⟩
    · rintro j d ρ h8 ej ⟨u11, u12, u13, u14, rfl⟩
      obtain ⟨jl, rfl⟩ := rows_pair ej
      refine .mk rfl ?_
      simp only [List.set_cons_zero, List.set_cons_succ]
      refine s_for ?_
      unfold rowD
      repeat kct_strs
      refine ⟨fun _ ρ _ => ∃ s13 s14, ρ = [.val (.scr ns), .val (nD i), .val (.ref h.length), .val w.d, .val fa.d, .val (nD (whL w fa.hs).length), .val (nD g), t7, t8, .val (.lst ((rowsO (arosL w (standL w fa g)) fa.hs w.hs.length L).map rowD)), .val (.lst ((List.range w.hs.length).map (treeD w fa.hs (standL w fa g)))), .val (.lst ((rowO (arosL w (standL w fa g)) fa.hs w.hs.length j).map oD)), .val (.lst ((rowO (arosL w (standL w fa g)) fa.hs w.hs.length (j + 1)).map oD)), s13, s14, t15], ⟨_, _, rfl⟩, ?_, ?_⟩
      · rintro x d ρ h9 ex ⟨v13, v14, rfl⟩
        have e2 := row_pairs ex
        subst e2
        refine .mk rfl ?_
        simp only [List.set_cons_zero, List.set_cons_succ]
        by_cases c : x ∈ fa.hs
        · rw [if_pos c, if_pos c]
          repeat kct_strs
          exact ⟨_, _, rfl⟩
        · rw [if_neg c, if_neg c]
          have dn := row_down (as := arosL w (standL w fa g)) j x
          generalize rowT (arosL w (standL w fa g)) j x = p at dn ⊢
          generalize rowT (arosL w (standL w fa g)) (j + 1) x = q at dn ⊢
          simp only [oD, d3]
          repeat kct_strs
          refine o_gtP ?_
          rw [decide_eq_false dn]
          repeat kct_strs
          exact ⟨_, _, rfl⟩
      · rintro ρ h9 ⟨v13, v14, rfl⟩
        repeat kct_strs
        exact ⟨_, _, _, _, rfl⟩
    · rintro ρ h8 ⟨u11, u12, u13, u14, rfl⟩
      repeat kct_strs
      refine .mk (lstands_e rfl rfl fo h4 (by omega) g) ?_
      repeat kct_strs
      refine w_compm ?_
      repeat kct_strs
      refine x_tup (z := w.hd) rfl ?_
      unfold Wv.hd
      repeat kct_strs
      refine ⟨by rw [List.length_map]; omega, by rw [List.length_map]; omega, szF w (standL w fa g), fun d m => ?_, ?_⟩
      · rw [rngL0, List.length_map, Int.toNat_natCast] at m
        obtain ⟨x, xm, rfl⟩ := List.mem_map.mp m
        refine .mk rfl ?_
        simp only [wipeR, List.set_cons_zero, List.set_cons_succ]
        repeat kct_strs
        refine .mk (lpiece_e rfl f lo (List.mem_range.mp xm)) ?_
        repeat kct_strs
        rw [szF_nat, List.length_map]
        exact ⟨rfl, rfl⟩
      rw [rngL0, List.length_map, Int.toNat_natCast, List.map_map]
      have es : ((List.range w.hs.length).map (szF w (standL w fa g) ∘ nD)) = ((List.range w.hs.length).map fun x => (pieceL w (standL w fa g) x).length).map nD := by
        rw [List.map_map]
        refine List.map_congr_left fun x _ => szF_nat w (standL w fa g) x
      rw [es]
      have zm : ∀ x, x < w.hs.length → (pieceL w (standL w fa g) x).length ∈ (List.range w.hs.length).map fun x => (pieceL w (standL w fa g) x).length := fun x hx => List.mem_map.mpr ⟨x, List.mem_range.mpr hx, rfl⟩
      generalize ((List.range w.hs.length).map fun x => (pieceL w (standL w fa g) x).length) = zs at zm ⊢
      cases zs with
      | nil => have := zm 0 f0; nomatch this
      | cons z zs =>
        repeat kct_strs
        rw [rl]
        refine o_max1N ?_
        repeat kct_strs
        have := sz _ fun x hx => maxN_le _ (zm x hx)
        refine dec2 (fun q => absurd q (by omega)) fun q => ?_
        repeat kct_strs
        exact ⟨_, _, _, _, _, _, _, _, _, _, rfl⟩
  · rintro ρ h6 ⟨t6, t7, t8, t9, t10, t11, t12, t13, t14, t15, rfl⟩
    repeat kct_strs
    exact ⟨_, _, _, _, _, _, _, _, _, _, _, _, _, _, _, rfl⟩
end Lawk16
open PySem PySem.W PyProof.Rows
set_option maxHeartbeats 0 in
theorem PySem.Challenge.cw_namelines_k16_how_soon_they_come_to_it_holds : PySem.Challenge.rw_namelines_k16_how_soon_they_come_to_it.Holds := by
  w_on; o_law; k_head; (case hw => w_witness2)
  k_fill
  refine Ev.walk_ofG (l := PySem.Challenge.rw_namelines_k16_how_soon_they_come_to_it) (n := 63) (k := 20 + 1) (x := "_law_script") (fns := Lawk16.fns) rfl (by decide) rfl ⟨rfl, by decide, by decide⟩ (fun w h Y => PySem.W.kIn_of Y) ?F Lawk16.main
  case F =>
    intro w mg fa h KX G hmg
    refine' Lawk16.all_mk 20 KX G hmg ?a0 ?l0 ?c0 ?k0 ?a1 ?l1 ?c1 ?k1 ?a2 ?l2 ?c2 ?k2 ?a3 ?l3 ?c3 ?k3 ?a4 ?l4 ?c4 ?k4 ?a5 ?l5 ?c5 ?k5 ?a6 ?l6 ?c6 ?k6 ?a7 ?l7 ?c7 ?k7 ?a8 ?l8 ?c8 ?k8 ?a9 ?l9 ?c9 ?k9 ?a10 ?l10 ?c10 ?k10 ?a11 ?l11 ?c11 ?k11 ?a12 ?l12 ?c12 ?k12 ?a13 ?l13 ?c13 ?k13 ?a14 ?l14 ?c14 ?k14 ?a15 ?l15 ?c15 ?k15 ?a16 ?l16 ?c16 ?k16 ?a17 ?l17 ?c17 ?k17 ?a18 ?l18 ?c18 ?k18 ?z0 ?z1 ?z2 ?z3 ?z4 ?z5 ?z6 ?z7 ?z8 ?z9 ?z10 ?z11 ?z12 ?z13 ?z14 ?z15 ?z16 ?z17 ?z18 ?z19
    (case a0 => k_is); (case l0 => k_is); (case c0 => k_is); (case k0 => k_is); (case a1 => k_is); (case l1 => k_is); (case c1 => k_is); (case k1 => k_is); (case a2 => k_is); (case l2 => k_is); (case c2 => k_is); (case k2 => k_is); (case a3 => k_is); (case l3 => k_is); (case c3 => k_is); (case k3 => k_is); (case a4 => k_is); (case l4 => k_is); (case c4 => k_is); (case k4 => k_is); (case a5 => k_is); (case l5 => k_is); (case c5 => k_is); (case k5 => k_is); (case a6 => k_is); (case l6 => k_is); (case c6 => k_is); (case k6 => k_is); (case a7 => k_is); (case l7 => k_is); (case c7 => k_is); (case k7 => k_is); (case a8 => k_is); (case l8 => k_is); (case c8 => k_is); (case k8 => k_is); (case a9 => k_is); (case l9 => k_is); (case c9 => k_is); (case k9 => k_is); (case a10 => k_is); (case l10 => k_is); (case c10 => k_is); (case k10 => k_is); (case a11 => k_is); (case l11 => k_is); (case c11 => k_is); (case k11 => k_is); (case a12 => k_is); (case l12 => k_is); (case c12 => k_is); (case k12 => k_is); (case a13 => k_is); (case l13 => k_is); (case c13 => k_is); (case k13 => k_is); (case a14 => k_is); (case l14 => k_is); (case c14 => k_is); (case k14 => k_is); (case a15 => k_is); (case l15 => k_is); (case c15 => k_is); (case k15 => k_is); (case a16 => k_is); (case l16 => k_is); (case c16 => k_is); (case k16 => k_is); (case a17 => k_is); (case l17 => k_is); (case c17 => k_is); (case k17 => k_is); (case a18 => k_is); (case l18 => k_is); (case c18 => k_is); (case k18 => k_is); (case z0 => k_is); (case z1 => k_is); (case z2 => k_is); (case z3 => k_is); (case z4 => k_is); (case z5 => k_is); (case z6 => k_is); (case z7 => k_is); (case z8 => k_is); (case z9 => k_is); (case z10 => k_is); (case z11 => k_is); (case z12 => k_is); (case z13 => k_is); (case z14 => k_is); (case z15 => k_is); (case z16 => k_is); (case z17 => k_is); (case z18 => k_is); (case z19 => k_is)
