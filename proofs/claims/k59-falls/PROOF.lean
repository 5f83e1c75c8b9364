import PyProof.Rows.All
import HandS.ForMost
import HandS.Exc
import KE.SortData
import KE.DataMinMax
import KE.DataCmp
import HandS.TupMul
import HandS.TupAny
import HandS.SortInts
import HandS.SortRule
import HandS.Style
import HandS.WordsDict
import HandS.TupLen
import HandS.Dict
import HandS.Zip
import HandS.Rev
import HandS.RevRange
import HandS.TryOnly
import HandS.ExcInit
import HandS.ExcField
import HandS.ExcIs
import HandS.IsInst
import KE.GoesEnum
import KE.GoesMore
import KE.GoesZip
import HandS.Conv
import HandS.List
import HandS.Small
import HandS.Defaults
import HandS.Ends
import HandS.HeadEnd
import HandS.Head0
import HandS.Head1
import HandS.Head2
import HandS.HeadHook1
import HandS.HeadHook2
import Wide.All
import OpenK.AllK
import Wide.FinOn
import KE.KStateDown
import PySem.Challenge.RW_stagesfull_k59_work_with_falls
set_option Elab.async false
set_option linter.all false
set_option maxRecDepth 100000
/-! Z1: a small functional interpreter for the subset of Python that the laws are written in.
Data are trees (D); what a name of a frame holds (W) is data that nobody changes any more, or a list, a dict, an instance that this frame alone may change. -/
namespace Z
open PySem

inductive D where
  | non
  | bl (b : Bool)
  | int (i : Int)
  | str (s : Str)
  | tup (l : List D)
  | lst (l : List D)
  | dic (t : Bool) (l : List (D × D))
  | ins (c : String) (fs : List (String × D))
  deriving Inhabited

/-- a field's content -/
inductive Fw where
  | sh (d : D)
  | ol (l : List D)
  | od (t : Bool) (l : List (D × D))

abbrev Xfs := List (String × D)

/-- a name's content -/
inductive W where
  | sh (d : D)
  | ol (l : List D)
  | od (t : Bool) (l : List (D × D))
  | oi (c : String) (fs : List (String × Fw))
  | xc (c : String) (fs : Xfs)
  deriving Inhabited

def Fw.frz : Fw → D
  | .sh d => d
  | .ol l => .lst l
  | .od t l => .dic t l
def frzF : List (String × Fw) → Xfs
  | [] => []
  | (n, w) :: r => (n, w.frz) :: frzF r
def W.frz : W → D
  | .sh d => d
  | .ol l => .lst l
  | .od t l => .dic t l
  | .oi c fs => .ins c (frzF fs)
  | .xc c fs => .ins c fs

def lkF {α : Type} : List (String × α) → String → Option α
  | [], _ => none
  | (n, a) :: r, f => if n = f then some a else lkF r f
def putW : List (String × Fw) → String → Fw → List (String × Fw)
  | [], f, w => [(f, w)]
  | (n, a) :: r, f, w => if n = f then (n, w) :: r else (n, a) :: putW r f w
def W.fw : W → Fw
  | .ol l => .ol l
  | .od t l => .od t l
  | w => .sh w.frz
abbrev Env := List (Option W)

inductive R (α : Type) where
  | ok (a : α)
  | ex (c : String) (fs : Xfs) (ρ : Env)
  | bad
def R.bind {α β : Type} (r : R α) (f : α → R β) : R β := match r with
  | .ok a => f a
  | .ex c fs ρ => .ex c fs ρ
  | .bad => .bad
/-- no exception -/
def R.nox {α : Type} (r : R α) : R α := match r with
  | .ok a => .ok a
  | _ => .bad
@[simp] theorem bind_ok {α β : Type} (a : α) (f : α → R β) : (R.ok a).bind f = f a := rfl
@[simp] theorem bind_ex {α β : Type} (c fs ρ) (f : α → R β) : (R.ex c fs ρ).bind f = .ex c fs ρ := rfl
@[simp] theorem bind_bad {α β : Type} (f : α → R β) : (R.bad).bind f = .bad := rfl
@[simp] theorem nox_ok {α : Type} (a : α) : (R.ok a).nox = .ok a := rfl
def ofO {α : Type} : Option α → R α
  | some a => .ok a
  | none => .bad
@[simp] theorem ofO_some {α : Type} (a : α) : ofO (some a) = .ok a := rfl

/-- what a call gives: its value, what its arguments are behind it; or an exception -/
inductive RF where
  | ok (w : W) (outs : List W)
  | ex (c : String) (fs : Xfs)
  | bad

inductive Bop where
  | add | sub | mul | fdiv | mod | pow
inductive Cop where
  | eq | ne | lt | le | gt | ge | isin | notin | is_ | isnot
inductive Ty where
  | int | bool | str | list | tuple | own (c : String)
inductive Bi where
  | len | abs | int | str | repr | max2 | min2 | max1 | min1 | sum | sorted | tuple | list | all | any | isa (ts : List Ty)

/-- a target -/
inductive T where
  | v (i : Nat)
  | t (l : List T)

mutual
inductive E where
  | var (i : Nat)
  | int (i : Int)
  | str (s : Str)
  | bl (b : Bool)
  | non
  | bin (o : Bop) (a b : E)
  | cmp (o : Cop) (a b : E)
  | chn (o o' : Cop) (a b c : E)
  | neg (a : E)
  | not (a : E)
  | and (l : List E)
  | or (l : List E)
  | ite (t a b : E)
  | tup (l : List E)
  | lst (l : List E)
  | dic (t : Bool)
  | ix (a i : E)
  | sl (a lo hi : E)
  | rvs (a : E)
  | fld (a : E) (f : String)
  | call (f : String) (l : List E)
  | callk (f : String) (l : List E) (kws : List String)
  | mk (c : String) (l : List E)
  | meth (a : E) (m : String) (l : List E)
  | bi (b : Bi) (l : List E)
  | comp (e : E) (t : T) (it : I) (cs : List E) (own : List Nat)
  | ofI (b : Bool) (it : I)
  | tupRev (a : E)
  | gint (x : String) (i : Int)
  | gstr (x : String) (s : Str)
  | pix (a b : E)
  | pcmp (o : Cop) (a b : E)
  | plen (a : E)
  | lenI (a : E)
  | isc (a : E) (c : String)
  | idx (a x : E)
  | methO (a : E) (m : String) (l : List E)
  | calls (sk : String) (l kl : List E)
  | get2 (a x d : E)
  | dicl (ks : List Str) (l : List E)
  | popF (i : Nat) (f : String)
inductive I where
  | e (a : E)
  | rng (l : List E)
  | zip (a b : E)
  | enum (a : E)
  | rev (a : E)
  | revr (l : List E)
end

inductive S where
  | asg (t : T) (e : E)
  | asgo (i : Nat) (e : E)
  | par (i j : Nat) (a b : E)
  | par3 (i j l : Nat) (a b c : E)
  | seti (i : Nat) (x e : E)
  | swp (i : Nat) (x y a b : E)
  | aug (i : Nat) (o : Bop) (e : E)
  | app (i : Nat) (e : E)
  | ext (i : Nat) (e : E)
  | ex (e : E)
  | ife (t : E) (a b : List S)
  | for (t : T) (it : I) (b : List S)
  | whl (t : E) (b : List S)
  | ret (e : E)
  | reto (e : E)
  | retn
  | rse (c : String) (ns : List String) (l : List E)
  | trye (b : List S) (c : String) (i : Nat) (h : List S)
  | cnt | brk | pass
  | setf (i : Nat) (f : String) (e : E)
  | setif (i : Nat) (f : String) (x e : E)
  | augf (i : Nat) (o : Bop) (f : String) (e : E)
  | dead
  | fgt (l : List Nat)
  | frz (l : List Nat)

/-! ### what a call of the interpreter leans on -/
/-- how a def is called: so many arguments by place, these by name, these parameters by their defaults -/
structure Sh where
  n : Nat
  ks : List String
  dv : List (Option D)
/-- the module's constants; which class leaves which name to its instances; which def a class's method, its __init__ is -/
structure GX where
  ci : List (String × Int) := []
  cs : List (String × Str) := []
  at_ : List (String × String) := []
  mt : List ((String × String) × String) := []
  ini : List (String × String) := []
  /-- exception classes: what their __init__ stores; which is which; instances' classes; classes that no plain data are of -/
  exa : List (String × List String) := []
  esb : List ((String × String) × Bool) := []
  isx : List ((String × String) × Bool) := []
  isd : List String := []
  cls : List String := []
  shp : List (String × (String × Sh)) := []
  nop : List String := []
def GX.atB (g : GX) (c f : String) : Bool := g.at_.contains (c, f)
def GX.mtO (g : GX) (c m : String) : Option String := g.mt.lookup (c, m)
def GX.mkO (g : GX) (c : String) : Option String := g.ini.lookup c
def GX.exB (g : GX) (c f : String) : Bool := match g.exa.lookup c with
  | some ns => ns.contains f
  | none => false
structure Cl where
  c : String → List W → RF
  br : String → List Bool
  wf : Nat
  ini : String → List W → RF
  g : GX
  n : Nat := 0

/-! ### slots -/
def gt : Env → Nat → Option W
  | [], _ => none
  | o :: _, 0 => o
  | _ :: l, n + 1 => gt l n
def st : Env → Nat → Option W → Env
  | [], _, _ => []
  | _ :: l, 0, w => w :: l
  | o :: l, n + 1, w => o :: st l n w
def wipeE (ρ : Env) : List Nat → Env
  | [] => ρ
  | i :: r => st (wipeE ρ r) i none
def shO : Option W → Option W
  | some (.sh d) => some (.sh d)
  | _ => none
/-- a slot's own thing is frozen -/
def frzW : W → W
  | .sh d => .sh d
  | .xc c fs => .xc c fs
  | w => .sh w.frz
def frz1 (ρ : Env) (i : Nat) : Env := match gt ρ i with
  | some w => st ρ i (some (frzW w))
  | none => ρ
def frzE (ρ : Env) : List Nat → Env
  | [] => ρ
  | i :: r => frz1 (frzE ρ r) i
def restE (ρ0 ρ : Env) : List Nat → Env
  | [] => ρ
  | i :: r => st (restE ρ0 ρ r) i (shO (gt ρ0 i))

/-! ### data -/
def line : Nat := 16777216
def mulOk (i j : Int) : Bool := decide (-(2 ^ 64) < i ∧ i < 2 ^ 64) || decide (-(2 ^ 64) < j ∧ j < 2 ^ 64)
mutual
def toP : D → Option PyData
  | .non => some .none
  | .bl b => some (.bool b)
  | .int i => some (.int i)
  | .str s => some (.str s)
  | .tup l => (toPs l).map .tuple
  | .lst l => (toPs l).map .list
  | .dic _ _ => none
  | .ins _ _ => none
def toPs : List D → Option (List PyData)
  | [] => some []
  | d :: l => match toP d, toPs l with
    | some p, some q => some (p :: q)
    | _, _ => none
end
abbrev Key := Sum Int Str
def key1 : D → Option Key
  | .int i => some (.inl i)
  | .str s => some (.inr s)
  | _ => none
def keys1 : List D → Option (List Key)
  | [] => some []
  | d :: l => match key1 d, keys1 l with
    | some p, some q => some (p :: q)
    | _, _ => none
/-- a dict's key: a text or an int; a tuple of such -/
def keyD (t : Bool) (d : D) : Option (List Key) := match t, d with
  | false, d => (key1 d).map fun k => [k]
  | true, .tup l => keys1 l
  | _, _ => none
def dget (t : Bool) (k : List Key) (l : List (D × D)) : Option D := (l.find? fun p => decide (keyD t p.1 = some k)).map (·.2)
def dput (t : Bool) (k : List Key) (a b : D) (l : List (D × D)) : List (D × D) :=
  if (l.any fun p => decide (keyD t p.1 = some k)) = true then l.map fun p => if keyD t p.1 = some k then (p.1, b) else p else l ++ [(a, b)]
def truD : D → Option Bool
  | .non => some false
  | .bl b => some b
  | .int i => some (i != 0)
  | .str s => if s.length ≤ line then some ((s.length : Int) != 0) else none
  | .tup l => some !l.isEmpty
  | .lst l => some !l.isEmpty
  | .dic false l => some !l.isEmpty
  | _ => none
def ixI (n : Nat) (i : Int) : Option Nat := if 0 ≤ i then (if i < n then some i.toNat else none) else if -(n : Int) ≤ i then some (i + n).toNat else none
def getL {α : Type} (l : List α) (i : Int) : Option α := (ixI l.length i).bind fun j => l[j]?
def setL {α : Type} (l : List α) (i : Int) (a : α) : Option (List α) := (ixI l.length i).map fun j => l.set j a

def binO (o : Bop) (x y : D) : R W := match o, x, y with
  | .add, .int i, .int j => .ok (.sh (.int (i + j)))
  | .add, .str a, .str b => if a.length + b.length ≤ line then .ok (.sh (.str (a ++ b))) else .bad
  | .add, .lst a, .lst b => if a.length + b.length ≤ line then .ok (.ol (a ++ b)) else .bad
  | .add, .tup a, .tup b => if a.length + b.length ≤ line then .ok (.sh (.tup (a ++ b))) else .bad
  | .sub, .int i, .int j => .ok (.sh (.int (i - j)))
  | .mul, .int i, .int j => if mulOk i j then .ok (.sh (.int (i * j))) else .bad
  | .mul, .lst l, .int k => if -(2 ^ 63) ≤ k ∧ k < 2 ^ 63 ∧ l.length * k.toNat ≤ line then .ok (.ol (List.replicate k.toNat l).flatten) else .bad
  | .mul, .tup l, .int k => if l.isEmpty = false ∧ 1 ≤ k ∧ k ≤ 1000 ∧ l.length ≤ 1000 then .ok (.sh (.tup (List.replicate k.toNat l).flatten)) else .bad
  | .fdiv, .int i, .int j => if 0 < j ∧ j < 1073741824 then .ok (.sh (.int (i / j))) else .bad
  | .mod, .int i, .int j => if 0 < j then .ok (.sh (.int (i % j))) else .bad
  | .pow, .int i, .int j => if 0 ≤ j ∧ j ≤ 1000000 ∧ i.natAbs < 2 ^ 64 then .ok (.sh (.int (i ^ j.toNat))) else .bad
  | _, _, _ => .bad
def eqO (x y : D) : Option Bool := match toP x, toP y with
  | some a, some b => if SeqAt.shaped a && SeqAt.shaped b then some (PyData.eqv a b) else none
  | _, _ => none
/-! order of data -/
mutual
def ofP : PyData → D
  | .none => .non
  | .bool b => .bl b
  | .int i => .int i
  | .str s => .str s
  | .tuple l => .tup (ofPs l)
  | .list l => .lst (ofPs l)
  | .dict _ => .non
def ofPs : List PyData → List D
  | [] => []
  | p :: l => ofP p :: ofPs l
end
def encD (d : D) : PyData := (toP d).getD .none
def notNone : PyData → Bool
  | .none => false
  | _ => true
def ltO (x y : D) : Option Bool := match toP x, toP y with
  | some p, some q => if PySem.W.alike p q && (notNone p && decide (p.depth ≤ 56)) then some (PySem.W.dataLt p q) else none
  | _, _ => none
def allAlike (l : List PyData) : Bool := l.all fun a => l.all fun b => PySem.W.alike a b
def tupP : PyData → Bool
  | .tuple (_ :: _) => true
  | _ => false
def othP : PyData → Bool
  | .none => false
  | .tuple _ => false
  | _ => true
def leD (a b : D) : Bool := PySem.W.dataLe false encD a b
def sortG (l : List D) : Option (List D) := match toPs l with
  | some ps => if allAlike ps && ((ps.all tupP || ps.all othP) && (ps.all (fun p => decide (p.depth ≤ 56)) && decide (l.length ≤ line))) then some (l.mergeSort leD) else none
  | none => none
def minO (l : List D) : Option D := match toPs l with
  | some (p :: ps) => if allAlike (p :: ps) && ((p :: ps).all notNone && decide (PyData.depthAll (p :: ps) ≤ 56)) then some (ofP (PySem.W.minD p ps)) else none
  | _ => none
def maxO (l : List D) : Option D := match toPs l with
  | some (p :: ps) => if allAlike (p :: ps) && ((p :: ps).all notNone && decide (PyData.depthAll (p :: ps) ≤ 56)) then some (ofP (PySem.W.maxD p ps)) else none
  | _ => none
/-- flat data: None, bools, ints, texts -/
def flatD : D → Bool
  | .non => true
  | .bl _ => true
  | .int _ => true
  | .str _ => true
  | _ => false
def toV : D → L2.V
  | .non => .non
  | .bl b => .bl b
  | .int i => .int i
  | .str s => .str s
  | _ => .non
def inO (x : D) (l : List D) : Option Bool :=
  if flatD x && l.all flatD then some (L2.inV (toV x) (l.map toV)) else none
def isNon : D → Bool
  | .non => true
  | _ => false
def cmpO (o : Cop) (x y : D) : R W := match o, x, y with
  | .eq, x, y => (ofO (eqO x y)).bind fun b => .ok (.sh (.bl b))
  | .ne, x, y => (ofO (eqO x y)).bind fun b => .ok (.sh (.bl !b))
  | .lt, .int i, .int j => .ok (.sh (.bl (decide (i < j))))
  | .le, .int i, .int j => .ok (.sh (.bl (decide (i ≤ j))))
  | .gt, .int i, .int j => .ok (.sh (.bl (decide (j < i))))
  | .ge, .int i, .int j => .ok (.sh (.bl (decide (j ≤ i))))
  | .lt, x, y => (ofO (ltO x y)).bind fun b => .ok (.sh (.bl b))
  | .gt, x, y => (ofO (ltO y x)).bind fun b => .ok (.sh (.bl b))
  | .isin, x, .lst l => (ofO (inO x l)).bind fun b => .ok (.sh (.bl b))
  | .isin, x, .tup l => (ofO (inO x l)).bind fun b => .ok (.sh (.bl b))
  | .notin, x, .lst l => (ofO (inO x l)).bind fun b => .ok (.sh (.bl !b))
  | .notin, x, .tup l => (ofO (inO x l)).bind fun b => .ok (.sh (.bl !b))
  | .isin, x, .dic t l => (ofO (keyD t x)).bind fun k => .ok (.sh (.bl (dget t k l).isSome))
  | .notin, x, .dic t l => (ofO (keyD t x)).bind fun k => .ok (.sh (.bl !(dget t k l).isSome))
  | .is_, .bl a, .bl b => .ok (.sh (.bl (decide (a = b))))
  | .isnot, .bl a, .bl b => .ok (.sh (.bl (!decide (a = b))))
  | .is_, x, .non => .ok (.sh (.bl (isNon x)))
  | .isnot, x, .non => .ok (.sh (.bl !(isNon x)))
  | _, _, _ => .bad
def ixO (x i : D) : R W := match x, i with
  | .lst l, .int i => (ofO (getL l i)).bind fun d => .ok (.sh d)
  | .tup l, .int i => (ofO (getL l i)).bind fun d => .ok (.sh d)
  | .str s, .int i => if s.length ≤ line then (ofO (getL s.cps.toList i)).bind fun c => .ok (.sh (.str ⟨#[c]⟩)) else .bad
  | .dic t l, k => (ofO (keyD t k)).bind fun k => (ofO (dget t k l)).bind fun d => .ok (.sh d)
  | _, _ => .bad
def sIx (n d : Nat) : Option Int → Nat
  | none => d
  | some v => if v < 0 then (v + (n : Int)).toNat else min v.toNat n
def cut {α : Type} (l : List α) (lo hi : Option Int) : List α := (l.drop (sIx l.length 0 lo)).take (sIx l.length l.length hi - sIx l.length 0 lo)
def slO (x : D) (lo hi : Option Int) : R W := match x with
  | .lst l => .ok (.ol (cut l lo hi))
  | .tup l => .ok (.sh (.tup (cut l lo hi)))
  | _ => .bad
def intsOf : List D → Option (List Int)
  | [] => some []
  | .int i :: l => (intsOf l).map (i :: ·)
  | _ :: _ => none
def blsOf : List D → Option (List Bool)
  | [] => some []
  | .bl i :: l => (blsOf l).map (i :: ·)
  | _ :: _ => none
def pairsOf : List D → Option (List (Int × Int))
  | [] => some []
  | .tup [.int i, .int j] :: l => (pairsOf l).map ((i, j) :: ·)
  | _ :: _ => none
def maxI : Int → List Int → Int
  | m, [] => m
  | m, x :: l => maxI (if m < x then x else m) l
def minI : Int → List Int → Int
  | m, [] => m
  | m, x :: l => minI (if x < m then x else m) l
def leP (a b : Int × Int) : Bool := decide (a.1 < b.1 ∨ (a.1 = b.1 ∧ a.2 ≤ b.2))
def sortO (l : List D) : Option (List D) := match intsOf l with
  | some ns => some ((ns.mergeSort fun a b => decide (a ≤ b)).map .int)
  | none => match pairsOf l with
    | some ps => some ((ps.mergeSort leP).map fun p => .tup [.int p.1, .int p.2])
    | none => sortG l
def isaD : Ty → D → Bool
  | .int, .int _ => true
  | .int, .bl _ => true
  | .bool, .bl _ => true
  | .str, .str _ => true
  | .list, .lst _ => true
  | .tuple, .tup _ => true
  | .own c, .ins c' _ => c == c'
  | _, _ => false
def isIns : D → Bool
  | .ins _ _ => true
  | _ => false
def reprO (d : D) : Option Str := match toP d with
  | some p => if p.showable && !p.hasDict && decide (p.depth ≤ 32) && decide (p.shown.length ≤ line) then some p.shown else none
  | none => none
def biO (b : Bi) (l : List D) : R W := match b, l with
  | .len, [.lst l] => .ok (.sh (.int l.length))
  | .len, [.tup l] => .ok (.sh (.int l.length))
  | .len, [.str s] => if s.length ≤ line then .ok (.sh (.int s.length)) else .bad
  | .len, [.dic _ l] => .ok (.sh (.int l.length))
  | .abs, [.int i] => .ok (.sh (.int (if i < 0 then -i else i)))
  | .int, [.int i] => .ok (.sh (.int i))
  | .int, [.bl b] => .ok (.sh (.int (if b then 1 else 0)))
  | .str, [.int i] => if i.natAbs.log2 < 1920 then .ok (.sh (.str (toString i))) else .bad
  | .repr, [d] => (ofO (reprO d)).bind fun s => .ok (.sh (.str s))
  | .max2, [.int i, .int j] => .ok (.sh (.int (if j > i then j else i)))
  | .min2, [.int i, .int j] => .ok (.sh (.int (if j < i then j else i)))
  | .max1, [.lst l] => match intsOf l with
    | some (m :: r) => .ok (.sh (.int (maxI m r)))
    | some [] => .bad
    | none => (ofO (maxO l)).bind fun d => .ok (.sh d)
  | .min1, [.lst l] => match intsOf l with
    | some (m :: r) => .ok (.sh (.int (minI m r)))
    | some [] => .bad
    | none => (ofO (minO l)).bind fun d => .ok (.sh d)
  | .sum, [.lst l] => (ofO (intsOf l)).bind fun ns => .ok (.sh (.int ns.sum))
  | .sum, [.tup l] => (ofO (intsOf l)).bind fun ns => .ok (.sh (.int ns.sum))
  | .sorted, [.lst l] => (ofO (sortO l)).bind fun r => .ok (.ol r)
  | .tuple, [.lst l] => .ok (.sh (.tup l))
  | .tuple, [.tup l] => .ok (.sh (.tup l))
  | .list, [.lst l] => .ok (.ol l)
  | .list, [.tup l] => .ok (.ol l)
  | .all, [.lst l] => (ofO (blsOf l)).bind fun bs => .ok (.sh (.bl (bs.all id)))
  | .any, [.lst l] => (ofO (blsOf l)).bind fun bs => .ok (.sh (.bl (bs.any id)))
  | .isa ts, [d] => if isIns d then .bad else .ok (.sh (.bl (ts.any fun t => isaD t d)))
  | _, _ => .bad
def itemsO (d : D) : Option (List D) := match d with
  | .lst l => some l
  | .tup l => some l
  | _ => none
def rngL (i c : Int) (n : Nat) : List D := (List.range n).map fun (k : Nat) => D.int (i + (k : Int) * c)
def within (i : Int) : Bool := decide (-(2 ^ 62) ≤ i ∧ i < 2 ^ 62)
def rngO (l : List D) : Option (List D) := match l with
  | [.int j] => if within j && decide (j.toNat ≤ line) then some (rngL 0 1 j.toNat) else none
  | [.int i, .int j] => if within i && within j && decide ((j - i).toNat ≤ line) then some (rngL i 1 (j - i).toNat) else none
  | [.int i, .int j, .int c] => if c ≠ 0 ∧ c.natAbs < 1073741824 ∧ Builtin.Range.small i j c = true ∧ Builtin.Range.rangeSize i j c = ((Builtin.Range.rangeSize i j c).toNat : Int) ∧ (Builtin.Range.rangeSize i j c).toNat ≤ line then some (rngL i c (Builtin.Range.rangeSize i j c).toNat) else none
  | _ => none
def revrO (l : List D) : Option (List D) := (rngO l).map List.reverse
def zipD : List D → List D → List D
  | a :: l, b :: m => .tup [a, b] :: zipD l m
  | _, _ => []
def enumD : Int → List D → List D
  | _, [] => []
  | i, a :: l => .tup [.int i, a] :: enumD (i + 1) l

def zipO (l : List D) : Option (List D) := match l with
  | [.lst a, .lst b] => some (zipD a b)
  | [.tup a, .tup b] => some (zipD a b)
  | [.tup a, .lst b] => some (zipD a b)
  | [.lst a, .tup b] => some (zipD a b)
  | _ => none
def enumO (l : List D) : Option (List D) := match l with
  | [.lst a] => some (enumD 0 a)
  | [.tup a] => some (enumD 0 a)
  | _ => none

/-! ### targets -/
mutual
def setT : T → D → Env → R Env
  | .v i, d, ρ => .ok (st ρ i (some (.sh d)))
  | .t ts, .tup ds, ρ => setTs ts ds ρ
  | .t ts, .lst ds, ρ => setTs ts ds ρ
  | .t _, _, _ => .bad
def setTs : List T → List D → Env → R Env
  | [], [], ρ => .ok ρ
  | t :: ts, d :: ds, ρ => (setT t d ρ).bind fun ρ' => setTs ts ds ρ'
  | _, _, _ => .bad
end

/-! ### operands -/
inductive Opd where
  | v (d : D)
  | p (i : Nat)
def look (ρ : Env) : Opd → R D
  | .v d => .ok d
  | .p i => match gt ρ i with
    | some (.sh d) => .ok d
    | some (.ol l) => .ok (.lst l)
    | some (.od t l) => .ok (.dic t l)
    | _ => .bad
/-- an operand that is read at once: a name's own list stays the name's own -/
def opdV (i : Nat) (ρ : Env) : R (Opd × Env) := match gt ρ i with
  | some (.sh d) => .ok (.v d, ρ)
  | some (.ol _) => .ok (.p i, ρ)
  | some (.od _ _) => .ok (.p i, ρ)
  | _ => .bad
/-- a name is read: its own list is nobody's own any more -/
def evVar (i : Nat) (ρ : Env) : R (W × Env) := match gt ρ i with
  | some (.sh d) => .ok (.sh d, ρ)
  | some (.xc _ _) => .bad
  | some w => .ok (.sh w.frz, st ρ i (some (.sh w.frz)))
  | none => .bad
def looks (ρ : Env) : List Opd → R (List D)
  | [] => .ok []
  | o :: r => (look ρ o).bind fun d => (looks ρ r).bind fun ds => .ok (d :: ds)

/-- an argument: data, or a name's own list handed on -/
inductive Arg where
  | v (d : D)
  | r (i : Nat)
def argV (i : Nat) (ρ : Env) : R (Arg × Env) := match gt ρ i with
  | some (.sh d) => .ok (.v d, ρ)
  | some (.xc _ _) => .bad
  | some _ => .ok (.r i, ρ)
  | none => .bad
def argW (ρ : Env) : List Arg → R (List W)
  | [] => .ok []
  | .v d :: r => (argW ρ r).bind fun l => .ok (.sh d :: l)
  | .r i :: r => match gt ρ i with
    | some w => (argW ρ r).bind fun l => .ok (w :: l)
    | none => .bad
def refsOf : List Arg → List Nat
  | [] => []
  | .v _ :: r => refsOf r
  | .r i :: r => i :: refsOf r
def back (ρ : Env) : List Arg → List W → Env
  | .r i :: as, w :: ws => back (st ρ i (some w)) as ws
  | .v _ :: as, _ :: ws => back ρ as ws
  | _, _ => ρ
def callO (k : Cl) (f : String) (as : List Arg) (ρ : Env) : R (W × Env) :=
  if (refsOf as).Nodup then (argW ρ as).bind fun ws => match k.c f ws with
    | .ok w outs => .ok (w, back ρ as outs)
    | .ex c fs => if refsOf as = [] then .ex c fs ρ else .bad
    | .bad => .bad
  else .bad

/-! ### loops -/
inductive Fl where
  | nx | brk | cnt
  | rt (w : W)
def forL (t : T) (b : Env → R (Fl × Env)) : List D → Env → R (Fl × Env)
  | [], ρ => .ok (.nx, ρ)
  | d :: ds, ρ => (setT t d ρ).bind fun ρ1 => (b ρ1).bind fun x => match x.1 with
    | .nx => forL t b ds x.2
    | .cnt => forL t b ds x.2
    | .brk => .ok (.nx, x.2)
    | .rt w => .ok (.rt w, x.2)
def whlL (c : Env → R (Bool × Env)) (b : Env → R (Fl × Env)) : Nat → Env → R (Fl × Env)
  | 0, _ => .bad
  | n + 1, ρ => (c ρ).bind fun y => match y.1 with
    | false => .ok (.nx, y.2)
    | true => (b y.2).bind fun x => match x.1 with
      | .nx => whlL c b n x.2
      | .cnt => whlL c b n x.2
      | .brk => .ok (.nx, x.2)
      | .rt w => .ok (.rt w, x.2)
/-- a comprehension's turns: f tests and makes an item -/
def cmpL (t : T) (own : List Nat) (f : Env → R (Option D × Env)) : List D → Env → R (List D × Env)
  | [], ρ => .ok ([], ρ)
  | d :: ds, ρ => (setT t d (wipeE ρ own)).bind fun ρ1 => (f ρ1).bind fun x => (cmpL t own f ds x.2).bind fun y => .ok (x.1.toList ++ y.1, y.2)

/-! ### expressions -/
/-- what an expression means: its value; as an operand; as an argument by reference; as a test -/
structure Dn where
  v : Env → R (W × Env)
  o : Env → R (Opd × Env)
  r : Env → R (Arg × Env)
  t : Env → R (Bool × Env)
abbrev DV := Env → R (W × Env)
def oOf (v : DV) : Env → R (Opd × Env) := fun ρ => (v ρ).bind fun x => .ok (.v x.1.frz, x.2)
def rOf (v : DV) : Env → R (Arg × Env) := fun ρ => (v ρ).bind fun x => .ok (.v x.1.frz, x.2)
def tOf (o : Env → R (Opd × Env)) : Env → R (Bool × Env) := fun ρ => (o ρ).bind fun x => (look x.2 x.1).bind fun d => (ofO (truD d)).bind fun b => .ok (b, x.2)
def mkD (v : DV) : Dn := ⟨v, oOf v, rOf v, tOf (oOf v)⟩
def mkT (v : DV) (t : Env → R (Bool × Env)) : Dn := ⟨v, oOf v, rOf v, t⟩
def dC (d : D) : DV := fun ρ => .ok (.sh d, ρ)
def dOp (f : D → D → R W) (a b : Dn) : DV := fun ρ => (a.o ρ).bind fun x => (b.o x.2).bind fun y =>
  (look y.2 x.1).bind fun p => (look y.2 y.1).bind fun q => (f p q).bind fun w => .ok (w, y.2)
def dChn (o o' : Cop) (a b c : Dn) : DV := fun ρ => (a.v ρ).bind fun x => (b.v x.2).bind fun y => (cmpO o x.1.frz y.1.frz).bind fun w => match w with
  | .sh (.bl false) => .ok (.sh (.bl false), y.2)
  | .sh (.bl true) => (c.v y.2).bind fun z => (cmpO o' y.1.frz z.1.frz).bind fun v => .ok (v, z.2)
  | _ => .bad
def dNeg (a : Dn) : DV := fun ρ => (a.v ρ).bind fun x => match x.1 with
  | .sh (.int i) => .ok (.sh (.int (-i)), x.2)
  | _ => .bad
def dNot (a : Dn) : DV := fun ρ => (tOf a.o ρ).bind fun x => .ok (.sh (.bl !x.1), x.2)
def dAnd : List Dn → DV
  | [], _ => .bad
  | [a], ρ => a.v ρ
  | a :: l, ρ => (a.v ρ).bind fun x => match x.1 with
      | .sh (.bl true) => dAnd l x.2
      | .sh (.bl false) => .ok (.sh (.bl false), x.2)
      | _ => .bad
def dOr : List Dn → DV
  | [], _ => .bad
  | [a], ρ => a.v ρ
  | a :: l, ρ => (a.v ρ).bind fun x => match x.1 with
      | .sh (.bl false) => dOr l x.2
      | .sh (.bl true) => .ok (.sh (.bl true), x.2)
      | _ => .bad
def dAndT : List Dn → Env → R (Bool × Env)
  | [], ρ => .ok (true, ρ)
  | a :: l, ρ => (a.t ρ).bind fun x => match x.1 with
      | true => dAndT l x.2
      | false => .ok (false, x.2)
def dOrT : List Dn → Env → R (Bool × Env)
  | [], ρ => .ok (false, ρ)
  | a :: l, ρ => (a.t ρ).bind fun x => match x.1 with
      | true => .ok (true, x.2)
      | false => dOrT l x.2
def dNotT (a : Dn) : Env → R (Bool × Env) := fun ρ => (a.t ρ).bind fun x => .ok (!x.1, x.2)
def dIte (t a b : Dn) : DV := fun ρ => (t.t ρ).bind fun x => match x.1 with
  | true => a.v x.2
  | false => b.v x.2
def dIteT (t a b : Dn) : Env → R (Bool × Env) := fun ρ => (t.t ρ).bind fun x => match x.1 with
  | true => a.t x.2
  | false => b.t x.2
/-- the values, from the left -/
def dVs : List Dn → Env → R (List D × Env)
  | [], ρ => .ok ([], ρ)
  | a :: l, ρ => (a.v ρ).bind fun x => (dVs l x.2).bind fun y => .ok (x.1.frz :: y.1, y.2)
/-- the operands, from the left -/
def dOs : List Dn → Env → R (List Opd × Env)
  | [], ρ => .ok ([], ρ)
  | a :: l, ρ => (a.o ρ).bind fun x => (dOs l x.2).bind fun y => .ok (x.1 :: y.1, y.2)
/-- the arguments, from the left -/
def dAs : List Dn → List Bool → Env → R (List Arg × Env)
  | [], _, ρ => .ok ([], ρ)
  | a :: l, bs, ρ => (if bs.headD false then a.r ρ else rOf a.v ρ).bind fun x => (dAs l bs.tail x.2).bind fun y => .ok (x.1 :: y.1, y.2)
def dTup (l : List Dn) : DV := fun ρ => (dVs l ρ).bind fun x => if x.1.length ≤ line then .ok (.sh (.tup x.1), x.2) else .bad
def dLst (l : List Dn) : DV := fun ρ => (dVs l ρ).bind fun x => if x.1.length ≤ line then .ok (.ol x.1, x.2) else .bad
def dPart : Option Dn → Env → R (Option Int × Env)
  | none, ρ => .ok (none, ρ)
  | some d, ρ => (d.v ρ).bind fun x => match x.1 with
    | .sh (.int i) => .ok (some i, x.2)
    | _ => .bad
def dSl (a : Dn) (lo hi : Option Dn) : DV := fun ρ => (a.o ρ).bind fun x => (dPart lo x.2).bind fun y => (dPart hi y.2).bind fun z =>
  (look z.2 x.1).bind fun p => (slO p y.1 z.1).bind fun w => .ok (w, z.2)
def optD (e : E) (d : Dn) : Option Dn := match e with
  | .non => none
  | _ => some d
def dCall (k : Cl) (f : String) (l : List Dn) : DV := fun ρ => (dAs l (k.br f) ρ).bind fun x => callO k f x.1 x.2
/-- given arguments and defaults, in the parameters' order -/
def mergeG {α : Type} : List (Option D) → List α → List α → List α
  | [], _, _ => []
  | none :: r, a :: as, ds => a :: mergeG r as ds
  | some _ :: r, as, d :: ds => d :: mergeG r as ds
  | none :: _, [], _ => []
  | some _ :: _, _, [] => []
def defsOf (dv : List (Option D)) : List D := dv.filterMap id
/-- the flags of what is given -/
def givB : List (Option D) → List Bool → List Bool
  | [], _ => []
  | none :: r, bs => bs.headD false :: givB r bs.tail
  | some _ :: r, bs => givB r bs.tail
def dCallS (k : Cl) (sk : String) (l kl : List Dn) : DV := fun ρ => match k.g.shp.lookup sk with
  | some (f, s) => (dAs l (givB s.dv (k.br f)) ρ).bind fun x => (dAs kl ((givB s.dv (k.br f)).drop l.length) x.2).bind fun y => callO k f (mergeG s.dv (x.1 ++ y.1) ((defsOf s.dv).map Arg.v)) y.2
  | none => .bad
def dBi (b : Bi) (l : List Dn) : DV := fun ρ => (dOs l ρ).bind fun x => (looks x.2 x.1).bind fun ds => (biO b ds).bind fun w => .ok (w, x.2)
/-- a comprehension's tests -/
def dIf : List Dn → Env → R (Bool × Env)
  | [], ρ => .ok (true, ρ)
  | [a], ρ => a.t ρ
  | _, _ => .bad
def dTurn (cs : List Dn) (e : Dn) : Env → R (Option D × Env) := fun ρ => (dIf cs ρ).bind fun b => match b.1 with
  | false => .ok (none, b.2)
  | true => (e.v b.2).bind fun y => .ok (some y.1.frz, y.2)
def dComp (e : Dn) (t : T) (it : Env → R (List D × Env)) (cs : List Dn) (own : List Nat) : DV := fun ρ => (it ρ).bind fun x =>
  ((cmpL t own (dTurn cs e) x.1 (wipeE x.2 own)).nox).bind fun y => .ok (.ol y.1, restE x.2 y.2 own)
def dOfI (b : Bool) (it : Env → R (List D × Env)) : DV := fun ρ => (it ρ).bind fun x => if b then .ok (.sh (.tup x.1), x.2) else .ok (.ol x.1, x.2)
def dRvs (a : Dn) : DV := fun ρ => (a.o ρ).bind fun x => (look x.2 x.1).bind fun p => match p with
  | .lst l => .ok (.ol l.reverse, x.2)
  | _ => .bad
/-- list.index among flat items -/
def idxO (x : D) (l : List D) : R W := if flatD x && l.all flatD then (ofO ((l.map toV).findIdx? fun z => L2.eqV z (toV x))).bind fun j => .ok (.sh (.int (j : Nat))) else .bad
def dIdx (a b : Dn) : DV := fun ρ => (a.v ρ).bind fun x => match x.1.frz with
  | .lst l => (b.v x.2).bind fun y => (idxO y.1.frz l).bind fun w => .ok (w, y.2)
  | _ => .bad
def dTupRev (a : Dn) : DV := fun ρ => (a.v ρ).bind fun x => match x.1.frz with
  | .lst l => .ok (.sh (.tup l.reverse), x.2)
  | _ => .bad
def dIe (a : Dn) : Env → R (List D × Env) := fun ρ => (a.v ρ).bind fun x => (ofO (itemsO x.1.frz)).bind fun l => .ok (l, x.2)
def dIrev (a : Dn) : Env → R (List D × Env) := fun ρ => (a.v ρ).bind fun x => (ofO (itemsO x.1.frz)).bind fun l => .ok (l.reverse, x.2)
def dIs (f : List D → Option (List D)) (l : List Dn) : Env → R (List D × Env) := fun ρ => (dVs l ρ).bind fun x => (ofO (f x.1)).bind fun l => .ok (l, x.2)
/-- d.get(x, e) -/
def getO (p x d : D) : R W := match p with
  | .dic t l => (ofO (keyD t x)).bind fun kk => .ok (.sh ((dget t kk l).getD d))
  | _ => .bad
def isDic : D → Bool
  | .dic _ _ => true
  | _ => false
def dGet2 (a b c : Dn) : DV := fun ρ => (a.o ρ).bind fun x => (look x.2 x.1).bind fun p0 => if isDic p0 then (b.v x.2).bind fun y => (c.v y.2).bind fun z => (look z.2 x.1).bind fun p => (getO p y.1.frz z.1.frz).bind fun w => .ok (w, z.2) else .bad
/-- a dict that is written -/
def dDicl (ks : List Str) (l : List Dn) : DV := fun ρ => (dVs l ρ).bind fun x => if ks.length = x.1.length ∧ ks.Nodup ∧ 0 < ks.length ∧ ks.length ≤ 15 then .ok (.od false ((ks.map D.str).zip x.1), x.2) else .bad
def dBad : DV := fun _ => .bad
/-- the field of an instance that is the slot's own, or of a frozen one -/
def fldW (g : GX) (w : Option W) (f : String) : Option Fw := match w with
  | some (.sh (.ins c fs)) => if g.atB c f then (lkF fs f).map Fw.sh else none
  | some (.oi c fs) => if g.atB c f then lkF fs f else none
  | _ => none
/-- the field of a caught exception -/
def fldX (g : GX) (w : Option W) (f : String) : Option D := match w with
  | some (.xc c fs) => if g.exB c f then lkF fs f else none
  | _ => none
/-- data that nobody changes -/
def fldS (o : Option Fw) : Option D := match o with
  | some (.sh d) => some d
  | _ => none
def fldD (g : GX) (x : D) (f : String) : Option D := match x with
  | .ins c fs => if g.atB c f then lkF fs f else none
  | _ => none
def isXc : Option W → Bool
  | some (.xc _ _) => true
  | _ => false
def dFldV (g : GX) (i : Nat) (f : String) : DV := fun ρ => (ofO (if isXc (gt ρ i) then fldX g (gt ρ i) f else fldS (fldW g (gt ρ i) f))).bind fun d => .ok (.sh d, ρ)
/-- isinstance with a class of the program -/
def iscD (g : GX) (d : D) (c : String) : Option Bool := match d with
  | .ins c' _ => g.isx.lookup (c', c)
  | _ => if g.isd.contains c then some false else none
def iscX (g : GX) (w : Option W) (c : String) : Option Bool := match w with
  | some (.xc c' _) => g.esb.lookup (c', c)
  | _ => none
def dIsc (g : GX) (e : E) (a : Dn) (c : String) : DV := fun ρ => match e with
  | .var i => if isXc (gt ρ i) then (ofO (iscX g (gt ρ i) c)).bind fun b => .ok (.sh (.bl b), ρ) else (a.o ρ).bind fun x => (look x.2 x.1).bind fun d => (ofO (iscD g d c)).bind fun b => .ok (.sh (.bl b), x.2)
  | _ => (a.o ρ).bind fun x => (look x.2 x.1).bind fun d => (ofO (iscD g d c)).bind fun b => .ok (.sh (.bl b), x.2)
def dFld (g : GX) (a : Dn) (f : String) : DV := fun ρ => (a.v ρ).bind fun x => (ofO (fldD g x.1.frz f)).bind fun d => .ok (.sh d, x.2)
def fldE (g : GX) (e : E) (a : Dn) (f : String) : DV := match e with
  | .var i => dFldV g i f
  | _ => dFld g a f
/-- a field's own list loses its first item -/
def popW (g : GX) (i : Nat) (f : String) (w : Option W) (ρ : Env) : R (W × Env) := match w with
  | some (.oi c fs) => if g.atB c f then (match lkF fs f with
    | some (.ol (d :: l)) => .ok (.sh d, st ρ i (some (.oi c (putW fs f (.ol l)))))
    | _ => .bad) else .bad
  | _ => .bad
def dPopF (g : GX) (i : Nat) (f : String) : DV := fun ρ => popW g i f (gt ρ i) ρ
def vwW : Option W → Option D
  | some (.sh d) => some d
  | some (.ol l) => some (.lst l)
  | some (.od t l) => some (.dic t l)
  | _ => none
def rOk : R W → Option D
  | .ok (.sh d) => some d
  | _ => none
/-- what is only looked at -/
def pu (g : GX) : E → Env → Option D
  | .var i, ρ => vwW (gt ρ i)
  | .int i, _ => some (.int i)
  | .str s, _ => some (.str s)
  | .fld a f, ρ => match a with
    | .var i => (fldW g (gt ρ i) f).map Fw.frz
    | _ => (pu g a ρ).bind fun x => fldD g x f
  | .ix a b, ρ => (pu g a ρ).bind fun x => (pu g b ρ).bind fun y => rOk (ixO x y)
  | .pix a b, ρ => (pu g a ρ).bind fun x => (pu g b ρ).bind fun y => rOk (ixO x y)
  | .neg a, _ => match a with
    | .int i => some (.int (-i))
    | _ => none
  | _, _ => none
def dPix (g : GX) (a b : E) : DV := fun ρ => (ofO (pu g a ρ)).bind fun x => (ofO (pu g b ρ)).bind fun y => (ixO x y).bind fun w => .ok (w, ρ)
def dPcmp (g : GX) (o : Cop) (a b : E) : DV := fun ρ => (ofO (pu g a ρ)).bind fun x => (ofO (pu g b ρ)).bind fun y => (cmpO o x y).bind fun w => .ok (w, ρ)
def dPlen (g : GX) (a : E) : DV := fun ρ => (ofO (pu g a ρ)).bind fun x => (biO .len [x]).bind fun w => .ok (w, ρ)
/-- the class of what a method is called of -/
def recvC (ρ : Env) (m : String) : Arg → Option String
  | .v (.ins c fs) => if (lkF fs m).isNone then some c else none
  | .r i => match gt ρ i with
    | some (.oi c fs) => if (lkF fs m).isNone then some c else none
    | _ => none
  | _ => none
def isR : Arg → Bool
  | .r _ => true
  | _ => false
def dMeth (k : Cl) (a : Dn) (m : String) (l : List Dn) : DV := fun ρ => (a.r ρ).bind fun x => (ofO ((recvC x.2 m x.1).bind fun c => k.g.mtO c m)).bind fun f =>
  if isR x.1 && !(k.br f).headD false then .bad else (dAs l (k.br f).tail x.2).bind fun y => callO k f (x.1 :: y.1) y.2
/-- what is there without a step: a frozen slot, an int -/
def pureD : E → Env → Option D
  | .var i, ρ => match gt ρ i with
    | some (.sh d) => some d
    | _ => none
  | .int i, _ => some (.int i)
  | _, _ => none
def pureDs : List E → Env → Option (List D)
  | [], _ => some []
  | e :: l, ρ => match pureD e ρ, pureDs l ρ with
    | some d, some ds => some (d :: ds)
    | _, _ => none
/-- a call whose first argument is a thing in hand -/
def callOw (k : Cl) (f : String) (w : W) (ds : List D) (ρ : Env) : R (W × Env) := match k.c f (w :: ds.map W.sh) with
  | .ok w' _ => .ok (w', ρ)
  | .ex c fs => .ex c fs ρ
  | .bad => .bad
def dMethO (k : Cl) (a : Dn) (m : String) (l : List E) : DV := fun ρ => (a.v ρ).bind fun x => match x.1 with
  | .oi c fs => (ofO (if (lkF fs m).isNone then k.g.mtO c m else none)).bind fun f => (ofO (pureDs l x.2)).bind fun ds => callOw k f (.oi c fs) ds x.2
  | _ => .bad
def lenO (r : R (W × Env)) : R (W × Env) := match r with
  | .ok (.sh (.int n), ρ) => if 0 ≤ n ∧ n < 4611686018427387904 then .ok (.sh (.int n), ρ) else .bad
  | _ => .bad
/-- the calls that are one level lower -/
def Cl.low (k : Cl) : Cl := ⟨k.ini, k.br, k.wf, k.ini, k.g, k.n⟩
def dLenI (k : Cl) (a : Dn) : DV := fun ρ => (a.r ρ).bind fun x => (ofO ((recvC x.2 "__len__" x.1).bind fun c => k.g.mtO c "__len__")).bind fun f =>
  if isR x.1 && !(k.br f).headD false then .bad else lenO (callO k.low f [x.1] x.2)
def mkO (r : RF) (ρ : Env) : R (W × Env) := match r with
  | .ok (.sh .non) (.xc _ _ :: _) => .bad
  | .ok (.sh .non) (w :: _) => .ok (w, ρ)
  | .ex c fs => .ex c fs ρ
  | _ => .bad
def dMk (k : Cl) (c : String) (l : List Dn) : DV := fun ρ => (dVs l ρ).bind fun x => (ofO (k.g.mkO c)).bind fun f =>
  if (k.br f).headD false then mkO (k.ini f (.oi c [] :: x.1.map W.sh)) x.2 else .bad
mutual
def den (k : Cl) : E → Dn
  | .var i => ⟨evVar i, opdV i, argV i, tOf (opdV i)⟩
  | .int i => mkD (dC (.int i))
  | .str s => mkD (dC (.str s))
  | .bl b => mkD (dC (.bl b))
  | .non => mkD (dC .non)
  | .bin o a b => mkD (dOp (binO o) (den k a) (den k b))
  | .cmp o a b => mkD (dOp (cmpO o) (den k a) (den k b))
  | .chn o o' a b c => mkD (dChn o o' (den k a) (den k b) (den k c))
  | .neg a => mkD (dNeg (den k a))
  | .not a => mkT (dNot (den k a)) (dNotT (den k a))
  | .and l => mkT (dAnd (dens k l)) (dAndT (dens k l))
  | .or l => mkT (dOr (dens k l)) (dOrT (dens k l))
  | .ite t a b => mkT (dIte (den k t) (den k a) (den k b)) (dIteT (den k t) (den k a) (den k b))
  | .tup l => mkD (dTup (dens k l))
  | .lst l => mkD (dLst (dens k l))
  | .dic t => mkD (fun ρ => .ok (.od t [], ρ))
  | .ix a i => mkD (dOp ixO (den k a) (den k i))
  | .sl a lo hi => mkD (dSl (den k a) (optD lo (den k lo)) (optD hi (den k hi)))
  | .call f l => mkD (dCall k f (dens k l))
  | .callk f l _ => mkD (dCall k f (dens k l))
  | .bi b l => mkD (dBi b (dens k l))
  | .comp e t it cs own => mkD (dComp (den k e) t (denI k it) (dens k cs) own)
  | .ofI b it => mkD (dOfI b (denI k it))
  | .rvs a => mkD (dRvs (den k a))
  | .tupRev a => mkD (dTupRev (den k a))
  | .fld a f => mkD (fldE k.g a (den k a) f)
  | .mk c l => mkD (dMk k c (dens k l))
  | .meth a m l => mkD (dMeth k (den k a) m (dens k l))
  | .gint _ i => mkD (dC (.int i))
  | .gstr _ s => mkD (dC (.str s))
  | .pix a b => mkD (dPix k.g a b)
  | .pcmp o a b => mkD (dPcmp k.g o a b)
  | .plen a => mkD (dPlen k.g a)
  | .lenI a => mkD (dLenI k (den k a))
  | .isc a c => mkD (dIsc k.g a (den k a) c)
  | .idx a x => mkD (dIdx (den k a) (den k x))
  | .methO a m l => mkD (dMethO k (den k a) m l)
  | .calls sk l kl => mkD (dCallS k sk (dens k l) (dens k kl))
  | .get2 a x d => mkD (dGet2 (den k a) (den k x) (den k d))
  | .dicl ks l => mkD (dDicl ks (dens k l))
  | .popF i f => mkD (dPopF k.g i f)
def dens (k : Cl) : List E → List Dn
  | [] => []
  | a :: l => den k a :: dens k l
/-- what is walked -/
def denI (k : Cl) : I → Env → R (List D × Env)
  | .e a => dIe (den k a)
  | .rng l => dIs rngO (dens k l)
  | .zip a b => dIs zipO [den k a, den k b]
  | .enum a => dIs enumO [den k a]
  | .rev a => dIrev (den k a)
  | .revr l => dIs revrO (dens k l)
end

/-! ### statements -/
def isOwn : Option W → Bool
  | some (.ol _) => true
  | some (.od _ _) => true
  | _ => false
def isOl : Option W → Bool
  | some (.ol _) => true
  | _ => false
/-- op= at a name: an int, or a text that grows -/
def augO : Bop → D → D → R D
  | .add, .int i, .int j => .ok (.int (i + j))
  | .sub, .int i, .int j => .ok (.int (i - j))
  | .mul, .int i, .int j => if mulOk i j then .ok (.int (i * j)) else .bad
  | .fdiv, .int i, .int j => if 0 < j ∧ j < 1073741824 then .ok (.int (i / j)) else .bad
  | .mod, .int i, .int j => if 0 < j then .ok (.int (i % j)) else .bad
  | .add, .str a, .str b => if a.length + b.length ≤ line then .ok (.str (a ++ b)) else .bad
  | _, _, _ => .bad
def augI : Bop → D → D → Option D
  | .add, .int i, .int j => some (.int (i + j))
  | .sub, .int i, .int j => some (.int (i - j))
  | _, _, _ => none
/-- a name's own thing is given away -/
def mvW (i : Nat) (w : Option W) (ρ : Env) : R (W × Env) := match w with
  | some (.sh d) => .ok (.sh d, ρ)
  | some (.ol l) => .ok (.ol l, st ρ i none)
  | some (.od t l) => .ok (.od t l, st ρ i none)
  | some (.oi c fs) => .ok (.oi c fs, st ρ i none)
  | _ => .bad
def mvV (i : Nat) : DV := fun ρ => mvW i (gt ρ i) ρ
def retV (e : E) (v : DV) : DV := match e with
  | .var i => mvV i
  | _ => v
def clsO : Option W → Option String
  | some (.oi c _) => some c
  | _ => none
def setF (g : GX) (i : Nat) (f : String) (w : Fw) (ρ : Env) : R (Fl × Env) := match gt ρ i with
  | some (.oi c fs) => if g.atB c f && decide (fs.length < 100) then .ok (.nx, st ρ i (some (.oi c (putW fs f w)))) else .bad
  | _ => .bad
def setIF2 (w : Option Fw) (q d : D) : Option Fw := match w, q with
  | some (.ol l), .int n => (setL l n d).map Fw.ol
  | some (.od t l), q => (keyD t q).bind fun kk => if l.length < line then some (.od t (dput t kk q d l)) else none
  | _, _ => none
def setIF (g : GX) (i : Nat) (f : String) (q d : D) (ρ : Env) : R (Fl × Env) := match gt ρ i with
  | some (.oi c fs) => if g.atB c f then (ofO (setIF2 (lkF fs f) q d)).bind fun w => .ok (.nx, st ρ i (some (.oi c (putW fs f w)))) else .bad
  | _ => .bad
mutual
/-- no name of the caught exception's own -/
def noX : D → Bool
  | .ins c fs => !(c == "!a" || c == "!d" || c == "!c") && noXf fs
  | .tup l => noXs l
  | .lst l => noXs l
  | .dic _ l => noXp l
  | _ => true
def noXs : List D → Bool
  | [] => true
  | d :: l => noX d && noXs l
def noXf : List (String × D) → Bool
  | [] => true
  | (_, d) :: l => noX d && noXf l
def noXp : List (D × D) → Bool
  | [] => true
  | (a, d) :: l => noX a && noX d && noXp l
end
/-- a slot's content behind an except suite -/
def clW : Option W → Option W
  | some (.sh d) => if noX d then some (.sh d) else none
  | some (.ol l) => if noXs l then some (.ol l) else none
  | _ => none
def clE (ρ : Env) : Env := ρ.map clW
def outX (i : Nat) (r : R (Fl × Env)) : R (Fl × Env) := match r with
  | .ok (.nx, ρ) => .ok (.nx, st (clE ρ) i none)
  | .ok (.rt (.sh d), ρ) => if noX d then .ok (.rt (.sh d), st (clE ρ) i none) else .bad
  | _ => .bad
mutual
def exec (k : Cl) : S → Env → R (Fl × Env)
  | .asg t e, ρ => ((den k e).v ρ).bind fun x => (setT t x.1.frz x.2).bind fun ρ' => .ok (.nx, ρ')
  | .asgo i e, ρ => ((den k e).v ρ).bind fun x => .ok (.nx, st x.2 i (some x.1))
  | .par i j a b, ρ => ((den k a).v ρ).bind fun x => ((den k b).v x.2).bind fun y => .ok (.nx, st (st y.2 i (some (.sh x.1.frz))) j (some (.sh y.1.frz)))
  | .par3 i j l a b c, ρ => ((den k a).v ρ).bind fun x => ((den k b).v x.2).bind fun y => ((den k c).v y.2).bind fun z => .ok (.nx, st (st (st z.2 i (some (.sh x.1.frz))) j (some (.sh y.1.frz))) l (some (.sh z.1.frz)))
  | .seti i x e, ρ => if isOwn (gt ρ i) then ((den k e).v ρ).bind fun v => ((den k x).v v.2).bind fun y => match gt y.2 i, y.1.frz with
      | some (.ol l), .int n => (ofO (setL l n v.1.frz)).bind fun l' => .ok (.nx, st y.2 i (some (.ol l')))
      | some (.od t l), q => (ofO (keyD t q)).bind fun kk => if l.length < line then .ok (.nx, st y.2 i (some (.od t (dput t kk q v.1.frz l)))) else .bad
      | _, _ => .bad else .bad
  | .aug i o e, ρ => match gt ρ i with
      | some (.sh d) => ((den k e).v ρ).bind fun x => (augO o d x.1.frz).bind fun w => .ok (.nx, st x.2 i (some (.sh w)))
      | _ => .bad
  | .app i e, ρ => if isOl (gt ρ i) then ((den k e).v ρ).bind fun x => match gt x.2 i with
      | some (.ol l) => if l.length < line then .ok (.nx, st x.2 i (some (.ol (l ++ [x.1.frz])))) else .bad
      | _ => .bad else .bad
  | .ex e, ρ => ((den k e).v ρ).bind fun x => .ok (.nx, x.2)
  | .ife t a b, ρ => ((den k t).t ρ).bind fun x => match x.1 with
      | true => execs k a x.2
      | false => execs k b x.2
  | .for t it b, ρ => (denI k it ρ).bind fun x => forL t (execs k b) x.1 x.2
  | .whl t b, ρ => whlL (den k t).t (execs k b) k.wf ρ
  | .ret e, ρ => ((den k e).v ρ).bind fun x => .ok (.rt (.sh x.1.frz), x.2)
  | .retn, ρ => .ok (.rt (.sh .non), ρ)
  | .cnt, ρ => .ok (.cnt, ρ)
  | .brk, ρ => .ok (.brk, ρ)
  | .pass, ρ => .ok (.nx, ρ)
  | .swp i x y a b, ρ => if isOl (gt ρ i) then ((den k a).v ρ).bind fun p => ((den k b).v p.2).bind fun q => ((den k x).v q.2).bind fun r => match gt r.2 i, r.1.frz with
      | some (.ol l), .int n => (ofO (setL l n p.1.frz)).bind fun l' => ((den k y).v (st r.2 i (some (.ol l')))).bind fun z => match gt z.2 i, z.1.frz with
        | some (.ol m), .int n' => (ofO (setL m n' q.1.frz)).bind fun m' => .ok (.nx, st z.2 i (some (.ol m')))
        | _, _ => .bad
      | _, _ => .bad else .bad
  | .setf i f e, ρ => ((den k e).v ρ).bind fun x => setF k.g i f x.1.fw x.2
  | .setif i f x e, ρ => ((den k e).v ρ).bind fun v => (ofO (pu k.g x v.2)).bind fun q => setIF k.g i f q v.1.frz v.2
  | .augf i o f e, ρ => (ofO (fldS (fldW k.g (gt ρ i) f))).bind fun d => ((den k e).v ρ).bind fun x => (ofO (augI o d x.1.frz)).bind fun w => if clsO (gt ρ i) = clsO (gt x.2 i) then setF k.g i f (.sh w) x.2 else .bad
  | .dead, _ => .bad
  | .fgt l, ρ => .ok (.nx, wipeE ρ l)
  | .frz l, ρ => .ok (.nx, frzE ρ l)
  | .ext i e, ρ => if isOl (gt ρ i) then ((den k e).v ρ).bind fun x => match x.1, gt x.2 i with
      | .ol m, some (.ol l) => if l.length + m.length ≤ line then .ok (.nx, st x.2 i (some (.ol (l ++ m)))) else .bad
      | _, _ => .bad else .bad
  | .reto e, ρ => (retV e (den k e).v ρ).bind fun x => .ok (.rt x.1, x.2)
  | .rse c ns l, ρ => if 1 < k.n ∧ k.g.exa.lookup c = some ns then (dVs (dens k l) ρ).bind fun x => if ns.length = x.1.length ∧ x.1.length ≤ 100 then .ex c (ns.zip x.1) x.2 else .bad else .bad
  | .trye b c i h, ρ => match execs k b ρ with
    | .ex c' fs ρ' => match k.g.esb.lookup (c', c) with
      | some true => outX i (execs k h (st ρ' i (some (.xc c' fs))))
      | some false => .ex c' fs ρ'
      | none => .bad
    | r => r
def execs (k : Cl) : List S → Env → R (Fl × Env)
  | [], ρ => .ok (.nx, ρ)
  | s :: r, ρ => (exec k s ρ).bind fun x => match x.1 with
      | .nx => execs k r x.2
      | fl => .ok (fl, x.2)
end

/-! ### defs -/
structure Fd where
  np : Nat
  n : Nat
  br : List Bool
  body : List S
structure Tab where
  fd : String → Option Fd
  g : GX := {}
instance : CoeFun Tab fun _ => String → Option Fd := ⟨Tab.fd⟩
def entry (fd : Fd) (ws : List W) : Env := ws.map some ++ List.replicate (fd.n - fd.np) none
/-- what the arguments by reference are at the end -/
def outs (ρ : Env) : List Bool → List W → Nat → Option (List W)
  | _, [], _ => some []
  | bs, w :: ws, i => match (if bs.headD false then gt ρ i else some (.sh .non)), outs ρ bs.tail ws (i + 1) with
    | some o, some os => some (o :: os)
    | _, _ => none
def finW (fd : Fd) (ws : List W) (w : W) (ρ : Env) : RF := match outs ρ fd.br ws 0 with
  | some os => .ok w os
  | none => .bad
def fin (fd : Fd) (ws : List W) (r : R (Fl × Env)) : RF := match r with
  | .ok (.rt w, ρ) => finW fd ws w ρ
  | .ok (.nx, ρ) => finW fd ws (.sh .non) ρ
  | .ok _ => .bad
  | .ex c fs _ => .ex c fs
  | .bad => .bad
def brs (Γ : Tab) (f : String) : List Bool := match Γ f with
  | some fd => fd.br
  | none => []
/-- a def's body by what its calls are worth -/
def callT (Γ : Tab) (k : Cl) (f : String) (ws : List W) : RF := match Γ f with
  | some fd => if ws.length = fd.np then fin fd ws (execs k fd.body (entry fd ws)) else .bad
  | none => .bad
/-- calls with n, and with one less, levels at hand -/
def run2 (Γ : Tab) (w : Nat) : Nat → (String → List W → RF) × (String → List W → RF)
  | 0 => (fun _ _ => .bad, fun _ _ => .bad)
  | n + 1 => (callT Γ ⟨(run2 Γ w n).1, brs Γ, w, (run2 Γ w n).2, Γ.g, n⟩, (run2 Γ w n).1)
/-- a call of a def: n bounds the depth, w each while's turns -/
def run (Γ : Tab) (w n : Nat) : String → List W → RF := (run2 Γ w n).1
def runI (Γ : Tab) (w n : Nat) : String → List W → RF := (run2 Γ w n).2
def clK (Γ : Tab) (w n : Nat) : Cl := ⟨run Γ w n, brs Γ, w, runI Γ w n, Γ.g, n⟩
end Z

set_option Elab.async false
set_option linter.all false
set_option maxRecDepth 100000
set_option maxHeartbeats 4000000
/-! Z2: what stands for what. F: the part of the heap that nobody changes any more; H: the heap; lab: whose own an address is ((0, _) the value in hand, (i + 1, _) slot i; (_, 0) the thing itself, (_, k + 1) its field k). -/
namespace Z
open PySem
open PySem.Spec
open PyProof.Rows
open L2

/-- a list that nobody changes: tracked, or one of the module's own -/
def SqP (K : PySem.W.Frag) (F : Hp) (a : Addr) (vs : List V) : Prop :=
  Rd F a (.lst vs) ∨ ∃ (its : List Value) (n : Nat), K.lookup a = some { cls := .type "list", data := .seq its.toArray n } ∧ its.length ≤ sizeLine ∧ Vals vs its
theorem SqP.sql {K : PySem.W.Frag} {F : Hp} {a : Addr} {vs : List V} (h : SqP K F a vs) : SqL K F a vs := by
  rcases h with h | ⟨its, n, h1, h2, h3⟩
  · exact .inl h
  · exact .inr ⟨_, its.toArray, n, h1, rfl, rfl, rfl, by simpa using h2, by simpa using h3⟩

mutual
inductive Rep (K : PySem.W.Frag) (cm : String → Option Addr) (F : Hp) : D → V → Prop
  | non : Rep K cm F .non .non
  | bl (b : Bool) : Rep K cm F (.bl b) (.bl b)
  | int (i : Int) : Rep K cm F (.int i) (.int i)
  | str (x : Str) : Rep K cm F (.str x) (.str x)
  | tup {a vs ds} : F a = some (.tup vs) → Reps K cm F ds vs → Rep K cm F (.tup ds) (.ref a)
  | lst {a vs ds} : SqP K F a vs → Reps K cm F ds vs → Rep K cm F (.lst ds) (.ref a)
  | dicK {a kvs l} : F a = some (.dK kvs) → RepK K cm F l kvs → Rep K cm F (.dic false l) (.ref a)
  | dicT {a kvs l} : F a = some (.dT kvs) → RepT K cm F l kvs → Rep K cm F (.dic true l) (.ref a)
  | ins {a c C dx gs fs} : F a = some (.ins C dx gs) → cm c = some C → RepF K cm F fs gs → Rep K cm F (.ins c fs) (.ref a)
inductive Reps (K : PySem.W.Frag) (cm : String → Option Addr) (F : Hp) : List D → List V → Prop
  | nil : Reps K cm F [] []
  | cons {d v ds vs} : Rep K cm F d v → Reps K cm F ds vs → Reps K cm F (d :: ds) (v :: vs)
inductive RepK (K : PySem.W.Frag) (cm : String → Option Addr) (F : Hp) : List (D × D) → List (L2.Key × V) → Prop
  | nil : RepK K cm F [] []
  | cons {a d k v l m} : key1 a = some k → Rep K cm F d v → RepK K cm F l m → RepK K cm F ((a, d) :: l) ((k, v) :: m)
inductive RepT (K : PySem.W.Frag) (cm : String → Option Addr) (F : Hp) : List (D × D) → List (List L2.Key × V) → Prop
  | nil : RepT K cm F [] []
  | cons {as d k v l m} : keys1 as = some k → Rep K cm F d v → RepT K cm F l m → RepT K cm F ((.tup as, d) :: l) ((k, v) :: m)
inductive RepF (K : PySem.W.Frag) (cm : String → Option Addr) (F : Hp) : List (String × D) → List (Str × V) → Prop
  | nil : RepF K cm F [] []
  | cons {n d v l m} : Rep K cm F d v → RepF K cm F l m → RepF K cm F ((n, d) :: l) ((Str.ofString n, v) :: m)
end

/-- all that stands stands on -/
def Sub (F F' : Hp) : Prop := ∀ a o, F a = some o → F' a = some o
theorem Sub.refl (F : Hp) : Sub F F := fun _ _ h => h
theorem Sub.trans {F F1 F2 : Hp} (a : Sub F F1) (b : Sub F1 F2) : Sub F F2 := fun x o h => b x o (a x o h)
theorem Sub.new {F : Hp} {p : Addr} {o : HO} (h : F p = none) : Sub F (upd F p o) := fun a u e => by
  rw [upd_ne (ne_of_none e h)]; exact e
theorem Sub.rd {F F' : Hp} {a : Addr} {u : HO} (s : Sub F F') (h : Rd F a u) : Rd F' a u := by
  rcases h with h | ⟨o, h⟩
  · exact .inl (s _ _ h)
  · exact .inr ⟨o, s _ _ h⟩
theorem Sub.sqp {K : PySem.W.Frag} {F F' : Hp} {a : Addr} {xs : List V} (s : Sub F F') (h : SqP K F a xs) : SqP K F' a xs := by
  rcases h with h | h
  · exact .inl (s.rd h)
  · exact .inr h
theorem Sub.sqt {K : PySem.W.Frag} {F F' : Hp} {a : Addr} {xs : List V} (s : Sub F F') (h : SqT K F a xs) : SqT K F' a xs := by
  rcases h with h | h
  · exact .inl (s.rd h)
  · exact .inr h

section
variable {K : PySem.W.Frag} {cm : String → Option Addr} {F F' : Hp}
mutual
theorem Rep.mono (s : Sub F F') : ∀ {d : D} {v : V}, Rep K cm F d v → Rep K cm F' d v
  | _, _, .non => .non
  | _, _, .bl b => .bl b
  | _, _, .int i => .int i
  | _, _, .str x => .str x
  | _, _, .tup h r => .tup (s _ _ h) (Reps.mono s r)
  | _, _, .lst h r => .lst (s.sqp h) (Reps.mono s r)
  | _, _, .dicK h r => .dicK (s _ _ h) (RepK.mono s r)
  | _, _, .dicT h r => .dicT (s _ _ h) (RepT.mono s r)
  | _, _, .ins h c r => .ins (s _ _ h) c (RepF.mono s r)
theorem Reps.mono (s : Sub F F') : ∀ {d : List D} {v : List V}, Reps K cm F d v → Reps K cm F' d v
  | _, _, .nil => .nil
  | _, _, .cons h r => .cons (Rep.mono s h) (Reps.mono s r)
theorem RepK.mono (s : Sub F F') : ∀ {d : List (D × D)} {v : List (L2.Key × V)}, RepK K cm F d v → RepK K cm F' d v
  | _, _, .nil => .nil
  | _, _, .cons k h r => .cons k (Rep.mono s h) (RepK.mono s r)
theorem RepT.mono (s : Sub F F') : ∀ {d : List (D × D)} {v : List (List L2.Key × V)}, RepT K cm F d v → RepT K cm F' d v
  | _, _, .nil => .nil
  | _, _, .cons k h r => .cons k (Rep.mono s h) (RepT.mono s r)
theorem RepF.mono (s : Sub F F') : ∀ {d : List (String × D)} {v : List (Str × V)}, RepF K cm F d v → RepF K cm F' d v
  | _, _, .nil => .nil
  | _, _, .cons h r => .cons (Rep.mono s h) (RepF.mono s r)
end
theorem Reps.length : ∀ {d : List D} {v : List V}, Reps K cm F d v → d.length = v.length
  | _, _, .nil => rfl
  | _, _, .cons _ r => by rw [List.length_cons, List.length_cons, Reps.length r]
theorem Reps.append : ∀ {d d' : List D} {v v' : List V}, Reps K cm F d v → Reps K cm F d' v' → Reps K cm F (d ++ d') (v ++ v')
  | _, _, _, _, .nil, h => h
  | _, _, _, _, .cons a r, h => .cons a (Reps.append r h)
theorem Reps.at : ∀ {d : List D} {v : List V} {i : Nat} {x : D}, Reps K cm F d v → d[i]? = some x → ∃ y, v[i]? = some y ∧ Rep K cm F x y
  | _, _, _, _, .nil, e => by simp at e
  | _, _, 0, x, .cons h _, e => ⟨_, rfl, by simp at e; subst e; exact h⟩
  | _, _, i + 1, x, .cons _ r, e => by
    obtain ⟨y, h1, h2⟩ := Reps.at (i := i) r (by simpa using e)
    exact ⟨y, by simpa using h1, h2⟩
theorem Reps.at' : ∀ {d : List D} {v : List V} {i : Nat} {y : V}, Reps K cm F d v → v[i]? = some y → ∃ x, d[i]? = some x ∧ Rep K cm F x y
  | _, _, _, _, .nil, e => by simp at e
  | _, _, 0, x, .cons h _, e => ⟨_, rfl, by simp at e; subst e; exact h⟩
  | _, _, i + 1, x, .cons _ r, e => by
    obtain ⟨y, h1, h2⟩ := Reps.at' (i := i) r (by simpa using e)
    exact ⟨y, by simpa using h1, h2⟩
theorem Reps.set {x : D} {y : V} (h : Rep K cm F x y) : ∀ {d : List D} {v : List V} (i : Nat), Reps K cm F d v → Reps K cm F (d.set i x) (v.set i y)
  | _, _, _, .nil => .nil
  | _, _, 0, .cons _ r => .cons h r
  | _, _, i + 1, .cons a r => .cons a (Reps.set h i r)
theorem Reps.take : ∀ {d : List D} {v : List V} (i : Nat), Reps K cm F d v → Reps K cm F (d.take i) (v.take i)
  | _, _, 0, _ => .nil
  | _, _, _ + 1, .nil => .nil
  | _, _, i + 1, .cons a r => .cons a (Reps.take i r)
theorem Reps.drop : ∀ {d : List D} {v : List V} (i : Nat), Reps K cm F d v → Reps K cm F (d.drop i) (v.drop i)
  | _, _, 0, h => h
  | _, _, _ + 1, .nil => .nil
  | _, _, i + 1, .cons _ r => Reps.drop i r
theorem Reps.rev {d : List D} {v : List V} (h : Reps K cm F d v) : Reps K cm F d.reverse v.reverse := by
  induction d generalizing v with
  | nil => cases h; exact .nil
  | cons a l ih =>
    cases h with
    | cons h r =>
      rw [List.reverse_cons, List.reverse_cons]
      exact (ih r).append (.cons h .nil)
theorem Reps.ints : ∀ {d : List D} {v : List V} {ns : List Int}, Reps K cm F d v → intsOf d = some ns → v = ns.map V.int
  | _, _, ns, .nil, e => by cases e; rfl
  | d :: ds, v :: vs, ns, .cons h r, e => by
    cases h with
    | int i =>
      simp only [intsOf, Option.map_eq_some_iff] at e
      obtain ⟨ms, e1, e2⟩ := e
      subst e2
      rw [List.map_cons, Reps.ints r e1]
    | _ => simp [intsOf] at e
theorem Reps.bls : ∀ {d : List D} {v : List V} {ns : List Bool}, Reps K cm F d v → blsOf d = some ns → v = ns.map V.bl
  | _, _, ns, .nil, e => by cases e; rfl
  | d :: ds, v :: vs, ns, .cons h r, e => by
    cases h with
    | bl i =>
      simp only [blsOf, Option.map_eq_some_iff] at e
      obtain ⟨ms, e1, e2⟩ := e
      subst e2
      rw [List.map_cons, Reps.bls r e1]
    | _ => simp [blsOf] at e
theorem Reps.ofInts (ns : List Int) : Reps K cm F (ns.map D.int) (ns.map V.int) := by
  induction ns with
  | nil => exact .nil
  | cons a l ih => exact .cons (.int a) ih
/-- flat data -/
theorem Rep.flat {d : D} {v : V} (h : Rep K cm F d v) (f : flatD d = true) : v = toV d ∧ flatV v = true := by
  cases h <;> first | exact ⟨rfl, rfl⟩ | cases f
theorem Reps.flat : ∀ {d : List D} {v : List V}, Reps K cm F d v → d.all flatD = true → v = d.map toV ∧ v.all flatV = true
  | _, _, .nil, _ => ⟨rfl, rfl⟩
  | _, _, .cons h r, f => by
    rw [List.all_cons, Bool.and_eq_true] at f
    obtain ⟨e1, f1⟩ := h.flat f.1
    obtain ⟨e2, f2⟩ := Reps.flat r f.2
    exact ⟨by rw [List.map_cons, ← e1, ← e2], by rw [List.all_cons, f1, f2]; rfl⟩
mutual
theorem Rep.dp (s : Sub F F') : ∀ (d : D) {v : V} {p : PyData}, Rep K cm F d v → toP d = some p → Dp K F' v p
  | .non, _, _, .non, e => by cases e; exact .non
  | .bl _, _, _, .bl b, e => by cases e; exact .bl b
  | .int _, _, _, .int i, e => by cases e; exact .int i
  | .str _, _, _, .str x, e => by cases e; exact .str x
  | .tup l, _, _, .tup h r, e => by
    simp only [toP, Option.map_eq_some_iff] at e
    obtain ⟨q, e1, e2⟩ := e
    subst e2
    exact .tup (.inl (.inl (s _ _ h))) (Reps.dp s l r e1)
  | .lst l, _, _, .lst h r, e => by
    simp only [toP, Option.map_eq_some_iff] at e
    obtain ⟨q, e1, e2⟩ := e
    subst e2
    exact .lst (s.sqp h).sql (Reps.dp s l r e1)
  | .dic _ _, _, _, _, e => by simp [toP] at e
  | .ins _ _, _, _, _, e => by simp [toP] at e
theorem Reps.dp (s : Sub F F') : ∀ (d : List D) {v : List V} {p : List PyData}, Reps K cm F d v → toPs d = some p → DpAll K F' v p
  | [], _, _, .nil, e => by cases e; exact .nil
  | d :: ds, _, _, .cons h r, e => by
    simp only [toPs] at e
    split at e
    · rename_i p q e1 e2
      cases e
      exact .cons (Rep.dp s d h e1) (Reps.dp s ds r e2)
    · cases e
end
end

/-! ### names' contents -/
abbrev Lab := Addr → Option (Nat × Nat)
section
variable (K : PySem.W.Frag) (cm : String → Option Addr) (F H : Hp) (lab : Lab)
/-- a dict's content at an address of the heap -/
def DicAt (t : Bool) (l : List (D × D)) (o : Option HO) : Prop := match t with
  | false => ∃ m, o = some (.dK m) ∧ RepK K cm F l m
  | true => ∃ m, o = some (.dT m) ∧ RepT K cm F l m
def RelR (b : Nat × Nat) : Fw → V → Prop
  | .sh d, v => Rep K cm F d v
  | .ol ds, v => ∃ p vs, v = .ref p ∧ lab p = some b ∧ H p = some (.lst vs) ∧ F p = none ∧ Reps K cm F ds vs
  | .od t l, v => ∃ p, v = .ref p ∧ lab p = some b ∧ F p = none ∧ DicAt K cm F t l (H p)
def RelFs (s : Nat) : Nat → List (String × Fw) → List (Str × V) → Prop
  | _, [], [] => True
  | k, (n, w) :: r, (m, v) :: q => m = Str.ofString n ∧ RelR K cm F H lab (s, k + 1) w v ∧ RelFs s (k + 1) r q
  | _, _, _ => False
def RelW (s : Nat) : W → V → Prop
  | .sh d, v => Rep K cm F d v
  | .ol ds, v => RelR K cm F H lab (s, 0) (.ol ds) v
  | .od t l, v => RelR K cm F H lab (s, 0) (.od t l) v
  | .oi c fs, v => ∃ p C dx gs, v = .ref p ∧ lab p = some (s, 0) ∧ H p = some (.ins C dx gs) ∧ F p = none ∧ cm c = some C ∧ RelFs K cm F H lab s 0 fs gs
  | .xc c fs, v => s ≠ 0 ∧ ∃ a dd C gs, cm "!a" = some a ∧ cm "!d" = some dd ∧ cm "!c" = some C ∧ v = .ref a ∧ cm c = some C ∧ F dd = some (.xd gs) ∧ RepF K cm F fs gs
end
/-- the frame's names and what they hold -/
structure RE (K : PySem.W.Frag) (cm : String → Option Addr) (F H : Hp) (lab : Lab) (ρ : Env) (σ : L2.St) : Prop where
  sub : Sub F H
  len : ρ.length = σ.length
  at_ : ∀ i w, gt ρ i = some w → ∃ v, σ[i]? = some (some v) ∧ RelW K cm F H lab (i + 1) w v
/-- what a step leaves: frozen things, and what is nobody's own here -/
structure Stp (F H : Hp) (lab : Lab) (F' H' : Hp) (lab' : Lab) : Prop where
  ff : Sub F F'
  fr : ∀ a o, H a = some o → F a = none → lab a = none → H' a = some o ∧ F' a = none ∧ lab' a = none
theorem Stp.refl (F H : Hp) (lab : Lab) : Stp F H lab F H lab := ⟨Sub.refl F, fun _ _ h f l => ⟨h, f, l⟩⟩
theorem Stp.trans {F H F1 H1 F2 H2 : Hp} {l l1 l2 : Lab} (a : Stp F H l F1 H1 l1) (b : Stp F1 H1 l1 F2 H2 l2) : Stp F H l F2 H2 l2 :=
  ⟨a.ff.trans b.ff, fun x o h f n => let ⟨h1, f1, n1⟩ := a.fr x o h f n; b.fr x o h1 f1 n1⟩

section
variable {K : PySem.W.Frag} {cm : String → Option Addr} {F H F' H' : Hp} {lab lab' : Lab} {ρ : Env} {σ : L2.St}
theorem DicAt.mono {t : Bool} {l : List (D × D)} {o : Option HO} (s : Sub F F') (h : DicAt K cm F t l o) : DicAt K cm F' t l o := by
  cases t with
  | false => obtain ⟨m, e, r⟩ := h; exact ⟨m, e, r.mono s⟩
  | true => obtain ⟨m, e, r⟩ := h; exact ⟨m, e, r.mono s⟩
theorem DicAt.some {t : Bool} {l : List (D × D)} {o : Option HO} (h : DicAt K cm F t l o) : ∃ u, o = some u := by
  cases t with
  | false => obtain ⟨m, e, r⟩ := h; exact ⟨_, e⟩
  | true => obtain ⟨m, e, r⟩ := h; exact ⟨_, e⟩
/-- what keeps what is labelled s -/
def Keeps (s : Nat) (F H : Hp) (lab : Lab) (F' H' : Hp) (lab' : Lab) : Prop := ∀ a o j, lab a = some (s, j) → H a = some o → F a = none → H' a = some o ∧ F' a = none ∧ lab' a = some (s, j)
theorem RelR.keep {s j : Nat} {w : Fw} {v : V} (sf : Sub F F') (kp : Keeps s F H lab F' H' lab') (h : RelR K cm F H lab (s, j) w v) : RelR K cm F' H' lab' (s, j) w v := by
  cases w with
  | sh d => exact Rep.mono sf h
  | ol ds =>
    obtain ⟨p, vs, e, l, hp, fp, r⟩ := h
    obtain ⟨h1, h2, h3⟩ := kp p _ j l hp fp
    exact ⟨p, vs, e, h3, h1, h2, r.mono sf⟩
  | od t l =>
    obtain ⟨p, e, lb, fp, r⟩ := h
    obtain ⟨u, hu⟩ := r.some
    obtain ⟨h1, h2, h3⟩ := kp p u j lb hu fp
    exact ⟨p, e, h3, h2, by rw [h1, ← hu]; exact r.mono sf⟩
theorem RelFs.keep {s : Nat} (sf : Sub F F') (kp : Keeps s F H lab F' H' lab') : ∀ {k : Nat} {fs : List (String × Fw)} {gs : List (Str × V)}, RelFs K cm F H lab s k fs gs → RelFs K cm F' H' lab' s k fs gs
  | _, [], [], _ => trivial
  | _, (n, w) :: r, (m, v) :: q, h => ⟨h.1, h.2.1.keep sf kp, RelFs.keep sf kp h.2.2⟩
  | _, [], _ :: _, h => h.elim
  | _, _ :: _, [], h => h.elim
theorem RelW.keep {s : Nat} {w : W} {v : V} (sf : Sub F F') (kp : Keeps s F H lab F' H' lab') (h : RelW K cm F H lab s w v) : RelW K cm F' H' lab' s w v := by
  cases w with
  | sh d => exact Rep.mono sf h
  | ol ds => exact RelR.keep (w := .ol ds) sf kp h
  | od t l => exact RelR.keep (w := .od t l) sf kp h
  | oi c fs =>
    obtain ⟨p, C, dx, gs, e, l, hp, fp, hc, r⟩ := h
    obtain ⟨h1, h2, h3⟩ := kp p _ 0 l hp fp
    exact ⟨p, C, dx, gs, e, h3, h1, h2, hc, r.keep sf kp⟩
  | xc c fs =>
    obtain ⟨s0, a, dd, C, gs, h1, h2, h3, h4, h5, h6, h7⟩ := h
    exact ⟨s0, a, dd, C, gs, h1, h2, h3, h4, h5, sf _ _ h6, h7.mono sf⟩
theorem RE.keep (h : RE K cm F H lab ρ σ) (sf : Sub F F') (sh : Sub F' H') (kp : ∀ i, Keeps (i + 1) F H lab F' H' lab') : RE K cm F' H' lab' ρ σ :=
  ⟨sh, h.len, fun i w e => let ⟨v, e1, r⟩ := h.at_ i w e; ⟨v, e1, r.keep sf (kp i)⟩⟩

/-! ### slots -/
theorem gt_of : ∀ {ρ : Env} {i : Nat}, gt ρ i = (ρ[i]?).join
  | [], _ => by simp [gt]
  | o :: l, 0 => by cases o <;> simp [gt]
  | o :: l, i + 1 => by rw [gt, gt_of]; simp
theorem st_length : ∀ (ρ : Env) (i : Nat) (w : Option W), (st ρ i w).length = ρ.length
  | [], _, _ => rfl
  | _ :: _, 0, _ => rfl
  | _ :: l, i + 1, w => by simp [st, st_length l i w]
theorem gt_st_same : ∀ {ρ : Env} {i : Nat} {w : Option W}, i < ρ.length → gt (st ρ i w) i = w
  | [], _, _, h => by simp at h
  | _ :: _, 0, w, _ => by cases w <;> rfl
  | _ :: l, i + 1, w, h => by
    show gt (st l i w) i = w
    exact gt_st_same (by simpa using h)
theorem gt_st_ne : ∀ {ρ : Env} {i j : Nat} {w : Option W}, j ≠ i → gt (st ρ i w) j = gt ρ j
  | [], _, _, _, _ => rfl
  | _ :: _, 0, 0, _, h => absurd rfl h
  | _ :: _, 0, _ + 1, _, _ => rfl
  | o :: _, _ + 1, 0, _, _ => by cases o <;> rfl
  | _ :: l, i + 1, j + 1, w, h => by
    show gt (st l i w) j = gt l j
    exact gt_st_ne (by omega)
theorem gt_lt : ∀ {ρ : Env} {i : Nat} {w : W}, gt ρ i = some w → i < ρ.length
  | [], _, _, h => by cases h
  | _ :: _, 0, _, _ => by simp
  | _ :: l, i + 1, w, h => by
    have := gt_lt (ρ := l) (i := i) h
    simp; omega
/-- a slot's place, an own thing given to it (it was in hand) -/
def relab (lab : Lab) (i : Nat) : Lab := fun a => match lab a with
  | some (s, j) => if s = i + 1 then none else if s = 0 then some (i + 1, j) else some (s, j)
  | none => none
theorem relab_other {lab : Lab} {i s j : Nat} {a : Addr} (h : lab a = some (s, j)) (h1 : s ≠ i + 1) (h2 : s ≠ 0) : relab lab i a = some (s, j) := by
  simp only [relab, h, if_neg h1, if_neg h2]
theorem relab_hand {lab : Lab} {i j : Nat} {a : Addr} (h : lab a = some (0, j)) : relab lab i a = some (i + 1, j) := by
  have : ¬ (0 = i + 1) := by omega
  simp only [relab, h, if_neg this, if_true]
theorem relab_none {lab : Lab} {i : Nat} {a : Addr} (h : lab a = none) : relab lab i a = none := by
  simp only [relab, h]
theorem Stp.relab (i : Nat) : Stp F H lab F H (relab lab i) := ⟨Sub.refl F, fun _ _ h f l => ⟨h, f, relab_none l⟩⟩
theorem RelR.give {i j : Nat} {w : Fw} {v : V} (h : RelR K cm F H lab (0, j) w v) : RelR K cm F H (relab lab i) (i + 1, j) w v := by
  cases w with
  | sh d => exact h
  | ol ds =>
    obtain ⟨p, vs, e, l, r⟩ := h
    exact ⟨p, vs, e, relab_hand l, r⟩
  | od t l =>
    obtain ⟨p, e, lb, r⟩ := h
    exact ⟨p, e, relab_hand lb, r⟩
theorem RelFs.give {i : Nat} : ∀ {k : Nat} {fs : List (String × Fw)} {gs : List (Str × V)}, RelFs K cm F H lab 0 k fs gs → RelFs K cm F H (relab lab i) (i + 1) k fs gs
  | _, [], [], _ => trivial
  | _, (n, w) :: r, (m, v) :: q, h => ⟨h.1, h.2.1.give, RelFs.give h.2.2⟩
  | _, [], _ :: _, h => h.elim
  | _, _ :: _, [], h => h.elim
theorem RelW.give {i : Nat} {w : W} {v : V} (h : RelW K cm F H lab 0 w v) : RelW K cm F H (relab lab i) (i + 1) w v := by
  cases w with
  | sh d => exact h
  | ol ds => exact RelR.give (w := .ol ds) h
  | od t l => exact RelR.give (w := .od t l) h
  | oi c fs =>
    obtain ⟨p, C, dx, gs, e, l, hp, fp, hc, r⟩ := h
    exact ⟨p, C, dx, gs, e, relab_hand l, hp, fp, hc, r.give⟩
  | xc _ _ => exact absurd rfl h.1
/-- what is in hand is stored -/
theorem RE.store {i : Nat} {w : W} {v : V} (h : RE K cm F H lab ρ σ) (r : RelW K cm F H lab 0 w v) : RE K cm F H (relab lab i) (st ρ i (some w)) (σ.set i (some v)) := by
  refine ⟨h.sub, by rw [st_length, List.length_set]; exact h.len, fun j x e => ?_⟩
  by_cases hj : j = i
  · subst hj
    have hl := gt_lt e
    rw [st_length] at hl
    rw [gt_st_same hl] at e
    cases e
    refine ⟨v, ?_, r.give⟩
    rw [List.getElem?_set_self (by rw [← h.len]; exact hl)]
  · rw [gt_st_ne hj] at e
    obtain ⟨y, e1, q⟩ := h.at_ j x e
    refine ⟨y, by rw [List.getElem?_set_ne (Ne.symm hj)]; exact e1, q.keep (Sub.refl F) fun a o k l ha hf => ⟨ha, hf, relab_other l (by omega) (by omega)⟩⟩
/-- a slot forgotten -/
theorem RE.forget {i : Nat} (h : RE K cm F H lab ρ σ) : RE K cm F H lab (st ρ i none) σ := by
  refine ⟨h.sub, by rw [st_length]; exact h.len, fun j x e => ?_⟩
  by_cases hj : j = i
  · subst hj
    have hl := gt_lt e
    rw [st_length] at hl
    rw [gt_st_same hl] at e
    cases e
  · rw [gt_st_ne hj] at e
    exact h.at_ j x e
/-- data put into a slot that holds its value -/
theorem RE.put {i : Nat} {w : W} {v : V} (h : RE K cm F H lab ρ σ) (e : σ[i]? = some (some v)) (r : RelW K cm F H lab (i + 1) w v) : RE K cm F H lab (st ρ i (some w)) σ := by
  refine ⟨h.sub, by rw [st_length]; exact h.len, fun j x ex => ?_⟩
  by_cases hj : j = i
  · subst hj
    have hl := gt_lt ex
    rw [st_length] at hl
    rw [gt_st_same hl] at ex
    cases ex
    exact ⟨v, e, r⟩
  · rw [gt_st_ne hj] at ex
    exact h.at_ j x ex

/-! ### freezing -/
/-- what is labelled s is frozen -/
def frzH (F H : Hp) (lab : Lab) (s : Nat) : Hp := fun a => match lab a with
  | some (s', _) => if s' = s then H a else F a
  | none => F a
theorem frzH_at {s j : Nat} {a : Addr} (h : lab a = some (s, j)) : frzH F H lab s a = H a := by simp only [frzH, h, if_true]
theorem frzH_ne {s s' j : Nat} {a : Addr} (h : lab a = some (s', j)) (n : s' ≠ s) : frzH F H lab s a = F a := by simp only [frzH, h, if_neg n]
theorem frzH_none {s : Nat} {a : Addr} (h : lab a = none) : frzH F H lab s a = F a := by simp only [frzH, h]
theorem frzH_sub {s : Nat} (h : Sub F H) : Sub F (frzH F H lab s) := fun a o e => by
  unfold frzH
  split
  · split
    · exact h a o e
    · exact e
  · exact e
theorem frzH_le {s : Nat} (h : Sub F H) : Sub (frzH F H lab s) H := fun a o e => by
  unfold frzH at e
  split at e
  · split at e
    · exact e
    · exact h a o e
  · exact h a o e
theorem Stp.frz {s : Nat} (h : Sub F H) : Stp F H lab (frzH F H lab s) H lab := ⟨frzH_sub h, fun a o ha hf l => ⟨ha, by rw [frzH_none l]; exact hf, l⟩⟩
theorem RE.frz {s : Nat} (h : RE K cm F H lab ρ σ) (hs : ∀ i w, gt ρ i = some w → i + 1 = s → ∃ d, w = .sh d) : RE K cm (frzH F H lab s) H lab ρ σ := by
  refine ⟨frzH_le h.sub, h.len, fun i w e => ?_⟩
  obtain ⟨v, e1, r⟩ := h.at_ i w e
  refine ⟨v, e1, ?_⟩
  by_cases hi : i + 1 = s
  · obtain ⟨d, rfl⟩ := hs i w e hi
    exact Rep.mono (frzH_sub h.sub) r
  · exact r.keep (frzH_sub h.sub) fun a o j l ha hf => ⟨ha, by rw [frzH_ne l hi]; exact hf, l⟩
theorem RelR.frz {s j : Nat} {w : Fw} {v : V} (hs : Sub F H) (h : RelR K cm F H lab (s, j) w v) : Rep K cm (frzH F H lab s) w.frz v := by
  cases w with
  | sh d => exact Rep.mono (frzH_sub hs) h
  | ol ds =>
    obtain ⟨p, vs, rfl, l, hp, fp, r⟩ := h
    exact .lst (.inl (.inl (by rw [frzH_at l]; exact hp))) (r.mono (frzH_sub hs))
  | od t l =>
    obtain ⟨p, rfl, lb, fp, r⟩ := h
    cases t with
    | false =>
      obtain ⟨m, e, r⟩ := r
      exact .dicK (by rw [frzH_at lb]; exact e) (r.mono (frzH_sub hs))
    | true =>
      obtain ⟨m, e, r⟩ := r
      exact .dicT (by rw [frzH_at lb]; exact e) (r.mono (frzH_sub hs))
theorem RelFs.frz {s : Nat} (hs : Sub F H) : ∀ {k : Nat} {fs : List (String × Fw)} {gs : List (Str × V)}, RelFs K cm F H lab s k fs gs → RepF K cm (frzH F H lab s) (frzF fs) gs
  | _, [], [], _ => .nil
  | _, (n, w) :: r, (m, v) :: q, h => by
    obtain ⟨rfl, h1, h2⟩ := h
    exact .cons (h1.frz hs) (RelFs.frz hs h2)
  | _, [], _ :: _, h => h.elim
  | _, _ :: _, [], h => h.elim
theorem RelW.frz {s : Nat} {w : W} {v : V} (hs : Sub F H) (h : RelW K cm F H lab s w v) (hx : s = 0 ∨ ∀ c fs, w ≠ .xc c fs) : Rep K cm (frzH F H lab s) w.frz v := by
  cases w with
  | sh d => exact Rep.mono (frzH_sub hs) h
  | ol ds => exact RelR.frz (w := .ol ds) hs h
  | od t l => exact RelR.frz (w := .od t l) hs h
  | oi c fs =>
    obtain ⟨p, C, dx, gs, rfl, l, hp, fp, hc, r⟩ := h
    exact .ins (by rw [frzH_at l]; exact hp) hc (r.frz hs)
  | xc c fs => exact hx.elim (fun e => absurd e h.1) fun e => absurd rfl (e c fs)
end
end Z

set_option Elab.async false
set_option linter.all false
set_option maxRecDepth 100000
set_option maxHeartbeats 4000000
/-! Zm: a tuple times an int. -/
namespace Z
open PySem
open PySem.Spec
open PyProof.Rows
open L2
theorem tuple_mul1 (l : Addr) (items : Array Value) (n : Nat) (dd : Option Addr) (sl : Array (Option Value)) (u : Tok) :
    Meets (Builtin.«tuple.__mul__» ⟨[.ref l, .int 1 u], []⟩) (fun _ R s => s.heap.get? l = some { cls := .type "tuple", dict := dd, data := .seq items n, slots := sl } ∧ R (.ok (.ret (Value.ref l))) s) :=
  .of_wp fun prog w A R s h => by
    obtain ⟨hp, g, d, tk, os⟩ := s
    obtain ⟨hl, h⟩ := h
    have f1 := AutoSeq1.idx_int
    have c0 : (decide ((1 : Int) < -(2 ^ 63)) || decide ((1 : Int) ≥ 2 ^ 63)) = false := by decide
    have c1 : (items.isEmpty || (1 : Int) == 1) = true := by simp
    wp_walk using wpAny_loadPart' hl
    repeat (first
      | (refine wpAny_ite_false (decide_eq_false (by rw [c0]; exact Bool.false_ne_true)) ?_; wp_walk using wpAny_loadPart' hl)
      | (refine wpAny_ite_true (decide_eq_true c1) ?_; wp_walk using wpAny_loadPart' hl))
    exact ⟨_, rfl, h⟩
/-- tuple * int, from 1 on -/
def rRepTP (K : PySem.W.Frag) : R2 := fun x y H Q => ∃ l k xs, x = .ref l ∧ y = .int k ∧ SqT K H l xs ∧ xs ≠ [] ∧ 1 ≤ k ∧ k ≤ 1000 ∧ xs.length ≤ 1000 ∧ (k = 1 → Q (.ref l) H) ∧ (2 ≤ k → ∀ p, H p = none → Q (.ref p) (upd H p (.tup (List.replicate k.toNat xs).flatten)))
theorem op_repTP {X : Cx} : OpR X (binaryOp .Mult) (rRepTP X.K) := by
  intro pins s σ H x y v u Q I rx ry h
  obtain ⟨l, k, xs, rfl, rfl, hT, hne, h1, h2, hz, q1, q2⟩ := h
  by_cases hk : k = 1
  · subst hk
    cases rx
    obtain ⟨t, rfl⟩ := ry
    obtain ⟨its, r, ⟨⟨cls, dd, data, sl⟩, ho, hc, n, hd⟩, hs⟩ := I.tuple hT
    simp only at hc hd
    subst hc hd
    refine wpAny_binaryOp_repeat_ref (T := "tuple") (U := "int") (by decide) ⟨_, ho, rfl⟩ (fun s' => typeIs_int s' 1 t) noFill_tuple_mul F.fills_int_mul F.slot_int_rmul repeat_tuple F.slot_int_index.lookup
      (call_meets F.slot_int_rmul (typeIs_int s 1 t) F.entry_int_rmul (F.args_int_rmul_2 _ _) (int_rmul_tuple 1 t l its.toArray n dd sl)
        ⟨ho, rfl, ⟨_, ho, rfl⟩, call_meets F.slot_tuple_mul ⟨_, ho, rfl⟩ F.entry_tuple_mul (F.args_tuple_mul_2 _ _) (tuple_mul1 l its.toArray n dd sl t) ⟨ho, ?_⟩⟩)
    exact ⟨.ref l, H, I, rfl, q1 rfl⟩
  · exact op_repT pins s σ H _ _ v u Q I rx ry ⟨l, k, xs, rfl, rfl, hT, hne, by omega, h2, hz, q2 (by omega)⟩
end Z

set_option Elab.async false
set_option linter.all false
set_option maxRecDepth 100000
set_option maxHeartbeats 4000000
/-! Zo: the order of data: <, sorted, min, max. -/
namespace Z
open PySem
open PySem.Spec
open PyProof.Rows
open L2
theorem line_eqO : line = sizeLine := by rw [sizeLine_eq]; rfl
mutual
theorem ofP_toP : ∀ (d : D) (p : PyData), toP d = some p → ofP p = d
  | .non, _, e => by cases e; rfl
  | .bl _, _, e => by cases e; rfl
  | .int _, _, e => by cases e; rfl
  | .str _, _, e => by cases e; rfl
  | .tup l, _, e => by
    simp only [toP, Option.map_eq_some_iff] at e
    obtain ⟨q, e1, e2⟩ := e
    subst e2
    simp only [ofP, ofPs_toPs l q e1]
  | .lst l, _, e => by
    simp only [toP, Option.map_eq_some_iff] at e
    obtain ⟨q, e1, e2⟩ := e
    subst e2
    simp only [ofP, ofPs_toPs l q e1]
  | .dic _ _, _, e => by simp [toP] at e
  | .ins _ _, _, e => by simp [toP] at e
theorem ofPs_toPs : ∀ (l : List D) (ps : List PyData), toPs l = some ps → ofPs ps = l
  | [], _, e => by cases e; rfl
  | d :: l, ps, e => by
    simp only [toPs] at e
    split at e
    · rename_i p q e1 e2
      cases e
      simp only [ofPs, ofP_toP d p e1, ofPs_toPs l q e2]
    · cases e
end
theorem toPs_at : ∀ {l : List D} {ps : List PyData} {i : Nat} {p : PyData}, toPs l = some ps → ps[i]? = some p → ∃ d, l[i]? = some d ∧ toP d = some p
  | [], _, _, _, e, h => by cases e; simp at h
  | d :: l, ps, i, p, e, h => by
    simp only [toPs] at e
    split at e
    · rename_i p0 q e1 e2
      cases e
      cases i with
      | zero => simp at h; subst h; exact ⟨d, rfl, e1⟩
      | succ i => exact toPs_at (l := l) e2 (by simpa using h)
    · cases e
theorem toPs_len : ∀ {l : List D} {ps : List PyData}, toPs l = some ps → ps.length = l.length
  | [], _, e => by cases e; rfl
  | d :: l, ps, e => by
    simp only [toPs] at e
    split at e
    · rename_i p0 q e1 e2
      cases e
      rw [List.length_cons, List.length_cons, toPs_len e2]
    · cases e
theorem toPs_enc : ∀ {l : List D} {ps : List PyData}, toPs l = some ps → l.map encD = ps
  | [], _, e => by cases e; rfl
  | d :: l, ps, e => by
    simp only [toPs] at e
    split at e
    · rename_i p0 q e1 e2
      cases e
      rw [List.map_cons, toPs_enc e2]
      simp [encD, e1]
    · cases e
section
variable {X : Cx} {cm : String → Option Addr} {pins : List (Addr × Obj)} {s : Shared} {σ : L2.St} {F H : Hp}
theorem reads_each (I : Inv X pins σ H s) (sf : Sub F H) : ∀ {ds : List D} {vs : List V} {us : List Value} {ps : List PyData}, Reps X.K cm F ds vs → Vals vs us → toPs ds = some ps →
    PySem.W.EachIs (fun (v : Value) (d : D) => (∃ w, RelV w v ∧ Rep X.K cm F d w) ∧ ∃ as, Reads s.heap v (encD d) as) us ds
  | [], _, _, _, .nil, rv, _ => by cases rv; exact .nil
  | d :: ds, v :: vs, _, ps, .cons h r, rv, e => by
    cases rv with
    | cons ru rr =>
      simp only [toPs] at e
      split at e
      · rename_i p0 q e1 e2
        obtain ⟨as, rd⟩ := Dp.reads I p0 v _ (Rep.dp sf d h e1) ru
        exact .cons ⟨⟨v, ru, h⟩, as, by rw [show encD d = p0 by simp [encD, e1]]; exact rd⟩ (reads_each I sf r rr e2)
      · cases e
theorem each_back : ∀ {us : List Value} {ds : List D}, PySem.W.EachIs (fun (v : Value) (d : D) => ∃ w, RelV w v ∧ Rep X.K cm F d w) us ds → ∃ vs, Vals vs us ∧ Reps X.K cm F ds vs
  | _, _, .nil => ⟨[], .nil, .nil⟩
  | _, _, .cons ⟨w, h1, h2⟩ r => by
    obtain ⟨vs, h3, h4⟩ := each_back r
    exact ⟨w :: vs, .cons h1 h3, .cons h2 h4⟩
theorem each_left {α β : Type} {R S : α → β → Prop} (h : ∀ a b, R a b → S a b) : ∀ {as : List α} {bs : List β}, PySem.W.EachIs R as bs → PySem.W.EachIs S as bs
  | _, _, .nil => .nil
  | _, _, .cons a r => .cons (h _ _ a) (each_left h r)
theorem allAlike_all {ps : List PyData} (h : allAlike ps = true) : PySem.W.AllAlike ps := fun d hd d' hd' => by
  have := List.all_eq_true.mp (List.all_eq_true.mp h d hd) d' hd'
  exact this
theorem sortable_of {ps : List PyData} (h : (ps.all tupP || ps.all othP) = true) : PySem.W.Sortable ps := by
  rw [Bool.or_eq_true] at h
  rcases h with h | h
  · refine .inl fun d hd => ?_
    have := List.all_eq_true.mp h d hd
    unfold tupP at this
    split at this
    · exact ⟨_, _, rfl⟩
    · cases this
  · refine .inr fun d hd => ?_
    have := List.all_eq_true.mp h d hd
    unfold othP at this
    split at this
    · cases this
    · cases this
    · rename_i h1 h2
      exact ⟨h1, fun xs e => h2 xs e⟩
/-- sorted(l), l of alike data -/
theorem sortG_ok (hu : X.A.units + 64 < cLine) (I : Inv X pins σ H s) (sf : Sub F H) {p : Addr} {vs : List V} {l rs : List D} (hs : SqL X.K H p vs) (r : Reps X.K cm F l vs) (e : sortG l = some rs) {Q : V → Hp → Prop}
    (q : ∀ ys p', Reps X.K cm F rs ys → H p' = none → Q (.ref p') (upd H p' (.lst ys))) : wpAny (model X.prog X.w) X.A (call (.builtin "sorted") [.ref p]) (EP X pins σ Q) X.xe s := by
  unfold sortG at e
  split at e
  case h_2 => cases e
  rename_i ps ep
  split at e
  case isFalse => cases e
  rename_i hc
  cases e
  simp only [Bool.and_eq_true, decide_eq_true_eq] at hc
  obtain ⟨c1, c2, c3, c4⟩ := hc
  obtain ⟨its, rv, hl, _⟩ := I.list hs
  have er := reads_each I sf r rv ep
  have em := toPs_enc ep
  refine PySem.W.sorted_data (R := fun (v : Value) (d : D) => ∃ w, RelV w v ∧ Rep X.K cm F d w) (enc := encD) (bs := l) (vs := its) hl.isList (each_left (fun _ _ h => h.1) er) (each_left (fun _ _ h => h.2) er) (by rw [em]; exact allAlike_all c1) (by rw [em]; exact sortable_of c2) (by rw [← line_eqO]; exact c4) (fun b hb => ?_) fun out hlen ho => ?_
  · have hm : encD b ∈ ps := by rw [← em]; exact List.mem_map.mpr ⟨b, hb, rfl⟩
    have := of_decide_eq_true (List.all_eq_true.mp c3 _ hm)
    omega
  · obtain ⟨ws, h1, h2⟩ := each_back ho
    obtain ⟨ep', he'⟩ := PyProof.Rows.sortedAll_at s.heap its out.toArray
    have hz : ws.length ≤ sizeLine := by
      have a1 := h1.length
      have a2 : out.length = l.length := hlen
      rw [a1, a2, ← line_eqO]; exact c4
    exact ⟨.ref _, upd H (s.heap.objs.size + 1) (.lst ws), I.laid (t' := s.toks) (fun _ _ => PyProof.Rows.sortedAll_old) (Nat.le_succ _) ⟨hz, out, ep', h1, he'⟩, rfl, q ws _ h2 (I.hok.fresh (Nat.le_succ _))⟩
theorem alikeAll_of {p : PyData} {ps : List PyData} (h1 : allAlike (p :: ps) = true) (h2 : (p :: ps).all notNone = true) : PySem.W.AlikeAll (p :: ps) :=
  ⟨fun x hx y hy => allAlike_all h1 x hx y hy, fun x hx e => by
    have := List.all_eq_true.mp h2 x hx
    rw [e] at this
    cases this⟩
theorem reads_list (I : Inv X pins σ H s) (sf : Sub F H) {ds : List D} {vs : List V} {us : List Value} {ps : List PyData} (r : Reps X.K cm F ds vs) (rv : Vals vs us) (e : toPs ds = some ps) : ∃ as, ReadsAll s.heap us ps as :=
  Dp.readsAll I ps vs us (Reps.dp sf ds r e) rv
theorem picked (I : Inv X pins σ H s) (sf : Sub F H) {ds : List D} {vs : List V} {us : List Value} {ps : List PyData} (r : Reps X.K cm F ds vs) (rv : Vals vs us) (e : toPs ds = some ps) {i : Nat} {v : Value} {h' : Heap} {m : PyData} {bs : List Addr}
    (hv : us[i]? = some v) (hr : Reads h' v m bs) (hk : ∀ b o, s.heap.get? b = some o → h'.get? b = some o) : ∃ w, RelV w v ∧ Rep X.K cm F (ofP m) w := by
  obtain ⟨w, hw, rw1⟩ : ∃ w, vs[i]? = some w ∧ RelV w v := by
    clear e r
    induction rv generalizing i with
    | nil => simp at hv
    | cons a b ih => cases i with
      | zero => simp at hv; subst hv; exact ⟨_, rfl, a⟩
      | succ i => exact ih (by simpa using hv)
  obtain ⟨d, hd, rd⟩ := r.at' hw
  have hi : i < ps.length := by
    have := List.getElem?_eq_some_iff.mp hd
    obtain ⟨h1, _⟩ := this
    rw [toPs_len e]; exact h1
  obtain ⟨d', hd', tp⟩ := toPs_at e (List.getElem?_eq_getElem hi)
  rw [hd] at hd'
  cases hd'
  obtain ⟨as, ra⟩ := Dp.reads I _ w v (Rep.dp sf d rd tp) rw1
  have ra' := PyProof.Rows.Reads.keeps hk ra
  obtain ⟨em, _⟩ := Reads.unique ra' _ _ hr
  subst em
  rw [ofP_toP d _ tp]
  exact ⟨w, rw1, rd⟩
theorem minO_ok (hc : X.calm = true) (hu : X.A.units + 64 < cLine) (I : Inv X pins σ H s) (sf : Sub F H) {p : Addr} {vs : List V} {l : List D} {m : D} (hs : SqL X.K H p vs) (r : Reps X.K cm F l vs) (e : minO l = some m) {Q : V → Hp → Prop}
    (q : ∀ w, Rep X.K cm F m w → Q w H) : wpAny (model X.prog X.w) X.A (call (.builtin "min") [.ref p]) (EP X pins σ Q) X.xe s := by
  unfold minO at e
  split at e
  case h_2 => cases e
  rename_i p0 ps ep
  split at e
  case isFalse => cases e
  rename_i hcc
  cases e
  simp only [Bool.and_eq_true, decide_eq_true_eq] at hcc
  obtain ⟨c1, c2, c3⟩ := hcc
  obtain ⟨its, rv, hl, _⟩ := I.list hs
  obtain ⟨as, ra⟩ := reads_list I sf r rv ep
  refine PySem.W.min_list_data (I.ok.hd hc) hl.isList (by simpa using ra) (alikeAll_of c1 c2) (by omega) fun i v h' tk bs hv hr hk => ?_
  obtain ⟨w, h1, h2⟩ := picked I sf r rv ep (by simpa using hv) hr hk
  exact ⟨w, H, I.kept hk, h1, q w h2⟩
theorem maxO_ok (hc : X.calm = true) (hu : X.A.units + 64 < cLine) (I : Inv X pins σ H s) (sf : Sub F H) {p : Addr} {vs : List V} {l : List D} {m : D} (hs : SqL X.K H p vs) (r : Reps X.K cm F l vs) (e : maxO l = some m) {Q : V → Hp → Prop}
    (q : ∀ w, Rep X.K cm F m w → Q w H) : wpAny (model X.prog X.w) X.A (call (.builtin "max") [.ref p]) (EP X pins σ Q) X.xe s := by
  unfold maxO at e
  split at e
  case h_2 => cases e
  rename_i p0 ps ep
  split at e
  case isFalse => cases e
  rename_i hcc
  cases e
  simp only [Bool.and_eq_true, decide_eq_true_eq] at hcc
  obtain ⟨c1, c2, c3⟩ := hcc
  obtain ⟨its, rv, hl, _⟩ := I.list hs
  obtain ⟨as, ra⟩ := reads_list I sf r rv ep
  refine PySem.W.max_list_data (I.ok.hd hc) hl.isList (by simpa using ra) (alikeAll_of c1 c2) (by omega) fun i v h' tk bs hv hr hk => ?_
  obtain ⟨w, h1, h2⟩ := picked I sf r rv ep (by simpa using hv) hr hk
  exact ⟨w, H, I.kept hk, h1, q w h2⟩
end
end Z

set_option Elab.async false
set_option linter.all false
set_option maxRecDepth 100000
set_option maxHeartbeats 4000000
/-! Z3: the operations on values do what they do on data. -/
namespace Z
open PySem
open PySem.Spec
open PyProof.Rows
open L2

/-- what an operation reads: frozen, or an own list, dict -/
def Vw (K : PySem.W.Frag) (cm : String → Option Addr) (F H : Hp) (d : D) (v : V) : Prop :=
  Rep K cm F d v ∨ (∃ p vs ds, d = .lst ds ∧ v = .ref p ∧ H p = some (.lst vs) ∧ Reps K cm F ds vs) ∨ (∃ t l p, d = .dic t l ∧ v = .ref p ∧ DicAt K cm F t l (H p))
/-- what an operation gives -/
def New (K : PySem.W.Frag) (cm : String → Option Addr) (F H : Hp) (w : W) (v : V) (F' H' : Hp) : Prop :=
  Sub F F' ∧ Sub F' H' ∧ Sub H H' ∧ (∀ a o, H a = some o → F a = none → F' a = none) ∧ match w with
  | .sh d => Rep K cm F' d v
  | .ol ds => ∃ p vs, v = .ref p ∧ H p = none ∧ F' p = none ∧ H' p = some (.lst vs) ∧ Reps K cm F' ds vs
  | _ => False
section
variable {K : PySem.W.Frag} {cm : String → Option Addr} {F H : Hp}
theorem New.same {d : D} {v : V} (s : Sub F H) (h : Rep K cm F d v) : New K cm F H (.sh d) v F H := ⟨Sub.refl F, s, Sub.refl H, fun _ _ _ h => h, h⟩
theorem none_of_sub {F H : Hp} {p : Addr} (s : Sub F H) (h : H p = none) : F p = none := by
  cases e : F p with
  | none => rfl
  | some o => rw [s p o e] at h; cases h
theorem New.lst {ds : List D} {vs : List V} {p : Addr} (s : Sub F H) (hp : H p = none) (r : Reps K cm F ds vs) : New K cm F H (.ol ds) (.ref p) F (upd H p (.lst vs)) :=
  ⟨Sub.refl F, s.trans (Sub.new hp), Sub.new hp, fun _ _ _ h => h, p, vs, rfl, hp, none_of_sub s hp, upd_same, r⟩
theorem sub_upd2 {F H : Hp} {p : Addr} {o : HO} (s : Sub F H) : Sub (upd F p o) (upd H p o) := fun a u e => by
  by_cases h : a = p
  · subst h; rw [upd_same] at e ⊢; exact e
  · rw [upd_ne h] at e ⊢; exact s a u e
theorem New.tup {ds : List D} {vs : List V} {p : Addr} (s : Sub F H) (hp : H p = none) (r : Reps K cm F ds vs) : New K cm F H (.sh (.tup ds)) (.ref p) (upd F p (.tup vs)) (upd H p (.tup vs)) :=
  ⟨Sub.new (none_of_sub s hp), sub_upd2 s, Sub.new hp, fun a o h f => by rw [upd_ne (ne_of_none h hp)]; exact f,   .tup upd_same (r.mono (Sub.new (none_of_sub s hp)))⟩
theorem Vw.lst {ds : List D} {v : V} (s : Sub F H) (h : Vw K cm F H (.lst ds) v) : ∃ p vs, v = .ref p ∧ SqP K H p vs ∧ Reps K cm F ds vs := by
  rcases h with h | ⟨p, vs, ds', e, rfl, hp, r⟩ | ⟨_, _, _, e, _⟩
  · cases h with
    | lst h r => exact ⟨_, _, rfl, s.sqp h, r⟩
  · cases e
    exact ⟨p, vs, rfl, .inl (.inl hp), r⟩
  · cases e
theorem Vw.tup {ds : List D} {v : V} (s : Sub F H) (h : Vw K cm F H (.tup ds) v) : ∃ p vs, v = .ref p ∧ F p = some (.tup vs) ∧ Reps K cm F ds vs := by
  rcases h with h | ⟨p, vs, ds', e, rfl, hp, r⟩ | ⟨_, _, _, e, _⟩
  · cases h with
    | tup h r => exact ⟨_, _, rfl, h, r⟩
  · cases e
  · cases e
theorem Vw.dic {t : Bool} {l : List (D × D)} {v : V} (s : Sub F H) (h : Vw K cm F H (.dic t l) v) : ∃ p, v = .ref p ∧ DicAt K cm F t l (H p) := by
  rcases h with h | ⟨p, vs, ds', e, rfl, hp, r⟩ | ⟨_, _, _, e, rfl, r⟩
  · cases h with
    | dicK h r => exact ⟨_, rfl, _, s _ _ h, r⟩
    | dicT h r => exact ⟨_, rfl, _, s _ _ h, r⟩
  · cases e
  · cases e
    exact ⟨_, rfl, r⟩
theorem Vw.int {i : Int} {v : V} (h : Vw K cm F H (.int i) v) : v = .int i := by
  rcases h with h | ⟨p, vs, ds', e, rfl, hp, r⟩ | ⟨_, _, _, e, _⟩ <;> first | (cases h; rfl) | cases e
theorem Vw.str {i : Str} {v : V} (h : Vw K cm F H (.str i) v) : v = .str i := by
  rcases h with h | ⟨p, vs, ds', e, rfl, hp, r⟩ | ⟨_, _, _, e, _⟩ <;> first | (cases h; rfl) | cases e
theorem Vw.bl {i : Bool} {v : V} (h : Vw K cm F H (.bl i) v) : v = .bl i := by
  rcases h with h | ⟨p, vs, ds', e, rfl, hp, r⟩ | ⟨_, _, _, e, _⟩ <;> first | (cases h; rfl) | cases e
theorem Vw.non {v : V} (h : Vw K cm F H .non v) : v = .non := by
  rcases h with h | ⟨p, vs, ds', e, rfl, hp, r⟩ | ⟨_, _, _, e, _⟩ <;> first | (cases h; rfl) | cases e
theorem Vw.flat {d : D} {v : V} (h : Vw K cm F H d v) (f : flatD d = true) : v = toV d ∧ flatV v = true := by
  rcases h with h | ⟨p, vs, ds', rfl, rfl, hp, r⟩ | ⟨_, _, _, rfl, _⟩
  · exact h.flat f
  · cases f
  · cases f
theorem Vw.dp {d : D} {v : V} {p : PyData} (s : Sub F H) (h : Vw K cm F H d v) (e : toP d = some p) : Dp K H v p := by
  rcases h with h | ⟨a, vs, ds, rfl, rfl, hp, r⟩ | ⟨_, _, _, rfl, _⟩
  · exact h.dp s d e
  · simp only [toP, Option.map_eq_some_iff] at e
    obtain ⟨q, e1, e2⟩ := e
    subst e2
    exact .lst (.inl (.inl hp)) (Reps.dp s ds r e1)
  · simp [toP] at e
theorem line_eq : line = sizeLine := by rw [sizeLine_eq]; rfl
end

section
variable {X : Cx} {pins : List (Addr × Obj)} {s : Shared} {σ : L2.St} {H : Hp}
theorem rd_lst {l : Addr} {xs : List V} (I : Inv X pins σ H s) (hH : SqP X.K H l xs) : xs.length ≤ sizeLine ∧ ∃ (its : List Value) (n : Nat), Vals xs its ∧ xs.length = its.length ∧ s.heap.get? l = some { cls := .type "list", data := .seq its.toArray n } := by
  rcases hH with hH | ⟨its, n, h1, h2, h3⟩
  · obtain ⟨z, its, n, r, e⟩ := (show ObjOk X.prog X.w H s.heap l (.lst xs) from hH.ok I.hok)
    exact ⟨z, its, n, r, r.length, e⟩
  · exact ⟨by rw [h3.length]; exact h2, its, n, h3, h3.length, I.kIn _ _ h1⟩
/-- list + list, whatever may be read -/
def rCatR (K : PySem.W.Frag) : R2 := fun x y H Q => ∃ l b xs zs, x = .ref l ∧ y = .ref b ∧ SqP K H l xs ∧ SqP K H b zs ∧ xs.length + zs.length ≤ sizeLine ∧ ∀ p, H p = none → Q (.ref p) (upd H p (.lst (xs ++ zs)))
theorem op_catR : OpR X (binaryOp .Add) (rCatR X.K) := by
  intro pins s σ H x y v u Q I rx ry h
  obtain ⟨l, b, xs, zs, rfl, rfl, hH, hB, hz, q⟩ := h
  cases rx
  cases ry
  obtain ⟨z, its, n, r, hl, e⟩ := rd_lst I hH
  obtain ⟨z2, its2, n2, r2, hl2, e2⟩ := rd_lst I hB
  have hs2 : its.toArray.size + its2.toArray.size ≤ sizeLine := by
    rw [List.size_toArray, List.size_toArray]
    omega
  refine PySem.P.add_list e e2 ?_ hs2
  rw [show its.toArray ++ its2.toArray = (its ++ its2).toArray by simp]
  refine ⟨.ref _, _, I.lnew (t' := s.toks) (r.append r2) ?_, rfl, q _ I.fresh⟩
  rw [List.length_append]
  exact hz

/-- a list many times over, whatever may be read -/
def rRepP (K : PySem.W.Frag) : R2 := fun x y H Q => ∃ l m xs, x = .ref l ∧ y = .int m ∧ SqP K H l xs ∧ -(2 ^ 63) ≤ m ∧ m < 2 ^ 63 ∧ xs.length * m.toNat ≤ sizeLine ∧ ∀ p, H p = none → Q (.ref p) (upd H p (.lst (List.replicate m.toNat xs).flatten))
theorem op_repP : OpR X (binaryOp .Mult) (rRepP X.K) := by
  intro pins s σ H x y v u Q I rx ry h
  obtain ⟨l, m, xs, rfl, rfl, hH, m1, m2, hz, q⟩ := h
  cases rx
  obtain ⟨tk, rfl⟩ := ry
  obtain ⟨_, ts, c, r, hl, at_⟩ := rd_lst I hH
  have len : ts.toArray.size * m.toNat ≤ sizeLine := by rw [List.size_toArray, ← hl]; exact hz
  have nocap : ¬ ts.toArray.size * m.toNat > (2 ^ 63 - 1) / 8 := fun z => by
    have small : (sizeLine : Nat) ≤ (2 ^ 63 - 1) / 8 := by decide
    omega
  have fits : ¬ (!Builtin.List.listFitsIndex m) = true := fun z => by
    rw [fitsIndex_both m1 m2] at z
    cases z
  have long : ¬ Builtin.List.listTooLong (ts.toArray.size * m.toNat) = true := fun z => by
    rw [notLongL len] at z
    cases z
  have all : ∀ j : Nat, List.foldl (fun a b => a ++ b) #[] (List.replicate j ts.toArray) = (List.replicate j ts).flatten.toArray := fun j => by
    have z := foldl_rep ts j []
    rwa [List.nil_append] at z
  have made : List.foldl (fun a b => a ++ b) #[] (List.replicate (if ts.toArray.isEmpty = true then 0 else m.toNat) ts.toArray) = (List.replicate m.toNat ts).flatten.toArray := by
    rw [all]
    cases ts with
    | nil => simp
    | cons d r' => rw [if_neg (by simp)]
  refine wpAny_binaryOp_repeat_ref (T := "list") (U := "int") (by decide) ⟨_, at_, rfl⟩ (fun s' => typeIs_int s' m tk) noFill_list_mul F.fills_int_mul F.slot_int_rmul repeat_list F.slot_int_index.lookup
    (call_meets F.slot_int_rmul (typeIs_int s m tk) F.entry_int_rmul (F.args_int_rmul_2 _ _) (int___rmul___int_list m tk l ts.toArray c)
      ⟨at_, rfl, ⟨_, at_, rfl⟩, call_meets F.slot_list_mul ⟨_, at_, rfl⟩ F.entry_list_mul (F.args_list_mul_2 _ _) (AutoListH.list___mul___list_int_3 l ts.toArray c m tk fits nocap long) ⟨at_, ?_⟩⟩)
  rw [made]
  exact ⟨.ref _, _, I.lnew (t' := s.toks) (r.rep m.toNat) (by rw [PyProof.Rows.lm_len_rep_flat, Nat.mul_comm]; exact hz), rfl, q _ I.fresh⟩
theorem Reps.rep {F : Hp} {K : PySem.W.Frag} {ds : List D} {vs : List V} (r : Reps K cm F ds vs) : ∀ m : Nat, Reps K cm F (List.replicate m ds).flatten (List.replicate m vs).flatten
  | 0 => .nil
  | m + 1 => by
    rw [List.replicate_succ, List.replicate_succ, List.flatten_cons, List.flatten_cons]
    exact r.append (Reps.rep r m)

/-! ### two-place operators -/
/-- data in, data out -/
def rZ (K : PySem.W.Frag) (cm : String → Option Addr) (o : D → D → R W) : R2 := fun x y H Q => ∃ F dx dy w, Sub F H ∧ Vw K cm F H dx x ∧ Vw K cm F H dy y ∧ o dx dy = .ok w ∧ ∀ v F' H', New K cm F H w v F' H' → Q v H'
def bopOf : Bop → Operator
  | .add => .Add
  | .sub => .Sub
  | .mul => .Mult
  | .fdiv => .FloorDiv
  | .mod => .Mod
  | .pow => .Pow
variable {cm : String → Option Addr}
theorem mulOk_c {i j : Int} (h : mulOk i j = true) : CMul i j := by
  simp only [mulOk, Bool.or_eq_true, decide_eq_true_eq] at h
  exact h
theorem op_binZ (o : Bop) : OpR X (binaryOp (bopOf o)) (rZ X.K cm (binO o)) := by
  intro pins s σ H x y v u Q I rx ry h
  obtain ⟨F, dx, dy, w, sf, hx, hy, e, q⟩ := h
  unfold binO at e
  split at e
  · have e1 := hx.int; have e2 := hy.int; subst e1 e2; cases e
    exact op_add pins s σ H _ _ v u Q I rx ry ⟨_, _, rfl, rfl, q _ F H (New.same sf (.int _))⟩
  · have e1 := hx.str; have e2 := hy.str; subst e1 e2
    split at e
    · rename_i hz
      cases e
      exact op_add_str pins s σ H _ _ v u Q I rx ry ⟨_, _, rfl, rfl, by rw [← line_eq]; exact hz, q _ F H (New.same sf (.str _))⟩
    · cases e
  · obtain ⟨p, vs, rfl, h1, r1⟩ := hx.lst sf
    obtain ⟨p', vs', rfl, h2, r2⟩ := hy.lst sf
    split at e
    · rename_i hz
      cases e
      refine op_catR pins s σ H _ _ v u Q I rx ry ⟨_, _, vs, vs', rfl, rfl, h1, h2, ?_, fun p hp => q _ F _ (New.lst sf hp (r1.append r2))⟩
      rw [← r1.length, ← r2.length, ← line_eq]; exact hz
    · cases e
  · obtain ⟨p, vs, rfl, h1, r1⟩ := hx.tup sf
    obtain ⟨p', vs', rfl, h2, r2⟩ := hy.tup sf
    split at e
    · rename_i hz
      cases e
      refine op_catA pins s σ H _ _ v u Q I rx ry ⟨_, _, vs, vs', rfl, rfl, .inl (.inl (sf _ _ h1)), .inl (.inl (sf _ _ h2)), ?_, fun z => ?_, fun z z' => ?_, fun _ _ p hp => q _ _ _ (New.tup sf hp (r1.append r2))⟩
      · rw [← r1.length, ← r2.length, ← line_eq]; exact hz
      · subst z
        cases r1
        exact q _ F H (New.same sf (.tup h2 r2))
      · subst z'
        cases r2
        exact q _ F H (New.same sf (.tup h1 (by rw [List.append_nil]; exact r1)))
    · cases e
  · have e1 := hx.int; have e2 := hy.int; subst e1 e2; cases e
    exact op_sub pins s σ H _ _ v u Q I rx ry ⟨_, _, rfl, rfl, q _ F H (New.same sf (.int _))⟩
  · have e1 := hx.int; have e2 := hy.int; subst e1 e2
    split at e
    · rename_i hz
      cases e
      exact op_mul pins s σ H _ _ v u Q I rx ry ⟨_, _, rfl, rfl, mulOk_c hz, q _ F H (New.same sf (.int _))⟩
    · cases e
  · obtain ⟨p, vs, rfl, h1, r1⟩ := hx.lst sf
    have e2 := hy.int; subst e2
    split at e
    · rename_i hz
      cases e
      exact op_repP pins s σ H _ _ v u Q I rx ry ⟨p, _, vs, rfl, rfl, h1, hz.1, hz.2.1, by rw [← r1.length, ← line_eq]; exact hz.2.2, fun p hp => q _ F _ (New.lst sf hp (r1.rep _))⟩
    · cases e
  · obtain ⟨p, vs, rfl, h1, r1⟩ := hx.tup sf
    have e2 := hy.int; subst e2
    split at e
    · rename_i l k hz
      cases e
      refine op_repTP pins s σ H _ _ v u Q I rx ry ⟨p, k, vs, rfl, rfl, .inl (.inl (sf _ _ h1)), fun z => ?_, hz.2.1, hz.2.2.1, by rw [← r1.length]; exact hz.2.2.2, fun k1 => ?_, fun _ p' hp => q _ _ _ (New.tup sf hp (r1.rep _))⟩
      · subst z
        cases r1
        simp at hz
      · subst k1
        have e3 : (List.replicate (1 : Int).toNat l).flatten = l := by simp
        rw [e3] at q
        exact q _ F H (New.same sf (.tup h1 r1))
    · cases e
  · have e1 := hx.int; have e2 := hy.int; subst e1 e2
    split at e
    · rename_i hz
      cases e
      exact op_fdiv pins s σ H _ _ v u Q I rx ry ⟨_, _, rfl, rfl, hz, q _ F H (New.same sf (.int _))⟩
    · cases e
  · have e1 := hx.int; have e2 := hy.int; subst e1 e2
    split at e
    · rename_i hz
      cases e
      exact op_mod pins s σ H _ _ v u Q I rx ry ⟨_, _, rfl, rfl, hz, q _ F H (New.same sf (.int _))⟩
    · cases e
  · have e1 := hx.int; have e2 := hy.int; subst e1 e2
    split at e
    · rename_i hz
      cases e
      exact op_pow pins s σ H _ _ v u Q I rx ry ⟨_, _, rfl, rfl, hz, q _ F H (New.same sf (.int _))⟩
    · cases e
  · cases e

/-! ### dicts -/
theorem repK_get {K : PySem.W.Frag} {F : Hp} {k : L2.Key} : ∀ {l : List (D × D)} {m : List (L2.Key × V)}, RepK K cm F l m →
    (∀ d, dget false [k] l = some d → ∃ v, valV m k = some v ∧ Rep K cm F d v) ∧ (dget false [k] l = none → valV m k = none)
  | _, _, .nil => ⟨fun d e => (by cases e), fun _ => rfl⟩
  | (a, d) :: l, (k', v) :: m, .cons ha hd r => by
    obtain ⟨i1, i2⟩ := repK_get (k := k) r
    have ek : keyD false a = some [k'] := by simp [keyD, ha]
    by_cases e : k' = k
    · subst e
      have h1 : dget false [k'] ((a, d) :: l) = some d := by simp [dget, List.find?_cons, ek]
      have h2 : valV ((k', v) :: m) k' = some v := by simp [valV, List.find?_cons]
      rw [h1, h2]
      exact ⟨fun d' q => by cases q; exact ⟨v, rfl, hd⟩, fun q => by cases q⟩
    · have h1 : dget false [k] ((a, d) :: l) = dget false [k] l := by simp [dget, List.find?_cons, ek, e]
      have h2 : valV ((k', v) :: m) k = valV m k := by simp [valV, List.find?_cons, e]
      rw [h1, h2]
      exact ⟨i1, i2⟩
theorem repT_get {K : PySem.W.Frag} {F : Hp} {k : List L2.Key} : ∀ {l : List (D × D)} {m : List (List L2.Key × V)}, RepT K cm F l m →
    (∀ d, dget true k l = some d → ∃ v, valV m k = some v ∧ Rep K cm F d v) ∧ (dget true k l = none → valV m k = none)
  | _, _, .nil => ⟨fun d e => (by cases e), fun _ => rfl⟩
  | (.tup a, d) :: l, (k', v) :: m, .cons ha hd r => by
    obtain ⟨i1, i2⟩ := repT_get (k := k) r
    have ek : keyD true (.tup a) = some k' := ha
    by_cases e : k' = k
    · subst e
      have h1 : dget true k' ((.tup a, d) :: l) = some d := by simp [dget, List.find?_cons, ek]
      have h2 : valV ((k', v) :: m) k' = some v := by simp [valV, List.find?_cons]
      rw [h1, h2]
      exact ⟨fun d' q => by cases q; exact ⟨v, rfl, hd⟩, fun q => by cases q⟩
    · have h1 : dget true k ((.tup a, d) :: l) = dget true k l := by simp [dget, List.find?_cons, ek, e]
      have h2 : valV ((k', v) :: m) k = valV m k := by simp [valV, List.find?_cons, e]
      rw [h1, h2]
      exact ⟨i1, i2⟩
theorem repK_any {K : PySem.W.Frag} {F : Hp} {k : L2.Key} : ∀ {l : List (D × D)} {m : List (L2.Key × V)}, RepK K cm F l m → (l.any fun p => decide (keyD false p.1 = some [k])) = m.any fun kv => decide (kv.1 = k)
  | _, _, .nil => rfl
  | (a, d) :: l, (k', v) :: m, .cons ha hd r => by
    have ek : keyD false a = some [k'] := by simp [keyD, ha]
    rw [List.any_cons, List.any_cons, repK_any r, ek]
    simp
theorem repT_any {K : PySem.W.Frag} {F : Hp} {k : List L2.Key} : ∀ {l : List (D × D)} {m : List (List L2.Key × V)}, RepT K cm F l m → (l.any fun p => decide (keyD true p.1 = some k)) = m.any fun kv => decide (kv.1 = k)
  | _, _, .nil => rfl
  | (.tup a, d) :: l, (k', v) :: m, .cons ha hd r => by
    have ek : keyD true (.tup a) = some k' := ha
    rw [List.any_cons, List.any_cons, repT_any r, ek]
    simp
theorem repK_map {K : PySem.W.Frag} {F : Hp} {k : L2.Key} {b : D} {y : V} (hb : Rep K cm F b y) : ∀ {l : List (D × D)} {m : List (L2.Key × V)}, RepK K cm F l m →
    RepK K cm F (l.map fun p => if keyD false p.1 = some [k] then (p.1, b) else p) (m.map fun kv => if kv.1 = k then (kv.1, y) else kv)
  | _, _, .nil => .nil
  | (a, d) :: l, (k', v) :: m, .cons ha hd r => by
    have ek : keyD false a = some [k'] := by simp [keyD, ha]
    rw [List.map_cons, List.map_cons]
    by_cases e : k' = k
    · subst e
      rw [if_pos ek, if_pos rfl]
      exact .cons ha hb (repK_map hb r)
    · rw [if_neg (by rw [ek]; simpa using e), if_neg e]
      exact .cons ha hd (repK_map hb r)
theorem repT_map {K : PySem.W.Frag} {F : Hp} {k : List L2.Key} {b : D} {y : V} (hb : Rep K cm F b y) : ∀ {l : List (D × D)} {m : List (List L2.Key × V)}, RepT K cm F l m →
    RepT K cm F (l.map fun p => if keyD true p.1 = some k then (p.1, b) else p) (m.map fun kv => if kv.1 = k then (kv.1, y) else kv)
  | _, _, .nil => .nil
  | (.tup a, d) :: l, (k', v) :: m, .cons ha hd r => by
    have ek : keyD true (.tup a) = some k' := ha
    rw [List.map_cons, List.map_cons]
    by_cases e : k' = k
    · subst e
      rw [if_pos ek, if_pos rfl]
      exact .cons ha hb (repT_map hb r)
    · rw [if_neg (by rw [ek]; simpa using e), if_neg e]
      exact .cons ha hd (repT_map hb r)
theorem RepK.append {K : PySem.W.Frag} {F : Hp} : ∀ {l l' : List (D × D)} {m m' : List (L2.Key × V)}, RepK K cm F l m → RepK K cm F l' m' → RepK K cm F (l ++ l') (m ++ m')
  | _, _, _, _, .nil, h => h
  | _, _, _, _, .cons a b r, h => .cons a b (RepK.append r h)
theorem RepT.append {K : PySem.W.Frag} {F : Hp} : ∀ {l l' : List (D × D)} {m m' : List (List L2.Key × V)}, RepT K cm F l m → RepT K cm F l' m' → RepT K cm F (l ++ l') (m ++ m')
  | _, _, _, _, .nil, h => h
  | _, _, _, _, .cons a b r, h => .cons a b (RepT.append r h)
theorem RepK.length {K : PySem.W.Frag} {F : Hp} : ∀ {l : List (D × D)} {m : List (L2.Key × V)}, RepK K cm F l m → l.length = m.length
  | _, _, .nil => rfl
  | _, _, .cons _ _ r => by rw [List.length_cons, List.length_cons, RepK.length r]
theorem RepT.length {K : PySem.W.Frag} {F : Hp} : ∀ {l : List (D × D)} {m : List (List L2.Key × V)}, RepT K cm F l m → l.length = m.length
  | _, _, .nil => rfl
  | _, _, .cons _ _ r => by rw [List.length_cons, List.length_cons, RepT.length r]
theorem key1_V {K : PySem.W.Frag} {F : Hp} {d : D} {v : V} {k : L2.Key} (h : Rep K cm F d v) (e : key1 d = some k) : v = kV k := by
  cases h <;> first | (cases e; rfl) | cases e
theorem keys1_V {K : PySem.W.Frag} {F : Hp} : ∀ {ds : List D} {vs : List V} {k : List L2.Key}, Reps K cm F ds vs → keys1 ds = some k → vs = k.map kV
  | _, _, _, .nil, e => by cases e; rfl
  | d :: ds, v :: vs, k, .cons h r, e => by
    simp only [keys1] at e
    split at e
    · rename_i p q e1 e2
      cases e
      rw [List.map_cons, key1_V h e1, keys1_V r e2]
    · cases e
/-- what a look into a dict finds -/
theorem dicAt_get {K : PySem.W.Frag} {F : Hp} {t : Bool} {l : List (D × D)} {a : Addr} {d : D} {y : V} {k : List L2.Key} (sf : Sub F H) (h : DicAt K cm F t l (H a)) (hy : Rep K cm F d y) (ek : keyD t d = some k) :
    ∃ o, DGet H a y o ∧ (∀ b, dget t k l = some b → ∃ v, o = some v ∧ Rep K cm F b v) ∧ (dget t k l = none → o = none) := by
  cases t with
  | false =>
    obtain ⟨m, e, r⟩ := h
    simp only [keyD, Option.map_eq_some_iff] at ek
    obtain ⟨k', e1, e2⟩ := ek
    subst e2
    have ev := key1_V hy e1
    subst ev
    obtain ⟨g1, g2⟩ := repK_get (k := k') r
    exact ⟨valV m k', DGet.k e, g1, g2⟩
  | true =>
    obtain ⟨m, e, r⟩ := h
    cases hy with
    | tup ht hr =>
      have ev := keys1_V hr ek
      subst ev
      obtain ⟨g1, g2⟩ := repT_get (k := k) r
      exact ⟨valV m k, DGet.t e (sf _ _ ht), g1, g2⟩
    | _ => simp [keyD] at ek
theorem dicAt_put {K : PySem.W.Frag} {F : Hp} {t : Bool} {l : List (D × D)} {a : Addr} {d b : D} {y z : V} {k : List L2.Key} (sf : Sub F H) (h : DicAt K cm F t l (H a)) (hy : Rep K cm F d y) (hb : Rep K cm F b z) (ek : keyD t d = some k) (hl : l.length < line) :
    ∃ o, DPut H a y z (upd H a o) ∧ DicAt K cm F t (dput t k d b l) (some o) := by
  cases t with
  | false =>
    obtain ⟨m, e, r⟩ := h
    simp only [keyD, Option.map_eq_some_iff] at ek
    obtain ⟨k', e1, e2⟩ := ek
    subst e2
    have ev := key1_V hy e1
    subst ev
    refine ⟨_, DPut.k e (by rw [← r.length, ← line_eq]; exact hl), _, rfl, ?_⟩
    unfold dput putK
    rw [repK_any r]
    split
    · exact repK_map hb r
    · exact r.append (.cons e1 hb .nil)
  | true =>
    obtain ⟨m, e, r⟩ := h
    cases hy with
    | tup ht hr =>
      have ev := keys1_V hr ek
      subst ev
      refine ⟨_, DPut.t e (sf _ _ ht) (by rw [← r.length, ← line_eq]; exact hl), _, rfl, ?_⟩
      unfold dput putK
      rw [repT_any r]
      split
      · exact repT_map hb r
      · exact r.append (.cons ek hb .nil)
    | _ => simp [keyD] at ek

/-! ### comparisons -/
def copOf : Cop → CmpOp
  | .eq => .Eq
  | .ne => .NotEq
  | .lt => .Lt
  | .le => .LtE
  | .gt => .Gt
  | .ge => .GtE
  | .isin => .In
  | .notin => .NotIn
  | .is_ => .Is
  | .isnot => .IsNot
theorem ofO_ok {α : Type} {o : Option α} {β : Type} {f : α → R β} {b : β} (h : (ofO o).bind f = .ok b) : ∃ a, o = some a ∧ f a = .ok b := by
  cases o with
  | none => cases h
  | some a => exact ⟨a, rfl, h⟩
theorem bind_okE {α β : Type} {r : R α} {f : α → R β} {b : β} (h : r.bind f = .ok b) : ∃ a, r = .ok a ∧ f a = .ok b := by
  cases r with
  | ok a => exact ⟨a, rfl, h⟩
  | ex _ _ _ => cases h
  | bad => cases h
theorem Vw.rep_key {K : PySem.W.Frag} {F : Hp} {t : Bool} {d : D} {v : V} {k : List L2.Key} (sf : Sub F H) (h : Vw K cm F H d v) (e : keyD t d = some k) : Rep K cm F d v := by
  rcases h with h | ⟨a, vs, ds, rfl, rfl, hp, r⟩ | ⟨_, _, _, rfl, _⟩
  · exact h
  · cases t <;> simp [keyD, key1] at e
  · cases t <;> simp [keyD, key1] at e
theorem eqO_of {x y : D} {b : Bool} (h : eqO x y = some b) : ∃ p q, toP x = some p ∧ toP y = some q ∧ SeqAt.shaped p = true ∧ SeqAt.shaped q = true ∧ b = PyData.eqv p q := by
  unfold eqO at h
  split at h
  · rename_i p q e1 e2
    split at h
    · rename_i hs
      rw [Bool.and_eq_true] at hs
      cases h
      exact ⟨p, q, e1, e2, hs.1, hs.2, rfl⟩
    · cases h
  · cases h
theorem inO_of {K : PySem.W.Frag} {F : Hp} {x : D} {l : List D} {b : Bool} {v : V} {vs : List V} (h : inO x l = some b) (hx : Vw K cm F H x v) (r : Reps K cm F l vs) : flatV v = true ∧ vs.all flatV = true ∧ b = inV v vs := by
  unfold inO at h
  split at h
  · rename_i hs
    rw [Bool.and_eq_true] at hs
    cases h
    obtain ⟨e1, f1⟩ := hx.flat hs.1
    obtain ⟨e2, f2⟩ := r.flat hs.2
    exact ⟨f1, f2, by rw [e1, e2]⟩
  · cases h
theorem Vw.isNon {K : PySem.W.Frag} {F : Hp} {d : D} {v : V} (h : Vw K cm F H d v) : decide (v = V.non) = isNon d := by
  rcases h with h | ⟨a, vs, ds, rfl, rfl, hp, r⟩ | ⟨_, _, _, rfl, rfl, _⟩
  · cases h <;> rfl
  · rfl
  · rfl
theorem ltO_of {x y : D} {b : Bool} (h : ltO x y = some b) : ∃ p q, toP x = some p ∧ toP y = some q ∧ PySem.W.alike p q = true ∧ p ≠ .none ∧ p.depth ≤ 56 ∧ b = PySem.W.dataLt p q := by
  unfold ltO at h
  split at h
  · rename_i p q e1 e2
    split at h
    · rename_i hc
      cases h
      simp only [Bool.and_eq_true, decide_eq_true_eq] at hc
      refine ⟨p, q, e1, e2, hc.1, fun z => ?_, hc.2.2, rfl⟩
      have h2 := hc.2.1
      rw [z] at h2
      cases h2
    · cases h
  · cases h
theorem op_cmpZ (hu : X.A.units + 64 < cLine) (o : Cop) : OpR X (compareOp (copOf o)) (rZ X.K cm (cmpO o)) := by
  intro pins s σ H x y v u Q I rx ry h
  obtain ⟨F, dx, dy, w, sf, hx, hy, e, q⟩ := h
  have hu1 : X.A.units + 1 < cLine := by omega
  unfold cmpO at e
  split at e
  · obtain ⟨b, e1, e2⟩ := ofO_ok e
    cases e2
    obtain ⟨p, p', t1, t2, s1, s2, rfl⟩ := eqO_of e1
    exact op_eqD hu pins s σ H _ _ v u Q I rx ry ⟨p, p', hx.dp sf t1, hy.dp sf t2, s1, s2, q _ F H (New.same sf (.bl _))⟩
  · obtain ⟨b, e1, e2⟩ := ofO_ok e
    cases e2
    obtain ⟨p, p', t1, t2, s1, s2, rfl⟩ := eqO_of e1
    exact op_neD hu pins s σ H _ _ v u Q I rx ry ⟨p, p', hx.dp sf t1, hy.dp sf t2, s1, s2, q _ F H (New.same sf (.bl _))⟩
  · have e1 := hx.int; have e2 := hy.int; subst e1 e2; cases e
    exact op_lt pins s σ H _ _ v u Q I rx ry ⟨_, _, rfl, rfl, q _ F H (New.same sf (.bl _))⟩
  · have e1 := hx.int; have e2 := hy.int; subst e1 e2; cases e
    exact op_le pins s σ H _ _ v u Q I rx ry ⟨_, _, rfl, rfl, q _ F H (New.same sf (.bl _))⟩
  · have e1 := hx.int; have e2 := hy.int; subst e1 e2; cases e
    exact op_gt pins s σ H _ _ v u Q I rx ry ⟨_, _, rfl, rfl, q _ F H (New.same sf (.bl _))⟩
  · have e1 := hx.int; have e2 := hy.int; subst e1 e2; cases e
    exact op_ge pins s σ H _ _ v u Q I rx ry ⟨_, _, rfl, rfl, q _ F H (New.same sf (.bl _))⟩
  · obtain ⟨b, e1, e2⟩ := ofO_ok e
    cases e2
    obtain ⟨p, p', t1, t2, c1, c2, c3, rfl⟩ := ltO_of e1
    obtain ⟨as, r1⟩ := Dp.reads I p _ v (hx.dp sf t1) rx
    obtain ⟨bs, r2⟩ := Dp.reads I p' _ u (hy.dp sf t2) ry
    exact PySem.W.lt_data r1 r2 c1 c2 (by omega) ⟨.bl _, H, I, rfl, q _ F H (New.same sf (.bl _))⟩
  · obtain ⟨b, e1, e2⟩ := ofO_ok e
    cases e2
    obtain ⟨p, p', t1, t2, c1, c2, c3, rfl⟩ := ltO_of e1
    obtain ⟨as, r1⟩ := Dp.reads I p _ u (hy.dp sf t1) ry
    obtain ⟨bs, r2⟩ := Dp.reads I p' _ v (hx.dp sf t2) rx
    exact PySem.W.gt_data r2 r1 (by rw [PySem.W.alike_comm]; exact c1) (PySem.W.ne_none_both c1 c2) (by omega) ⟨.bl _, H, I, rfl, q _ F H (New.same sf (.bl _))⟩
  · obtain ⟨b, e1, e2⟩ := ofO_ok e
    cases e2
    obtain ⟨p, vs, rfl, h1, r1⟩ := hy.lst sf
    obtain ⟨f1, f2, rfl⟩ := inO_of e1 hx r1
    exact op_in_seq pins s σ H _ _ v u Q I rx ry ⟨p, vs, rfl, .inl (h1.sql), f1, f2, q _ F H (New.same sf (.bl _))⟩
  · obtain ⟨b, e1, e2⟩ := ofO_ok e
    cases e2
    obtain ⟨p, vs, rfl, h1, r1⟩ := hy.tup sf
    obtain ⟨f1, f2, rfl⟩ := inO_of e1 hx r1
    exact op_in_seq pins s σ H _ _ v u Q I rx ry ⟨p, vs, rfl, .inr (.inl (.inl (sf _ _ h1))), f1, f2, q _ F H (New.same sf (.bl _))⟩
  · obtain ⟨b, e1, e2⟩ := ofO_ok e
    cases e2
    obtain ⟨p, vs, rfl, h1, r1⟩ := hy.lst sf
    obtain ⟨f1, f2, rfl⟩ := inO_of e1 hx r1
    exact op_notIn_seq pins s σ H _ _ v u Q I rx ry ⟨p, vs, rfl, .inl (h1.sql), f1, f2, q _ F H (New.same sf (.bl _))⟩
  · obtain ⟨b, e1, e2⟩ := ofO_ok e
    cases e2
    obtain ⟨p, vs, rfl, h1, r1⟩ := hy.tup sf
    obtain ⟨f1, f2, rfl⟩ := inO_of e1 hx r1
    exact op_notIn_seq pins s σ H _ _ v u Q I rx ry ⟨p, vs, rfl, .inr (.inl (.inl (sf _ _ h1))), f1, f2, q _ F H (New.same sf (.bl _))⟩
  · obtain ⟨k, e1, e2⟩ := ofO_ok e
    cases e2
    obtain ⟨p, rfl, h1⟩ := hy.dic sf
    obtain ⟨o, g, g1, g2⟩ := dicAt_get sf h1 (hx.rep_key sf e1) e1
    cases ry
    refine d_in hu1 I g rx fun s' I' => ⟨.bl o.isSome, H, I', rfl, ?_⟩
    rename_i t l
    have e3 : o.isSome = (dget t k l).isSome := by
      cases z : dget t k l with
      | none => (rw [g2 z]) <;> rfl
      | some b => obtain ⟨v, e3, _⟩ := g1 b z; rw [e3]; rfl
    rw [e3]
    exact q _ F H (New.same sf (.bl _))
  · obtain ⟨k, e1, e2⟩ := ofO_ok e
    cases e2
    obtain ⟨p, rfl, h1⟩ := hy.dic sf
    obtain ⟨o, g, g1, g2⟩ := dicAt_get sf h1 (hx.rep_key sf e1) e1
    cases ry
    refine d_notIn hu1 I g rx fun s' I' => ⟨.bl !o.isSome, H, I', rfl, ?_⟩
    rename_i t l
    have e3 : o.isSome = (dget t k l).isSome := by
      cases z : dget t k l with
      | none => (rw [g2 z]) <;> rfl
      | some b => obtain ⟨v, e3, _⟩ := g1 b z; rw [e3]; rfl
    rw [e3]
    exact q _ F H (New.same sf (.bl _))
  · have e1 := hx.bl; have e2 := hy.bl; subst e1 e2; cases e
    exact op_isBl pins s σ H _ _ v u Q I rx ry ⟨_, _, rfl, rfl, q _ F H (New.same sf (.bl _))⟩
  · have e1 := hx.bl; have e2 := hy.bl; subst e1 e2; cases e
    exact op_notBl pins s σ H _ _ v u Q I rx ry ⟨_, _, rfl, rfl, q _ F H (New.same sf (.bl _))⟩
  · have e2 := hy.non; subst e2
    cases e
    refine op_isN pins s σ H _ _ v u Q I rx ry ⟨rfl, ?_⟩
    rw [hx.isNon]
    exact q _ F H (New.same sf (.bl _))
  · have e2 := hy.non; subst e2
    cases e
    refine op_notN pins s σ H _ _ v u Q I rx ry ⟨rfl, ?_⟩
    rw [hx.isNon]
    exact q _ F H (New.same sf (.bl _))
  · cases e
end
end Z

set_option Elab.async false
set_option linter.all false
set_option maxRecDepth 100000
set_option maxHeartbeats 4000000
/-! Z4: items, slices, built-ins by their names. -/
namespace Z
open PySem
open PySem.Spec
open PyProof.Rows
open L2
section
variable {X : Cx} {pins : List (Addr × Obj)} {s : Shared} {σ : L2.St} {H : Hp} {cm : String → Option Addr}
theorem getL_reps {K : PySem.W.Frag} {F : Hp} {ds : List D} {vs : List V} {i : Int} {d : D} (r : Reps K cm F ds vs) (e : getL ds i = some d) : ∃ v, atI vs i = some v ∧ Rep K cm F d v := by
  unfold getL at e
  unfold atI
  rw [← r.length]
  obtain ⟨j, e1, e2⟩ := Option.bind_eq_some_iff.mp e
  obtain ⟨v, e3, h⟩ := r.at e2
  exact ⟨v, Option.bind_eq_some_iff.mpr ⟨j, e1, e3⟩, h⟩
theorem ix_Z (hu : X.A.units + 64 < cLine) : IxR X (rZ X.K cm ixO) := by
  intro value slice pins s σ H x y v u Q I rx ry h hs
  obtain ⟨F, dx, dy, w, sf, hx, hy, e, q⟩ := h
  have hu1 : X.A.units + 1 < cLine := by omega
  unfold ixO at e
  split at e
  · obtain ⟨d, e1, e2⟩ := ofO_ok e
    cases e2
    have ey := hy.int; subst ey
    obtain ⟨p, vs, rfl, h1, r1⟩ := hx.lst sf
    obtain ⟨z, e3, hz⟩ := getL_reps r1 e1
    exact ix_list value slice pins s σ H _ _ v u Q I rx ry ⟨p, vs, _, z, rfl, rfl, h1.sql, e3, q _ F H (New.same sf hz)⟩ hs
  · obtain ⟨d, e1, e2⟩ := ofO_ok e
    cases e2
    have ey := hy.int; subst ey
    obtain ⟨p, vs, rfl, h1, r1⟩ := hx.tup sf
    obtain ⟨z, e3, hz⟩ := getL_reps r1 e1
    exact ix_tup value slice pins s σ H _ _ v u Q I rx ry ⟨p, vs, _, z, rfl, rfl, .inl (.inl (sf _ _ h1)), e3, q _ F H (New.same sf hz)⟩ hs
  · have ey := hy.int; have ex := hx.str; subst ey ex
    split at e
    · rename_i hl
      obtain ⟨c, e1, e2⟩ := ofO_ok e
      cases e2
      exact ix_str value slice pins s σ H _ _ v u Q I rx ry ⟨_, _, c, rfl, rfl, by rw [← line_eq]; exact hl, e1, q _ F H (New.same sf (.str _))⟩ hs
    · cases e
  · obtain ⟨k, e1, e2⟩ := ofO_ok e
    obtain ⟨d, e3, e4⟩ := ofO_ok e2
    cases e4
    obtain ⟨p, rfl, h1⟩ := hx.dic sf
    obtain ⟨o, g, g1, _⟩ := dicAt_get sf h1 (hy.rep_key sf e1) e1
    obtain ⟨z, rfl, hz⟩ := g1 d e3
    cases rx
    exact PyProof.Rows.tail_any (dict_typeIs I g) PySem.F.slot_dict_getitem.lookup (d_getItem hu1 I g ry fun w' s3 I3 rw' => ⟨z, H, I3, rw', q _ F H (New.same sf hz)⟩) hs
  · cases e
theorem Reps.cut {K : PySem.W.Frag} {F : Hp} {ds : List D} {vs : List V} {lo hi : Option Int} (r : Reps K cm F ds vs) : Reps K cm F (cut ds lo hi) (cutV vs lo hi) := by
  unfold Z.cut cutV
  rw [r.length]
  exact (r.drop _).take _
/-- a slice -/
def rSlZ (K : PySem.W.Frag) (cm : String → Option Addr) : V → Option Int → Option Int → Hp → VK → Prop := fun x lo hi H Q => ∃ F dx w, Sub F H ∧ Vw K cm F H dx x ∧
  (match dx with | .lst l => w = W.ol (cut l lo hi) | .tup l => w = .sh (.tup (cut l lo hi)) | _ => False) ∧ ∀ v F' H', New K cm F H w v F' H' → Q v H'
theorem sl_Z : SlR X (rSlZ X.K cm) := by
  intro pins s σ H x v vl vu lo hi sl Q I rx hs pl pu h
  obtain ⟨F, dx, w, sf, hx, e, q⟩ := h
  split at e
  · subst e
    obtain ⟨p, vs, rfl, h1, r1⟩ := hx.lst sf
    exact sl_list pins s σ H _ v vl vu lo hi sl Q I rx hs pl pu ⟨p, vs, rfl, h1.sql, fun p hp => q _ F _ (New.lst sf hp r1.cut)⟩
  · subst e
    obtain ⟨p, vs, rfl, h1, r1⟩ := hx.tup sf
    refine sl_tupA pins s σ H _ v vl vu lo hi sl Q I rx hs pl pu ⟨p, vs, rfl, .inl (.inl (sf _ _ h1)), fun hw => ?_, fun _ p hp => q _ _ _ (New.tup sf hp r1.cut)⟩
    refine q _ F H (New.same sf ?_)
    have e : cutV vs lo hi = vs := by
      unfold cutV
      rw [hw.1, hw.2]
      simp
    have := r1.cut (lo := lo) (hi := hi)
    rw [e] at this
    exact .tup h1 this
  · exact e.elim

/-! ### built-ins -/
inductive Vws (K : PySem.W.Frag) (cm : String → Option Addr) (F H : Hp) : List D → List V → Prop
  | nil : Vws K cm F H [] []
  | cons {d v ds vs} : Vw K cm F H d v → Vws K cm F H ds vs → Vws K cm F H (d :: ds) (v :: vs)
def rB (K : PySem.W.Frag) (cm : String → Option Addr) (b : Bi) : List V → Hp → VK → Prop := fun xs H Q => ∃ F ds w, Sub F H ∧ Vws K cm F H ds xs ∧ biO b ds = .ok w ∧ ∀ v F' H', New K cm F H w v F' H' → Q v H'
def biV : Bi → Value
  | .len => .builtin "len"
  | .abs => .builtin "abs"
  | .int => .type "int"
  | .str => .type "str"
  | .repr => .builtin "repr"
  | .max2 => .builtin "max"
  | .min2 => .builtin "min"
  | .max1 => .builtin "max"
  | .min1 => .builtin "min"
  | .sum => .builtin "sum"
  | .sorted => .builtin "sorted"
  | .tuple => .type "tuple"
  | .list => .type "list"
  | .all => .builtin "all"
  | .any => .builtin "any"
  | .isa _ => .builtin "isinstance"
theorem maxI_mem : ∀ (l : List Int) (m : Int), maxI m l ∈ m :: l ∧ ∀ y ∈ m :: l, y ≤ maxI m l
  | [], m => ⟨by simp [maxI], fun y h => by simp at h; subst h; exact Int.le_refl _⟩
  | x :: l, m => by
    obtain ⟨h1, h2⟩ := maxI_mem l (if m < x then x else m)
    unfold maxI
    refine ⟨?_, fun y hy => ?_⟩
    · rcases List.mem_cons.mp h1 with e | e
      · rw [e]; split <;> simp
      · simp [e]
    · have h3 := h2 (if m < x then x else m) (by simp)
      simp only [List.mem_cons] at hy
      rcases hy with e | e | e
      · rw [e]
        by_cases c : m < x
        · rw [if_pos c] at h3 ⊢; omega
        · rw [if_neg c] at h3 ⊢; omega
      · rw [e]
        by_cases c : m < x
        · rw [if_pos c] at h3 ⊢; omega
        · rw [if_neg c] at h3 ⊢; omega
      · exact h2 y (by simp [e])
theorem minI_mem : ∀ (l : List Int) (m : Int), minI m l ∈ m :: l ∧ ∀ y ∈ m :: l, minI m l ≤ y
  | [], m => ⟨by simp [minI], fun y h => by simp at h; subst h; exact Int.le_refl _⟩
  | x :: l, m => by
    obtain ⟨h1, h2⟩ := minI_mem l (if x < m then x else m)
    unfold minI
    refine ⟨?_, fun y hy => ?_⟩
    · rcases List.mem_cons.mp h1 with e | e
      · rw [e]; split <;> simp
      · simp [e]
    · have h3 := h2 (if x < m then x else m) (by simp)
      simp only [List.mem_cons] at hy
      rcases hy with e | e | e
      · rw [e]
        by_cases c : x < m
        · rw [if_pos c] at h3 ⊢; omega
        · rw [if_neg c] at h3 ⊢; omega
      · rw [e]
        by_cases c : x < m
        · rw [if_pos c] at h3 ⊢; omega
        · rw [if_neg c] at h3 ⊢; omega
      · exact h2 y (by simp [e])
theorem Vws.one {K : PySem.W.Frag} {F : Hp} {d : D} {xs : List V} (h : Vws K cm F H [d] xs) : ∃ x, xs = [x] ∧ Vw K cm F H d x := by
  cases h with
  | cons h1 h2 => cases h2; exact ⟨_, rfl, h1⟩
theorem Vws.two {K : PySem.W.Frag} {F : Hp} {d e : D} {xs : List V} (h : Vws K cm F H [d, e] xs) : ∃ x y, xs = [x, y] ∧ Vw K cm F H d x ∧ Vw K cm F H e y := by
  cases h with
  | cons h1 h2 => cases h2 with
    | cons h3 h4 => cases h4; exact ⟨_, _, rfl, h1, h3⟩
/-- the pair at a tuple -/
def pairAt (H : Hp) : V → Int × Int
  | .ref t => match H t with
    | some (.tup [.int i, .int j]) => (i, j)
    | _ => (0, 0)
  | _ => (0, 0)
theorem pairs_reps {K : PySem.W.Frag} {F : Hp} : ∀ {ds : List D} {vs : List V} {ps : List (Int × Int)}, Reps K cm F ds vs → pairsOf ds = some ps →
    vs.map (pairAt F) = ps ∧ ∀ x ∈ vs, ∃ t, x = V.ref t ∧ F t = some (.tup [.int (pairAt F x).1, .int (pairAt F x).2])
  | _, _, ps, .nil, e => by cases e; exact ⟨rfl, fun _ h => by cases h⟩
  | d :: ds, v :: vs, ps, .cons h r, e => by
    unfold pairsOf at e
    split at e
    · rename_i z; cases z
    · rename_i i j l z
      cases z
      simp only [Option.map_eq_some_iff] at e
      obtain ⟨qs, e1, e2⟩ := e
      subst e2
      obtain ⟨i1, i2⟩ := pairs_reps r e1
      cases h with
      | @tup ad _ _ ht hr =>
        cases hr with
        | cons a1 a2 =>
          cases a2 with
          | cons a3 a4 =>
            cases a4
            cases a1
            cases a3
            have ep : pairAt F (V.ref ad) = (i, j) := by simp only [pairAt, ht]
            refine ⟨by rw [List.map_cons, i1, ep], fun x hx => ?_⟩
            rcases List.mem_cons.mp hx with rfl | hx
            · exact ⟨_, rfl, by rw [ep]; exact ht⟩
            · exact i2 x hx
    · cases e
theorem leP_trans : ∀ a b c : Int × Int, leP a b = true → leP b c = true → leP a c = true := by
  intro a b c h1 h2
  simp only [leP, decide_eq_true_eq] at *
  omega
theorem leP_total : ∀ a b : Int × Int, (leP a b || leP b a) = true := by
  intro a b
  simp only [leP, Bool.or_eq_true, decide_eq_true_eq]
  omega
theorem leP_anti {a b : Int × Int} (h1 : leP a b = true) (h2 : leP b a = true) : a = b := by
  simp only [leP, decide_eq_true_eq] at *
  exact Prod.ext (by omega) (by omega)
theorem reps_of_pairs {K : PySem.W.Frag} {F : Hp} : ∀ {vs : List V}, (∀ x ∈ vs, ∃ t, x = V.ref t ∧ F t = some (.tup [.int (pairAt F x).1, .int (pairAt F x).2])) →
    Reps K cm F ((vs.map (pairAt F)).map fun p => .tup [.int p.1, .int p.2]) vs
  | [], _ => .nil
  | v :: vs, h => by
    obtain ⟨t, rfl, ht⟩ := h v (by simp)
    exact .cons (.tup ht (.cons (.int _) (.cons (.int _) .nil))) (reps_of_pairs fun x hx => h x (by simp [hx]))
theorem truthy_sub {F H : Hp} (s : Sub F H) {t : Addr} {o : HO} (h : F t = some o) : H t = some o := s _ _ h
theorem preSum_of (ns : List Int) : ∀ n, n ≤ ns.length → preSum (fun i => ns.getD i 0) n = (ns.take n).sum
  | 0, _ => by simp [preSum]
  | n + 1, h => by
    have hlt : n < ns.length := h
    have e : ns.take (n + 1) = ns.take n ++ [ns[n]] := by rw [List.take_add_one, List.getElem?_eq_getElem hlt]; rfl
    rw [e, List.sum_append, ← preSum_of ns n (by omega)]
    simp [preSum, List.getD_eq_getElem?_getD, List.getElem?_eq_getElem hlt]
/-- sum(a tuple of ints) -/
theorem cr_sumT (hc : X.calm = true) : CallR X (.builtin "sum") (fun vs H Q => ∃ (a : Addr) (ns : List Int), vs = [V.ref a] ∧ SqT X.K H a (ns.map V.int) ∧ Q (.int ns.sum) H) := by
  intro pins s σ H vs us Q I r h
  obtain ⟨a, ns, rfl, hs, q⟩ := h
  obtain ⟨its, rv, p, _⟩ := I.tuple hs
  rw [Vals.ref1 r]
  obtain ⟨o, ho, hoc, n, hod⟩ := id p
  have hlt : a < s.heap.objs.size := Heap.lt_size ho
  have hl : its.length = ns.length := by rw [← rv.length, List.length_map]
  refine call_sum_walkG (wpAny_pyIter_tuple (show s.heap.IsTuple a its.toArray from p) ?_)
  refine ⟨s.heap.objs.size, [s.heap.objs.size, a], [s.heap.objs.size], _, _, _, fun i => ns.getD i 0, rfl, Walks.tuple (A := X.A.in1) (I.ok.hd hc) _ a (Nat.ne_of_lt hlt) its.toArray, ⟨⟨_, Heap.get?_push_size _ rfl, rfl, rfl⟩, ⟨o, Heap.get?_push_of_some _ ho, hoc, n, hod⟩⟩, fun b hb => ?_, fun i v hv => ?_, fun h' tk t' hk => ?_⟩
  · show b < (s.heap.push _).objs.size
    rw [Heap.size_push]
    simp only [List.mem_cons, List.not_mem_nil, or_false] at hb
    rcases hb with z | z
    · rw [z]; exact Nat.lt_succ_self _
    · rw [z]; exact Nat.lt_succ_of_lt hlt
  · have hv' : its[i]? = some v := by simpa using hv
    obtain ⟨z, t, rfl, e⟩ := (Vals.ints rv).at i v hv'
    exact ⟨t, by simp [List.getD_eq_getElem?_getD, e]⟩
  · have e : preSum (fun i => ns.getD i 0) its.toArray.size = ns.sum := by
      rw [List.size_toArray, hl, preSum_of ns _ (Nat.le_refl _), List.take_length]
    rw [e]
    refine ⟨.int ns.sum, H, I.kept (t' := tk) fun b o' z => ?_, ⟨t', rfl⟩, q⟩
    have hb : b ≠ s.heap.objs.size := Nat.ne_of_lt (Heap.lt_size z)
    exact hk b o' (by simpa using hb) (Heap.get?_push_of_some _ z)
theorem call_biZ (hu : X.A.units + 64 < cLine) (hg : X.A.guards = some []) (b : Bi) (hcc : b ≠ .repr → X.calm = true) (hb : ∀ ts, b ≠ .isa ts) : CallR X (biV b) (rB X.K cm b) := by
  intro pins s σ H xs us Q I r h
  obtain ⟨F, ds, w, sf, hx, e, q⟩ := h
  unfold biO at e
  split at e
  · cases e
    obtain ⟨x, rfl, h1⟩ := hx.one
    obtain ⟨p, vs, rfl, h2, r1⟩ := h1.lst sf
    exact call_len_seq pins s σ H _ us Q I r ⟨p, vs, rfl, .inl h2.sql, by rw [← r1.length]; exact q _ F H (New.same sf (.int _))⟩
  · cases e
    obtain ⟨x, rfl, h1⟩ := hx.one
    obtain ⟨p, vs, rfl, h2, r1⟩ := h1.tup sf
    exact call_len_seq pins s σ H _ us Q I r ⟨p, vs, rfl, .inr (.inl (.inl (sf _ _ h2))), by rw [← r1.length]; exact q _ F H (New.same sf (.int _))⟩
  · split at e
    · rename_i hl
      cases e
      obtain ⟨x, rfl, h1⟩ := hx.one
      have := h1.str; subst this
      exact call_len_str pins s σ H _ us Q I r ⟨_, rfl, by rw [← line_eq]; exact hl, q _ F H (New.same sf (.int _))⟩
    · cases e
  · rename_i t l
    cases e
    obtain ⟨x, rfl, h1⟩ := hx.one
    obtain ⟨p, rfl, hd⟩ := h1.dic sf
    cases t with
    | false =>
      obtain ⟨m, hm, rr⟩ := hd
      exact call_lenD pins s σ H _ us Q I r ⟨p, m, rfl, hm, by rw [← rr.length]; exact q _ F H (New.same sf (.int _))⟩
    | true =>
      obtain ⟨m, hm, rr⟩ := hd
      exact call_len_dT pins s σ H _ us Q I r ⟨p, m, rfl, hm, by rw [← rr.length]; exact q _ F H (New.same sf (.int _))⟩
  · cases e
    obtain ⟨x, rfl, h1⟩ := hx.one
    have := h1.int; subst this
    exact call_abs pins s σ H _ us Q I r ⟨_, rfl, q _ F H (New.same sf (.int _))⟩
  · cases e
    obtain ⟨x, rfl, h1⟩ := hx.one
    have := h1.int; subst this
    exact call_int1 pins s σ H _ us Q I r (.inl ⟨_, rfl, q _ F H (New.same sf (.int _))⟩)
  · cases e
    obtain ⟨x, rfl, h1⟩ := hx.one
    have := h1.bl; subst this
    exact call_int1 pins s σ H _ us Q I r (.inr ⟨_, rfl, q _ F H (New.same sf (.int _))⟩)
  · split at e
    · rename_i hl
      cases e
      obtain ⟨x, rfl, h1⟩ := hx.one
      have := h1.int; subst this
      exact call_str_int pins s σ H _ us Q I r ⟨_, rfl, hl, q _ F H (New.same sf (.str _))⟩
    · cases e
  · obtain ⟨t, e1, e2⟩ := ofO_ok e
    cases e2
    obtain ⟨x, rfl, h1⟩ := hx.one
    obtain ⟨u, rfl, ru⟩ := vals1 r
    unfold reprO at e1
    split at e1
    · rename_i p hp
      split at e1
      · rename_i hc
        simp only [Bool.and_eq_true, Bool.not_eq_true', decide_eq_true_eq] at hc
        obtain ⟨⟨⟨c1, c2⟩, c3⟩, c4⟩ := hc
        cases e1
        have hdp := h1.dp sf hp
        obtain ⟨as, hr⟩ := Dp.reads I p x u hdp ru
        have c4' : p.shown.length ≤ sizeLine := by rw [← line_eq]; exact c4
        cases hr with
        | none => exact PySem.P.repr_of_none ⟨.str _, H, I.tok _, ⟨_, rfl⟩, q _ F H (New.same sf (.str _))⟩
        | bool b => exact PySem.P.repr_of_bool ⟨.str _, H, I.tok _, ⟨_, rfl⟩, q _ F H (New.same sf (.str _))⟩
        | int i t =>
          simp only [PyData.showable, decide_eq_true_eq] at c1
          exact PySem.P.repr_of_int c1 ⟨.str _, H, I.tok _, ⟨_, rfl⟩, q _ F H (New.same sf (.str _))⟩
        | str x t => exact PySem.P.repr_of_str ⟨.str _, H, I.tok _, ⟨_, rfl⟩, q _ F H (New.same sf (.str _))⟩ c4'
        | list a1 a2 a3 a4 =>
          exact PySem.repr_of_reads' (Reads.list a1 a2 a3 a4) c1 (fun z => by rw [c2] at z; cases z) hg (by omega) (fun _ _ z => z) (fun h' u' tk k => ⟨.str _, H, I.kept k, ⟨_, rfl⟩, q _ F H (New.same sf (.str _))⟩) c4'
        | tuple a1 a2 a3 a4 =>
          exact PySem.repr_of_reads' (Reads.tuple a1 a2 a3 a4) c1 (fun z => by rw [c2] at z; cases z) hg (by omega) (fun _ _ z => z) (fun h' u' tk k => ⟨.str _, H, I.kept k, ⟨_, rfl⟩, q _ F H (New.same sf (.str _))⟩) c4'
        | dict _ _ _ _ _ => simp [PyData.hasDict] at c2
      · cases e1
    · cases e1
  · cases e
    obtain ⟨x, y, rfl, h1, h2⟩ := hx.two
    have e1 := h1.int; have e2 := h2.int; subst e1 e2
    exact call_max2 (hcc (fun z => by cases z)) pins s σ H _ us Q I r ⟨_, _, rfl, q _ F H (New.same sf (.int _))⟩
  · cases e
    obtain ⟨x, y, rfl, h1, h2⟩ := hx.two
    have e1 := h1.int; have e2 := h2.int; subst e1 e2
    exact call_min2 (hcc (fun z => by cases z)) pins s σ H _ us Q I r ⟨_, _, rfl, q _ F H (New.same sf (.int _))⟩
  · obtain ⟨x, rfl, h1⟩ := hx.one
    obtain ⟨p, vs, rfl, h2, r1⟩ := h1.lst sf
    split at e
    · rename_i m l e1
      have ev := r1.ints e1
      subst ev
      cases e
      refine cr_max (hcc (fun z => by cases z)) pins s σ H _ us Q I r ⟨p, m :: l, rfl, h2.sql, by simp, fun z hz hle => ?_⟩
      obtain ⟨g1, g2⟩ := maxI_mem l m
      have ez : z = maxI m l := Int.le_antisymm (g2 z hz) (hle _ g1)
      rw [ez]
      exact q _ F H (New.same sf (.int _))
    · cases e
    · obtain ⟨d, e1, e2⟩ := ofO_ok e
      cases e2
      rw [Vals.ref1 r]
      exact maxO_ok (hcc (fun z => by cases z)) hu I sf h2.sql r1 e1 fun w hw => q _ F H (New.same sf hw)
  · obtain ⟨x, rfl, h1⟩ := hx.one
    obtain ⟨p, vs, rfl, h2, r1⟩ := h1.lst sf
    split at e
    · rename_i m l e1
      have ev := r1.ints e1
      subst ev
      cases e
      refine cr_min (hcc (fun z => by cases z)) pins s σ H _ us Q I r ⟨p, m :: l, rfl, h2.sql, by simp, fun z hz hle => ?_⟩
      obtain ⟨g1, g2⟩ := minI_mem l m
      have ez : z = minI m l := Int.le_antisymm (hle _ g1) (g2 z hz)
      rw [ez]
      exact q _ F H (New.same sf (.int _))
    · cases e
    · obtain ⟨d, e1, e2⟩ := ofO_ok e
      cases e2
      rw [Vals.ref1 r]
      exact minO_ok (hcc (fun z => by cases z)) hu I sf h2.sql r1 e1 fun w hw => q _ F H (New.same sf hw)
  · obtain ⟨ns, e1, e2⟩ := ofO_ok e
    cases e2
    obtain ⟨x, rfl, h1⟩ := hx.one
    obtain ⟨p, vs, rfl, h2, r1⟩ := h1.lst sf
    have ev := r1.ints e1
    subst ev
    exact cr_sum (hcc (fun z => by cases z)) pins s σ H _ us Q I r ⟨p, ns, rfl, h2.sql, q _ F H (New.same sf (.int _))⟩
  · obtain ⟨ns, e1, e2⟩ := ofO_ok e
    cases e2
    obtain ⟨x, rfl, h1⟩ := hx.one
    obtain ⟨p, vs, rfl, h2, r1⟩ := h1.tup sf
    have ev := r1.ints e1
    subst ev
    exact cr_sumT (hcc (fun z => by cases z)) pins s σ H _ us Q I r ⟨p, ns, rfl, .inl (.inl (sf _ _ h2)), q _ F H (New.same sf (.int _))⟩
  · obtain ⟨rs, e1, e2⟩ := ofO_ok e
    cases e2
    obtain ⟨x, rfl, h1⟩ := hx.one
    obtain ⟨p, vs, rfl, h2, r1⟩ := h1.lst sf
    unfold sortO at e1
    split at e1
    · rename_i ns hn
      cases e1
      have ev := r1.ints hn
      subst ev
      refine cr_sortedI pins s σ H _ us Q I r ⟨p, ns, rfl, h2.sql, fun ns' p' hp hs hn' => ?_⟩
      have en : ns' = ns.mergeSort fun a b => decide (a ≤ b) := by
        refine List.Perm.eq_of_pairwise (le := fun a b => a ≤ b) (fun a b _ _ h1 h2 => Int.le_antisymm h1 h2) hs ?_ (hp.trans (List.mergeSort_perm _ _).symm)
        have := List.pairwise_mergeSort (le := fun (a b : Int) => decide (a ≤ b)) (fun a b c h1 h2 => by simp only [decide_eq_true_eq] at *; omega) (fun a b => by simp only [Bool.or_eq_true, decide_eq_true_eq]; omega) ns
        exact this.imp fun h => of_decide_eq_true h
      rw [en]
      exact q _ F _ (New.lst sf hn' (Reps.ofInts _))
    · split at e1
      · rename_i ps hps
        cases e1
        obtain ⟨g1, g2⟩ := pairs_reps r1 hps
        refine cr_sortedPO pins s σ H _ us Q I r ⟨p, vs, pairAt F, rfl, h2.sql, fun x hx => ?_, fun ys p' hs hst hn' => ?_⟩
        · obtain ⟨t, e1, e2⟩ := g2 x hx
          exact ⟨t, e1, sf _ _ e2⟩
        · have ey : ys.map (pairAt F) = ps.mergeSort leP := by
            refine List.Perm.eq_of_pairwise (le := fun a b => leP a b = true) (fun a b _ _ h1 h2 => leP_anti h1 h2) ?_ (List.pairwise_mergeSort leP_trans leP_total ps) ?_
            · refine List.pairwise_map.mpr (hs.imp fun {a b} h => ?_)
              have h3 : ¬ _ := SrtO.lexB_no.mp h
              simp only [leP, decide_eq_true_eq]
              omega
            · rw [← g1]
              exact ((hst.perm.map _).trans (by rw [g1] <;> exact List.Perm.refl _)).trans ((by rw [g1] <;> exact (List.mergeSort_perm _ _).symm))
          have hr := reps_of_pairs (K := X.K) (cm := cm) (F := F) (vs := ys) fun x hx => g2 x (hst.perm.mem_iff.mp hx)
          rw [ey] at hr
          exact q _ F _ (New.lst sf hn' hr)
      · rw [Vals.ref1 r]
        exact sortG_ok hu I sf h2.sql r1 e1 fun ys p' hr hn' => q _ F _ (New.lst sf hn' hr)
  · cases e
    obtain ⟨x, rfl, h1⟩ := hx.one
    obtain ⟨p, vs, rfl, h2, r1⟩ := h1.lst sf
    exact call_tuple_of pins s σ H _ us Q I r ⟨p, vs, rfl, .inl ⟨h2.sql, fun l hl => q _ _ _ (New.tup sf hl r1)⟩⟩
  · cases e
    obtain ⟨x, rfl, h1⟩ := hx.one
    obtain ⟨p, vs, rfl, h2, r1⟩ := h1.tup sf
    exact call_tuple_of pins s σ H _ us Q I r ⟨p, vs, rfl, .inr ⟨.inl (.inl (sf _ _ h2)), q _ F H (New.same sf (.tup h2 r1))⟩⟩
  · cases e
    obtain ⟨x, rfl, h1⟩ := hx.one
    obtain ⟨p, vs, rfl, h2, r1⟩ := h1.lst sf
    exact call_list_of pins s σ H _ us Q I r ⟨p, vs, rfl, .inl h2.sql, fun l hl => q _ F _ (New.lst sf hl r1)⟩
  · cases e
    obtain ⟨x, rfl, h1⟩ := hx.one
    obtain ⟨p, vs, rfl, h2, r1⟩ := h1.tup sf
    exact call_list_of pins s σ H _ us Q I r ⟨p, vs, rfl, .inr (.inl (.inl (sf _ _ h2))), fun l hl => q _ F _ (New.lst sf hl r1)⟩
  · obtain ⟨ns, e1, e2⟩ := ofO_ok e
    cases e2
    obtain ⟨x, rfl, h1⟩ := hx.one
    obtain ⟨p, vs, rfl, h2, r1⟩ := h1.lst sf
    have ev := r1.bls e1
    subst ev
    exact cr_all (hcc (fun z => by cases z)) pins s σ H _ us Q I r ⟨p, ns, rfl, h2.sql, q _ F H (New.same sf (.bl _))⟩
  · obtain ⟨ns, e1, e2⟩ := ofO_ok e
    cases e2
    obtain ⟨x, rfl, h1⟩ := hx.one
    obtain ⟨p, vs, rfl, h2, r1⟩ := h1.lst sf
    have ev := r1.bls e1
    subst ev
    exact cr_any (hcc (fun z => by cases z)) pins s σ H _ us Q I r ⟨p, ns, rfl, h2.sql, q _ F H (New.same sf (.bl _))⟩
  · exact absurd rfl (hb _)
  · cases e
end
end Z

set_option Elab.async false
set_option linter.all false
set_option maxRecDepth 100000
set_option maxHeartbeats 4000000
/-! Z5: readings that follow the interpreter. -/
namespace Z
open PySem
open PySem.Spec
open PyProof.Rows
open L2
/-- what is wanted of an exception: by the names at hand, the heaps ahead, the exception, the names' contents -/
abbrev TP := L2.St → Hp → Hp → Lab → String → Xfs → Env → Prop
def TP.Mono (T : TP) : Prop := ∀ σ F H lab c fs ρ F1 H1 lab1, T σ F H lab c fs ρ → Stp F H lab F1 H1 lab1 → T σ F1 H1 lab1 c fs ρ
def Tk {α : Type} (T : TP) (σ : L2.St) (F H : Hp) (lab : Lab) (r : R α) (Post : α → Hp → Hp → Lab → Prop) : Prop :=
  r ≠ .bad ∧ (∀ c fs ρ, r = .ex c fs ρ → T σ F H lab c fs ρ) ∧ ∀ a, r = .ok a → ∀ F' H' lab', Stp F H lab F' H' lab' → Post a F' H' lab'
section
variable {T : TP} {σ : L2.St} {F H F1 H1 : Hp} {lab lab1 : Lab} {α β : Type}
theorem Tk.step {r : R α} {Post : α → Hp → Hp → Lab → Prop} (hm : T.Mono) (h : Tk T σ F H lab r Post) (s : Stp F H lab F1 H1 lab1) : Tk T σ F1 H1 lab1 r Post :=
  ⟨h.1, fun c fs ρ e => hm _ _ _ _ _ _ _ _ _ _ (h.2.1 c fs ρ e) s, fun a e F' H' lab' s' => h.2.2 a e F' H' lab' (s.trans s')⟩
theorem Tk.bnd {r : R α} {k : α → R β} {Post : β → Hp → Hp → Lab → Prop} (hm : T.Mono) (h : Tk T σ F H lab (r.bind k) Post) : Tk T σ F H lab r fun a F' H' lab' => Tk T σ F' H' lab' (k a) Post := by
  refine ⟨fun e => ?_, fun c fs ρ e => ?_, fun a e F' H' lab' s => ?_⟩
  · rw [e] at h; exact h.1 rfl
  · rw [e] at h; exact h.2.1 c fs ρ rfl
  · rw [e] at h
    exact Tk.step (r := k a) hm h s
theorem Tk.imp {r : R α} {P Q : α → Hp → Hp → Lab → Prop} (h : Tk T σ F H lab r P) (hp : ∀ a F' H' lab', P a F' H' lab' → Q a F' H' lab') : Tk T σ F H lab r Q :=
  ⟨h.1, h.2.1, fun a e F' H' lab' s => hp _ _ _ _ (h.2.2 a e F' H' lab' s)⟩
theorem Tk.now {a : α} {P : α → Hp → Hp → Lab → Prop} (h : Tk T σ F H lab (.ok a) P) : P a F H lab := h.2.2 a rfl F H lab (Stp.refl F H lab)
theorem Tk.at_ {a : α} {P : α → Hp → Hp → Lab → Prop} (h : Tk T σ F H lab (.ok a) P) (s : Stp F H lab F1 H1 lab1) : P a F1 H1 lab1 := h.2.2 a rfl F1 H1 lab1 s
/-- a pure part that cannot raise -/
theorem Tk.pure {r : R α} {k : α → R β} {Post : β → Hp → Hp → Lab → Prop} (hx : ∀ c fs ρ, r ≠ .ex c fs ρ) (h : Tk T σ F H lab (r.bind k) Post) : ∃ a, r = .ok a ∧ Tk T σ F H lab (k a) Post := by
  cases r with
  | ok a => exact ⟨a, rfl, h⟩
  | ex c fs ρ => exact absurd rfl (hx c fs ρ)
  | bad => exact absurd rfl h.1
end
theorem ofO_noex {α : Type} {o : Option α} : ∀ c fs ρ, ofO o ≠ .ex c fs ρ := fun c fs ρ e => by cases o <;> cases e
theorem look_noex {ρ' : Env} {o : Opd} : ∀ c fs ρ, look ρ' o ≠ .ex c fs ρ := fun c fs ρ e => by
  cases o with
  | v d => cases e
  | p i => simp only [look] at e; split at e <;> cases e

section
variable (K : PySem.W.Frag) (cm : String → Option Addr) (T : TP)
/-- an expression's reading -/
def tz (m : Env → R (W × Env)) : TE := fun σ H Q => ∃ ρ F lab, RE K cm F H lab ρ σ ∧ Tk T σ F H lab (m ρ) fun x F' H' lab' => RE K cm F' H' lab' x.2 σ → ∀ v, RelW K cm F' H' lab' 0 x.1 v → Q v H'
def RelO (F : Hp) (σ : L2.St) : Opd → V → Prop
  | .v d, v => Rep K cm F d v
  | .p i, v => σ[i]? = some (some v)
/-- an operand's -/
def tzo (m : Env → R (Opd × Env)) : TE := fun σ H Q => ∃ ρ F lab, RE K cm F H lab ρ σ ∧ Tk T σ F H lab (m ρ) fun x F' H' lab' => RE K cm F' H' lab' x.2 σ → ∀ v, RelO K cm F' σ x.1 v → Q v H'
/-- data -/
def tzv (m : Env → R (D × Env)) : TE := fun σ H Q => ∃ ρ F lab, RE K cm F H lab ρ σ ∧ Tk T σ F H lab (m ρ) fun x F' H' lab' => RE K cm F' H' lab' x.2 σ → ∀ v, Rep K cm F' x.1 v → Q v H'
/-- a test's -/
def tzt (m : Env → R (Bool × Env)) : TT := fun σ H Q => ∃ ρ F lab, RE K cm F H lab ρ σ ∧ Tk T σ F H lab (m ρ) fun x F' H' lab' => RE K cm F' H' lab' x.2 σ → Q x.1 H'
/-- several values' -/
def tzs (m : Env → R (List D × Env)) : TA := fun σ H Q => ∃ ρ F lab, RE K cm F H lab ρ σ ∧ Tk T σ F H lab (m ρ) fun x F' H' lab' => RE K cm F' H' lab' x.2 σ → ∀ vs, Reps K cm F' x.1 vs → Q vs H'
inductive RelOs (F : Hp) (σ : L2.St) : List Opd → List V → Prop
  | nil : RelOs F σ [] []
  | cons {o v os vs} : RelO K cm F σ o v → RelOs F σ os vs → RelOs F σ (o :: os) (v :: vs)
def tzos (m : Env → R (List Opd × Env)) : TA := fun σ H Q => ∃ ρ F lab, RE K cm F H lab ρ σ ∧ Tk T σ F H lab (m ρ) fun x F' H' lab' => RE K cm F' H' lab' x.2 σ → ∀ vs, RelOs K cm F' σ x.1 vs → Q vs H'
def RelA (F : Hp) (σ : L2.St) : Arg → V → Prop
  | .v d, v => Rep K cm F d v
  | .r i, v => σ[i]? = some (some v)
inductive RelAs (F : Hp) (σ : L2.St) : List Arg → List V → Prop
  | nil : RelAs F σ [] []
  | cons {o v os vs} : RelA K cm F σ o v → RelAs F σ os vs → RelAs F σ (o :: os) (v :: vs)
def tza (m : Env → R (List Arg × Env)) : TA := fun σ H Q => ∃ ρ F lab, RE K cm F H lab ρ σ ∧ Tk T σ F H lab (m ρ) fun x F' H' lab' => RE K cm F' H' lab' x.2 σ → ∀ vs, RelAs K cm F' σ x.1 vs → Q vs H'
end

theorem peI {X : Cx} {e : Expr} {t t' : TE} (h : PE X e t) (i : ∀ σ H Q, t' σ H Q → t σ H Q) : PE X e t' := ⟨fun pins s σ H Q I q => h.run pins s σ H Q I (i σ H Q q)⟩
theorem ptI {X : Cx} {e : Expr} {t t' : TT} (h : PT X e t) (i : ∀ σ H Q, t' σ H Q → t σ H Q) : PT X e t' := ⟨fun pins s σ H Q I q => h.run pins s σ H Q I (i σ H Q q)⟩
theorem pwI {X : Cx} {e : Expr} {t t' : TT} (h : PW X e t) (i : ∀ σ H Q, t' σ H Q → t σ H Q) : PW X e t' := ⟨fun wh pins s σ H Q I q => h.run wh pins s σ H Q I (i σ H Q q)⟩
theorem paI {X : Cx} {e : List Expr} {t t' : TA} (h : PA X e t) (i : ∀ σ H Q, t' σ H Q → t σ H Q) : PA X e t' := ⟨fun pos pins s σ H Q I q => h.run pos pins s σ H Q I (i σ H Q q)⟩
theorem psI {X : Cx} {e : Stmt} {t t' : TS} (h : PS X e t) (i : ∀ D σ H, t' D σ H → t D σ H) : PS X e t' := ⟨fun pins s σ H D I q => h.run pins s σ H D I (i D σ H q)⟩
theorem pssI {X : Cx} {e : List Stmt} {t t' : TS} (h : PSs X e t) (i : ∀ D σ H, t' D σ H → t D σ H) : PSs X e t' := ⟨fun pins s σ H D I q => h.run pins s σ H D I (i D σ H q)⟩

section
variable {K : PySem.W.Frag} {cm : String → Option Addr} {T : TP} {F H : Hp} {lab : Lab} {ρ : Env} {σ : L2.St}
theorem New.step {w : W} {v : V} {F' H' : Hp} (h : RE K cm F H lab ρ σ) (n : New K cm F H w v F' H') : ∃ lab', Stp F H lab F' H' lab' ∧ RE K cm F' H' lab' ρ σ ∧ RelW K cm F' H' lab' 0 w v := by
  obtain ⟨s1, s2, s3, s4, hw⟩ := n
  cases w with
  | sh d =>
    refine ⟨lab, ⟨s1, fun a o ha hf l => ⟨s3 a o ha, s4 a o ha hf, l⟩⟩, h.keep s1 s2 fun i a o j l ha hf => ⟨s3 a o ha, s4 a o ha hf, l⟩, hw⟩
  | ol ds =>
    obtain ⟨p, vs, rfl, hp, fp, hp', r⟩ := hw
    refine ⟨fun a => if a = p then some (0, 0) else lab a, ⟨s1, fun a o ha hf l => ⟨s3 a o ha, s4 a o ha hf, ?_⟩⟩, h.keep s1 s2 fun i a o j l ha hf => ⟨s3 a o ha, s4 a o ha hf, ?_⟩, p, vs, rfl, if_pos rfl, hp', fp, r⟩
    · rw [if_neg (ne_of_none ha hp)]; exact l
    · show (if a = p then some (0, 0) else lab a) = _
      rw [if_neg (ne_of_none ha hp)]; exact l
  | _ => exact hw.elim
theorem RelO.mono {F F' : Hp} {o : Opd} {v : V} (s : Sub F F') (h : RelO K cm F σ o v) : RelO K cm F' σ o v := by
  cases o with
  | v d => exact Rep.mono s h
  | p i => exact h
theorem RelOs.mono {F F' : Hp} (s : Sub F F') : ∀ {o : List Opd} {v : List V}, RelOs K cm F σ o v → RelOs K cm F' σ o v
  | _, _, .nil => .nil
  | _, _, .cons h r => .cons (h.mono s) (RelOs.mono s r)
theorem RelA.mono {F F' : Hp} {o : Arg} {v : V} (s : Sub F F') (h : RelA K cm F σ o v) : RelA K cm F' σ o v := by
  cases o with
  | v d => exact Rep.mono s h
  | r i => exact h
/-- what an operand is worth where it is read -/
theorem look_vw {o : Opd} {v : V} {d : D} (h : RE K cm F H lab ρ σ) (r : RelO K cm F σ o v) (e : look ρ o = .ok d) : Vw K cm F H d v := by
  cases o with
  | v d' => cases e; exact .inl r
  | p i =>
    have get : ∀ w, gt ρ i = some w → RelW K cm F H lab (i + 1) w v := fun w ew => by
      obtain ⟨v', e1, q⟩ := h.at_ i w ew
      have e2 : σ[i]? = some (some v) := r
      rw [e2] at e1
      cases e1
      exact q
    simp only [look] at e
    split at e
    · rename_i w ew
      cases e
      exact .inl (get _ ew)
    · rename_i ds ew
      cases e
      obtain ⟨p, vs, rfl, _, hp, _, rr⟩ := get _ ew
      exact .inr (.inl ⟨p, vs, ds, rfl, rfl, hp, rr⟩)
    · rename_i t l ew
      cases e
      obtain ⟨p, rfl, _, _, rr⟩ := get _ ew
      exact .inr (.inr ⟨t, l, p, rfl, rfl, rr⟩)
    · cases e
/-- what is in hand becomes data -/
theorem hand_frz {w : W} {v : V} (h : RE K cm F H lab ρ σ) (r : RelW K cm F H lab 0 w v) : ∃ F', Stp F H lab F' H lab ∧ RE K cm F' H lab ρ σ ∧ Rep K cm F' w.frz v :=
  ⟨frzH F H lab 0, Stp.frz h.sub, h.frz (fun i w _ e => absurd e (by omega)), r.frz h.sub (.inl rfl)⟩
/-- a value is taken as data -/
theorem tz_frz {m : Env → R (W × Env)} {α : Type} {g : D → Env → R α} {Post : α → Hp → Hp → Lab → Prop} {H : Hp} {Q : VK} (hm : T.Mono) (h : RE K cm F H lab ρ σ)
    (tk : Tk T σ F H lab ((m ρ).bind fun x => g x.1.frz x.2) Post)
    (q : ∀ d ρ' F' H' lab', RE K cm F' H' lab' ρ' σ → Tk T σ F' H' lab' (g d ρ') Post → Stp F H lab F' H' lab' → ∀ v, Rep K cm F' d v → Q v H') : tz K cm T m σ H Q := by
  refine ⟨ρ, F, lab, h, ?_⟩
  have tb := tk.bnd hm
  refine ⟨tb.1, tb.2.1, fun a e F' H' lab' s h' v r => ?_⟩
  obtain ⟨F2, s2, h2, r2⟩ := hand_frz h' r
  exact q _ _ _ _ _ h2 ((tb.2.2 a e F' H' lab' s).step hm s2) (s.trans s2) v r2
theorem tz_opd {X : Cx} {e : Expr} {m : Env → R (W × Env)} (hm : T.Mono) (h : PE X e (tz K cm T m)) : PE X e (tzo K cm T (oOf m)) :=
  peI h fun σ H Q ⟨ρ, F, lab, re, tk⟩ => tz_frz hm re (g := fun d ρ' => R.ok (Opd.v d, ρ')) tk fun d ρ' F' H' lab' re' tk' _ v r => tk'.now re' v r
theorem tz_val {X : Cx} {e : Expr} {m : Env → R (W × Env)} (hm : T.Mono) (h : PE X e (tz K cm T m)) : PE X e (tzv K cm T fun ρ => (m ρ).bind fun x => .ok (x.1.frz, x.2)) :=
  peI h fun σ H Q ⟨ρ, F, lab, re, tk⟩ => tz_frz hm re (g := fun d ρ' => R.ok (d, ρ')) tk fun d ρ' F' H' lab' re' tk' _ v r => tk'.now re' v r
theorem st_st : ∀ (ρ : Env) (i : Nat) (a b : Option W), st (st ρ i a) i b = st ρ i b
  | [], _, _, _ => rfl
  | _ :: _, 0, _, _ => rfl
  | o :: l, i + 1, a, b => by
    show o :: st (st l i a) i b = o :: st l i b
    rw [st_st l i a b]
/-- a name -/
theorem tz_var {X : Cx} {i : Nat} {e : Expr} (h : PE X e (tVar i)) : PE X e (tz K cm T (evVar i)) := peI h fun σ H Q ⟨ρ, F, lab, re, tk⟩ => by
  unfold evVar at tk
  split at tk
  · rename_i d ed
    obtain ⟨v, e1, r⟩ := re.at_ i _ ed
    exact ⟨v, e1, tk.now re v r⟩
  · exact absurd rfl tk.1
  · rename_i w hw1 hw2 ew
    obtain ⟨v, e1, r⟩ := re.at_ i w ew
    refine ⟨v, e1, ?_⟩
    have s := Stp.frz (F := F) (H := H) (lab := lab) (s := i + 1) re.sub
    have hr := r.frz re.sub (.inr fun c fs e => by subst e; exact hw2 c fs rfl)
    refine tk.at_ s ?_ v hr
    have re0 := (re.forget (i := i)).frz (s := i + 1) fun j w' e' hj => by
      have : j = i := by omega
      subst this
      rw [gt_st_same (gt_lt ew)] at e'
      cases e'
    have re1 := re0.put (i := i) (w := .sh w.frz) e1 hr
    rw [st_st] at re1
    exact re1
  · exact absurd rfl tk.1
theorem tzo_var {X : Cx} {i : Nat} {e : Expr} (h : PE X e (tVar i)) : PE X e (tzo K cm T (opdV i)) := peI h fun σ H Q ⟨ρ, F, lab, re, tk⟩ => by
  unfold opdV at tk
  split at tk
  · rename_i d ed
    obtain ⟨v, e1, r⟩ := re.at_ i _ ed
    exact ⟨v, e1, tk.now re v r⟩
  · rename_i l ed
    obtain ⟨v, e1, r⟩ := re.at_ i _ ed
    exact ⟨v, e1, tk.now re v e1⟩
  · rename_i t l ed
    obtain ⟨v, e1, r⟩ := re.at_ i _ ed
    exact ⟨v, e1, tk.now re v e1⟩
  · exact absurd rfl tk.1
/-- a two-place operation -/
theorem tz_op2 {o : D → D → R W} {oa ob : Env → R (Opd × Env)} (hm : T.Mono) (hx : ∀ p q c fs ρ, o p q ≠ .ex c fs ρ) {σ : L2.St} {H : Hp} {Q : VK}
    (h : tz K cm T (fun ρ => (oa ρ).bind fun x => (ob x.2).bind fun y => (look y.2 x.1).bind fun p => (look y.2 y.1).bind fun q => (o p q).bind fun w => .ok (w, y.2)) σ H Q) :
    tzo K cm T oa σ H fun x H1 => tzo K cm T ob σ H1 fun y H2 => rZ K cm o x y H2 Q := by
  obtain ⟨ρ, F, lab, re, tk⟩ := h
  refine ⟨ρ, F, lab, re, (tk.bnd hm).imp fun x F1 H1 lab1 tk1 re1 vx rx => ⟨x.2, F1, lab1, re1, ?_⟩⟩
  have tb := tk1.bnd hm
  refine ⟨tb.1, tb.2.1, fun y ey F2 H2 lab2 s2 re2 vy ry => ?_⟩
  have tk2 := tb.2.2 y ey F2 H2 lab2 s2
  obtain ⟨p, ep, tk3⟩ := tk2.pure look_noex
  obtain ⟨q, eq, tk4⟩ := tk3.pure look_noex
  obtain ⟨w, ew, tk5⟩ := tk4.pure (hx p q)
  refine ⟨F2, p, q, w, re2.sub, look_vw re2 (rx.mono s2.ff) ep, look_vw re2 ry eq, ew, fun v F' H' n => ?_⟩
  obtain ⟨lab', s', re', rw'⟩ := n.step re2
  exact tk5.at_ s' re' v rw'
theorem binO_noex {o : Bop} {p q : D} : ∀ c fs ρ, binO o p q ≠ .ex c fs ρ := fun c fs ρ e => by
  unfold binO at e
  split at e <;> (try split at e) <;> cases e
theorem bind_noex {α β : Type} {r : R α} {k : α → R β} (h1 : ∀ c fs ρ, r ≠ .ex c fs ρ) (h2 : ∀ a c fs ρ, k a ≠ .ex c fs ρ) : ∀ c fs ρ, r.bind k ≠ .ex c fs ρ := fun c fs ρ e => by
  cases r with
  | ok a => exact h2 a c fs ρ e
  | ex c' fs' ρ' => exact h1 c' fs' ρ' rfl
  | bad => cases e
theorem ok_noex {α : Type} {a : α} : ∀ c fs ρ, R.ok a ≠ .ex c fs ρ := fun _ _ _ e => by cases e
theorem bad_noex {α : Type} : ∀ c fs ρ, (R.bad : R α) ≠ .ex c fs ρ := fun _ _ _ e => by cases e
theorem cmpO_noex {o : Cop} {p q : D} : ∀ c fs ρ, cmpO o p q ≠ .ex c fs ρ := by
  unfold cmpO
  split <;> first | exact ok_noex | exact bad_noex | exact bind_noex ofO_noex fun _ => ok_noex
theorem ixO_noex {p q : D} : ∀ c fs ρ, ixO p q ≠ .ex c fs ρ := by
  unfold ixO
  split
  · exact bind_noex ofO_noex fun _ => ok_noex
  · exact bind_noex ofO_noex fun _ => ok_noex
  · split
    · exact bind_noex ofO_noex fun _ => ok_noex
    · exact bad_noex
  · exact bind_noex ofO_noex fun _ => bind_noex ofO_noex fun _ => ok_noex
  · exact bad_noex
theorem biO_noex {b : Bi} {l : List D} : ∀ c fs ρ, biO b l ≠ .ex c fs ρ := by
  unfold biO
  split <;> first
    | exact ok_noex
    | exact bad_noex
    | exact bind_noex ofO_noex fun _ => ok_noex
    | (split <;> first | exact ok_noex | exact bad_noex | exact bind_noex ofO_noex fun _ => ok_noex)
    | (refine bind_noex ofO_noex fun ns => ?_; cases ns <;> first | exact ok_noex | exact bad_noex)
end
end Z

set_option Elab.async false
set_option linter.all false
set_option maxRecDepth 100000
set_option maxHeartbeats 4000000
/-! Z6: calls of defs. -/
namespace Z
open PySem
open PySem.Spec
open PyProof.Rows
open L2
/-- a def keeps its promise wherever no repr is under way -/
structure FnG (P : Program) (w : World) (K : PySem.W.Frag) (mg : Str → Option Value) (base : Heap) (k : Nat) (f : Addr) (fd : FuncData) (ps : List Str) (sp : Sp) : Prop where
  len : ∀ vs H Q E, sp vs H Q E → vs.length = ps.length
  run : ∀ (A : Around) (outer : List PySem.Env) (s : Shared) (H : Hp) (args : Args) (us : List Value) (vs : List V) (Q : VK) (E : XK), Room k A → A.guards = some [] → Env0 P w K mg base A outer s H → BindsTo s fd args (ps.zip us) →
    Vals vs us → sp vs H Q E → codeAny (model P w) A (.call (.ref f) args) (CR (L2.CX P w) outer P w H s Q E) s
theorem FnG.mono {P : Program} {w : World} {K : PySem.W.Frag} {mg : Str → Option Value} {base : Heap} {j k : Nat} {f : Addr} {fd : FuncData} {ps : List Str} {sp : Sp} (F : FnG P w K mg base j f fd ps sp) (h : j ≤ k) : FnG P w K mg base k f fd ps sp :=
  ⟨F.len, fun A outer s H args us vs Q E hr => F.run A outer s H args us vs Q E (hr.mono h)⟩

/-- how an exception of the interpreter lies in the air -/
def ExW (K : PySem.W.Frag) (cm : String → Option Addr) (σ : L2.St) (F H : Hp) (lab : Lab) (c : String) (fs : Xfs) (ρ : Env) : WX := fun cls d σ' H' =>
  ∃ C dd gs F' lab', cls = .ref C ∧ cm c = some C ∧ d = some dd ∧ F' dd = some (.xd gs) ∧ RepF K cm F' fs gs ∧ Stp F H lab F' H' lab' ∧ RE K cm F' H' lab' ρ σ' ∧ σ' = σ
/-- what a def is worth -/
def spZ (K : PySem.W.Frag) (cm : String → Option Addr) (np : Nat) (br : List Bool) (m : List W → RF) : Sp := fun vs H Q E =>
  vs.length = np ∧ ∃ ws F lab, Sub F H ∧ ws.length = vs.length ∧ (∀ (i : Nat) (w : W) (v : V), ws[i]? = some w → vs[i]? = some v → RelW K cm F H lab (i + 1) w v) ∧ m ws ≠ .bad ∧
    (∀ w outs, m ws = .ok w outs → ∀ v F' H' lab', Sub F' H' → Stp F H lab F' H' lab' → RelW K cm F' H' lab' 0 w v →
      (∀ (i : Nat) (o : W) (v : V), outs[i]? = some o → br[i]? = some true → vs[i]? = some v → RelW K cm F' H' lab' (i + 1) o v) → Q v H') ∧
    (∀ c fs, m ws = .ex c fs → ∀ C dd gs F' H' lab', Sub F' H' → Stp F H lab F' H' lab' → cm c = some C → F' dd = some (.xd gs) → RepF K cm F' fs gs → E (.ref C) (some dd) H')

section
variable {X : Cx} {k : Nat} {f C : Addr} {fd : FuncData} {ps : List Str} {sp : Sp} {x : Str} {p pos : Pos} {e : Expr} {es : List Expr} {t : TA} {kws : List Keyword} {ks : List Str}
theorem runG {pins : List (Addr × Obj)} {σ : L2.St} {H : Hp} {s : Shared} {Q : VK} {us : List Value} {vs : List V} {args : Args} {Ex : XK} {W : WX} (F : FnG X.prog X.w X.K X.mg X.base k f fd ps sp) (hr : Room k X.A) (hg : X.A.guards = some [])
    (hb : BindsTo s fd args (ps.zip us)) (tk : Takes X W) (hW : ∀ cls d H, Ex cls d H → W cls d σ H) (I : Inv X pins σ H s) (r : Vals vs us) (h : sp vs H Q Ex) :
    codeAny (model X.prog X.w) X.A (.call (.ref f) args) (fun r s' => match r with | .ok (.ret u) => EP X pins σ Q u s' | .ok _ => False | .error e => X.xe e s') s := by
  refine codeAny_mono (F.run X.A X.stack s H args us vs Q Ex hr hg I.env0 hb r h) fun r s' hq => ?_
  cases r with
  | error e => exact tk e s' (XE.of_call I hW hq)
  | ok fl =>
    cases fl with
    | ret u => exact I.after hq
    | next => exact hq.elim
    | brk => exact hq.elim
    | cont => exact hq.elim
/-- a call's reading: the arguments, then the promise, with some wish about exceptions -/
def tCallG (X : Cx) (sp : Sp) (t : TA) : TE := fun σ H Q => t σ H fun vs H1 => ∃ (Ex : XK) (W : WX), Takes X W ∧ (∀ cls d H, Ex cls d H → W cls d σ H) ∧ sp vs H1 Q Ex
theorem pe_callG (F : FnG X.prog X.w X.K X.mg X.base k f fd ps sp) (hr : Room k X.A) (hgd : X.A.guards = some []) (hg : Gl X x) (hm : X.mg x = some (.ref f)) (hk : PySem.W.keepIn X.K (.ref f) = true) (hb : Binds X.K fd ps [])
    (ha : PA X (e :: es) t) (hdb : (x == ("__debug__" : Str)) = false) (he : starEach (e :: es) X.env = (false, eval e X.env) :: starEach es X.env) (hpl : (backTo pos (starEach es X.env)).any (·.1) = false) :
    PE X (.Call (.Name x p) (e :: es) [] pos) (tCallG X sp t) := by
  refine ⟨fun pins s σ H Q I h => ?_⟩
  refine wpAny_Call_Name_kw (ld_glob I hg hm ?_ hdb)
  refine PySem.W.callWith_K (h₀ := X.base) I.ok.mod.kin hk (thn (ha.run pos pins s σ H _ I h) fun us s1 ⟨vs, H1, I1, r, Ex, W, tk, hW, q⟩ => ⟨I1.kIn, ?_⟩) he hpl
  have hl : (us ++ []).length = ps.length := by rw [List.append_nil, ← r.length]; exact F.len _ _ _ _ q
  have hb' := hb s1 us I1.kIn hl
  rw [List.append_nil] at hb'
  refine wpAny_call (codeAny_mono (runG F hr hgd hb' tk hW I1 r q) fun r s' hq => ?_)
  cases r with
  | error e => exact hq
  | ok fl => cases fl <;> exact hq
theorem pe_callG0 (F : FnG X.prog X.w X.K X.mg X.base k f fd ps sp) (hr : Room k X.A) (hgd : X.A.guards = some []) (hg : Gl X x) (hm : X.mg x = some (.ref f)) (hk : PySem.W.keepIn X.K (.ref f) = true) (hb : Binds X.K fd ps [])
    (hdb : (x == ("__debug__" : Str)) = false) : PE X (.Call (.Name x p) [] [] pos) (tCallG X sp tNil) := by
  refine ⟨fun pins s σ H Q I h => ?_⟩
  refine wpAny_Call_Name_kw (ld_glob I hg hm ?_ hdb)
  obtain ⟨Ex, W, tk, hW, q⟩ := h
  have hl : (([] : List Value) ++ []).length = ps.length := by have := F.len _ _ _ _ q; simpa using this
  have hb' := hb s [] I.kIn hl
  refine PySem.W.callWith_K0 I.kIn hk (wpAny_call (codeAny_mono (runG F hr hgd hb' tk hW I .nil q) fun r s' hq => ?_))
  cases r with
  | error e => exact hq
  | ok fl => cases fl <;> exact hq
/-- keywords alone: their values in the parameters' order -/
theorem pe_callGK (F : FnG X.prog X.w X.K X.mg X.base k f fd ps sp) (hr : Room k X.A) (hgd : X.A.guards = some []) (hg : Gl X x) (hm : X.mg x = some (.ref f)) (hk : PySem.W.keepIn X.K (.ref f) = true)
    (hb : ∀ (s : Shared) (us : List Value), X.K.In s.heap → us.length = ps.length → BindsTo s fd ⟨[], ks.zip us⟩ (ps.zip us))
    (hkw : PK X kws t) (hall : (backToKw pos (keywordEach kws X.env)).all (·.1.isSome) = true) (hks : (backToKw pos (keywordEach kws X.env)).filterMap (·.1) = ks)
    (hdb : (x == ("__debug__" : Str)) = false) (hpl : ((backTo pos (starEach [] X.env)).any (·.1) || (backToKw pos (keywordEach kws X.env)).any (·.1.isNone)) = false) :
    PE X (.Call (.Name x p) [] kws pos) (tCallG X sp t) := by
  refine ⟨fun pins s σ H Q I h => ?_⟩
  refine wpAny_Call_Name_kw (ld_glob I hg hm ?_ hdb)
  refine PySem.W.callWith_KW0 (h₀ := X.base) I.ok.mod.kin hk hall ?_ hpl
  refine thn (hkw.run pos pins s σ H _ I h) fun us s1 ⟨vs, H1, I1, r, Ex, W, tk, hW, q⟩ => ⟨I1.kIn, ?_⟩
  rw [hks]
  have hl : us.length = ps.length := by rw [← r.length]; exact F.len _ _ _ _ q
  refine wpAny_call (codeAny_mono (runG F hr hgd (hb s1 us I1.kIn hl) tk hW I1 r q) fun r s' hq => ?_)
  cases r with
  | error e => exact hq
  | ok fl => cases fl <;> exact hq
end
/-! ### calls with defaults -/
/-- what a call by place (n values), by name (ks) binds: the defaults fill up -/
structure ShB (K : PySem.W.Frag) (fd : FuncData) (ps : List Str) (s : Sh) : Prop where
  len : ∀ {α : Type} (as ds : List α), as.length = s.n + s.ks.length → ds.length = (defsOf s.dv).length → (mergeG s.dv as ds).length = ps.length
  ex : ∃ dus : List Value, Vals ((defsOf s.dv).map toV) dus ∧ (defsOf s.dv).all flatD = true ∧ ∀ (sh : Shared) (us ws : List Value), K.In sh.heap → us.length = s.n → ws.length = s.ks.length → BindsTo sh fd ⟨us, (s.ks.map Str.ofString).zip ws⟩ (ps.zip (mergeG s.dv (us ++ ws) dus))
theorem Vals.merge {dv : List (Option D)} : ∀ {vs : List V} {us : List Value} {xs : List V} {ys : List Value}, Vals vs us → Vals xs ys → Vals (mergeG dv vs xs) (mergeG dv us ys) := by
  induction dv with
  | nil => intro vs us xs ys _ _; exact .nil
  | cons o r ih =>
    intro vs us xs ys h1 h2
    cases o with
    | none =>
      cases h1 with
      | nil => exact .nil
      | cons a b => exact .cons a (ih b h2)
    | some d =>
      cases h2 with
      | nil => exact .nil
      | cons a b => exact .cons a (ih h1 b)
section
variable {X : Cx} {k : Nat} {f C : Addr} {fd : FuncData} {ps : List Str} {sp : Sp} {x : Str} {p pos : Pos} {e : Expr} {es : List Expr} {t tk : TA} {kws : List Keyword} {s : Sh}
/-- the reading: by place, by name, then the promise -/
def tCallS (X : Cx) (sp : Sp) (s : Sh) (t tk : TA) : TE := fun σ H Q => t σ H fun vs H1 => tk σ H1 fun zs H2 => vs.length = s.n ∧ zs.length = s.ks.length ∧ ∃ (Ex : XK) (W : WX), Takes X W ∧ (∀ cls d H, Ex cls d H → W cls d σ H) ∧ sp (mergeG s.dv (vs ++ zs) ((defsOf s.dv).map toV)) H2 Q Ex
theorem vals_app {vs zs : List V} {us ws : List Value} (h : Vals vs us) (h' : Vals zs ws) : Vals (vs ++ zs) (us ++ ws) := by
  induction h with
  | nil => exact h'
  | cons a _ ih => exact .cons a ih
theorem pe_callS (F : FnG X.prog X.w X.K X.mg X.base k f fd ps sp) (hr : Room k X.A) (hgd : X.A.guards = some []) (hg : Gl X x) (hm : X.mg x = some (.ref f)) (hk : PySem.W.keepIn X.K (.ref f) = true) (hb : ShB X.K fd ps s)
    (ha : PA X (e :: es) t) (hkw : PK X kws tk) (hall : (backToKw pos (keywordEach kws X.env)).all (·.1.isSome) = true) (hks : (backToKw pos (keywordEach kws X.env)).filterMap (·.1) = s.ks.map Str.ofString)
    (hdb : (x == ("__debug__" : Str)) = false) (he : starEach (e :: es) X.env = (false, eval e X.env) :: starEach es X.env) (hpl : ((backTo pos (starEach (e :: es) X.env)).any (·.1) || (backToKw pos (keywordEach kws X.env)).any (·.1.isNone)) = false) :
    PE X (.Call (.Name x p) (e :: es) kws pos) (tCallS X sp s t tk) := by
  refine ⟨fun pins s0 σ H Q I h => ?_⟩
  refine wpAny_Call_Name_kw (ld_glob I hg hm ?_ hdb)
  obtain ⟨dus, d1, d2, d3⟩ := hb.ex
  refine PySem.W.callWith_KW (h₀ := X.base) I.ok.mod.kin hk hall (thn (ha.run pos pins s0 σ H _ I h) fun us s1 ⟨vs, H1, I1, r, q⟩ => ?_) hpl he
  refine thn (hkw.run pos pins s1 σ H1 _ I1 q) fun ws s2 ⟨zs, H2, I2, rz, l1, l2, Ex, W, tk, hW, q2⟩ => ⟨I2.kIn, ?_⟩
  rw [hks]
  refine wpAny_call (codeAny_mono (runG F hr hgd (d3 s2 us ws I2.kIn (r.length.symm.trans l1) (rz.length.symm.trans l2)) tk hW I2 (Vals.merge (vals_app r rz) d1) q2) fun r s' hq => ?_)
  cases r with
  | error e => exact hq
  | ok fl => cases fl <;> exact hq
theorem pe_callS0 (F : FnG X.prog X.w X.K X.mg X.base k f fd ps sp) (hr : Room k X.A) (hgd : X.A.guards = some []) (hg : Gl X x) (hm : X.mg x = some (.ref f)) (hk : PySem.W.keepIn X.K (.ref f) = true) (hb : ShB X.K fd ps s) (h0 : s.ks = [])
    (ha : PA X (e :: es) t) (hdb : (x == ("__debug__" : Str)) = false) (he : starEach (e :: es) X.env = (false, eval e X.env) :: starEach es X.env) (hpl : (backTo pos (starEach es X.env)).any (·.1) = false) :
    PE X (.Call (.Name x p) (e :: es) [] pos) (tCallS X sp s t tNil) := by
  refine ⟨fun pins s0 σ H Q I h => ?_⟩
  refine wpAny_Call_Name_kw (ld_glob I hg hm ?_ hdb)
  obtain ⟨dus, d1, d2, d3⟩ := hb.ex
  refine PySem.W.callWith_K (h₀ := X.base) I.ok.mod.kin hk (thn (ha.run pos pins s0 σ H _ I h) fun us s1 ⟨vs, H1, I1, r, q⟩ => ⟨I1.kIn, ?_⟩) he hpl
  have q : vs.length = s.n ∧ ([] : List V).length = s.ks.length ∧ ∃ (Ex : XK) (W : WX), Takes X W ∧ (∀ cls d H, Ex cls d H → W cls d σ H) ∧ sp (mergeG s.dv (vs ++ []) ((defsOf s.dv).map toV)) H1 Q Ex := q
  obtain ⟨l1, l2, Ex, W, tk, hW, q2⟩ := q
  have hb' := d3 s1 us [] I1.kIn (r.length.symm.trans l1) (by rw [h0]; rfl)
  rw [h0] at hb'
  refine wpAny_call (codeAny_mono (runG F hr hgd hb' tk hW I1 (Vals.merge (vals_app r .nil) d1) q2) fun r s' hq => ?_)
  cases r with
  | error e => exact hq
  | ok fl => cases fl <;> exact hq
end
end Z

set_option Elab.async false
set_option linter.all false
set_option maxRecDepth 100000
set_option maxHeartbeats 4000000
/-! Z7: the checker (this term of ours is that piece of syntax), and the soundness of expressions. -/
namespace Z
open PySem
open PySem.Spec
open PyProof.Rows
open L2

/-! ### the checker -/
def visB (sc : Scope) (x : Str) : Bool := match sc.names.lookup x with
  | some .local => true
  | some .cell => true
  | some .free => true
  | _ => false
def locB (sc : Scope) (x : Str) : Bool := match sc.names.lookup x with
  | some .local => true
  | some .cell => true
  | _ => false
def gloB (sc : Scope) (x : Str) : Bool := match sc.names.lookup x with
  | some .globalImplicit => true
  | _ => false
def plainX (x : Str) : Bool := !(x == ("__debug__" : Str)) && !(x == ("__classdict__" : Str)) && !decide (x = ("__name__" : Str))
def noStarE : Expr → Bool
  | .Starred _ _ => false
  | _ => true
def ixE : Expr → Bool
  | .Slice _ _ _ _ => false
  | _ => true
/-- no display of a set is walked -/
def setFree : Expr → Bool
  | .Set _ _ _ => false
  | _ => true
/-- the names that the text leaves to the built-ins -/
abbrev Frees := List String
structure CkC where
  N : List Str
  sc : Scope
  ca : Bool
  fr : Frees
  df : List String
  kn : String → List String
  g : GX := {}
def CkC.blt (C : CkC) (x : Str) (n : String) : Bool := decide (x = Str.ofString n) && gloB C.sc x && decide (n ∈ C.fr) && plainX x
def bopB : Bop → Operator → Bool
  | .add, .Add => true
  | .sub, .Sub => true
  | .mul, .Mult => true
  | .fdiv, .FloorDiv => true
  | .mod, .Mod => true
  | .pow, .Pow => true
  | _, _ => false
def copB : Cop → CmpOp → Bool
  | .eq, .Eq => true
  | .ne, .NotEq => true
  | .lt, .Lt => true
  | .le, .LtE => true
  | .gt, .Gt => true
  | .ge, .GtE => true
  | .isin, .In => true
  | .notin, .NotIn => true
  | .is_, .Is => true
  | .isnot, .IsNot => true
  | _, _ => false
def biN : Bi → String
  | .len => "len"
  | .abs => "abs"
  | .int => "int"
  | .str => "str"
  | .repr => "repr"
  | .max2 => "max"
  | .min2 => "min"
  | .max1 => "max"
  | .min1 => "min"
  | .sum => "sum"
  | .sorted => "sorted"
  | .tuple => "tuple"
  | .list => "list"
  | .all => "all"
  | .any => "any"
  | .isa _ => ""
def notIsa : Bi → Bool
  | .isa _ => false
  | _ => true
def tyN : Ty → Option String
  | .int => some "int"
  | .bool => some "bool"
  | .str => some "str"
  | .list => some "list"
  | .tuple => some "tuple"
  | .own _ => none
def tyB1 (C : CkC) (t : Ty) : Expr → Bool
  | .Name x _ => match tyN t with
    | some n => C.blt x n
    | none => false
  | _ => false
def tyBs (C : CkC) : List Ty → List Expr → Bool
  | [], [] => true
  | t :: ts, e :: es => tyB1 C t e && tyBs C ts es
  | _, _ => false
def tyB (C : CkC) (ts : List Ty) : Expr → Bool
  | .Tuple es _ _ => decide (ts.length < 100) && tyBs C ts es
  | e => match ts with
    | [t] => tyB1 C t e
    | _ => false
/-- a class by its name -/
def clsB (C : CkC) (c : String) (z : Str) : Bool := C.g.cls.contains c && (decide (z = Str.ofString c) && (if c = "ValueError" then C.blt z "ValueError" else gloB C.sc z && plainX z))
def isRepr : Bi → Bool
  | .repr => true
  | _ => false
def optE : E → Option Expr → Option Expr
  | .non, none => none
  | _, o => o
mutual
def ckT (C : CkC) : T → Expr → Bool
  | .v i, .Name x _ => decide (C.N[i]? = some x) && locB C.sc x
  | .t ts, .Tuple es _ _ => C.ca && ckTs C ts es
  | _, _ => false
def ckTs (C : CkC) : List T → List Expr → Bool
  | [], [] => true
  | t :: ts, e :: es => ckT C t e && ckTs C ts es
  | _, _ => false
end
mutual
def slots : T → List Nat
  | .v i => [i]
  | .t ts => slotss ts
def slotss : List T → List Nat
  | [] => []
  | t :: ts => slots t ++ slotss ts
end
def ownN (N : List Str) (own : List Nat) : List (Str × Nat) := own.map fun i => (N.getD i ("" : Str), i)
def isNonE : E → Bool
  | .non => true
  | _ => false
def ckP (f : Expr → Bool) (b : Bool) : Option Expr → Bool
  | none => b
  | some x => !b && f x
/-- no call without arguments: that may be super() -/
def plainO : Expr → Bool
  | .Call _ [] _ _ => false
  | _ => true
def ckPu (C : CkC) : E → Expr → Bool
  | .var i, .Name x _ => decide (C.N[i]? = some x) && (visB C.sc x && plainX x)
  | .int i, .Constant (.int j) _ _ => decide (j = i)
  | _, _ => false
def ckPus (C : CkC) : List E → List Expr → Bool
  | [], [] => true
  | a :: l, e :: es => ckPu C a e && ckPus C l es
  | _, _ => false
mutual
def ck (C : CkC) : E → Expr → Bool
  | .gint n i, .Name x _ => decide (x = Str.ofString n) && (gloB C.sc x && (plainX x && decide ((n, i) ∈ C.g.ci)))
  | .gstr n i, .Name x _ => decide (x = Str.ofString n) && (gloB C.sc x && (plainX x && decide ((n, i) ∈ C.g.cs)))
  | .fld a f, .Attribute x g _ => decide (g = Str.ofString f) && (plainO x && ck C a x)
  | .pix a i, .Subscript x y _ => ixE y && (ck C a x && ck C i y)
  | .pcmp o a b, .Compare x [op] [y] _ => copB o op && (!behindInMarks op y && (ck C a x && ck C b y))
  | .plen a, .Call (.Name x _) [y] [] _ => C.ca && (C.blt x "len" && (noStarE y && ck C a y))
  | .lenI a, .Call (.Name x _) [y] [] _ => C.ca && (C.blt x "len" && (noStarE y && ck C a y))
  | .isc a c, .Call (.Name x _) [y, .Name z _] [] _ => C.blt x "isinstance" && (noStarE y && (clsB C c z && ck C a y))
  | .mk c l, .Call (.Name x _) xs [] _ => C.ca && ((C.g.mkO c).isSome && (decide (x = Str.ofString c) && (gloB C.sc x && (plainX x && cks C l xs))))
  | .meth a m l, .Call (.Attribute x g ap) xs [] cp => C.ca && (decide (g = Str.ofString m) && (plainO x && ((ap.endLine == cp.line) && (decide (xs.length < 30) && (ck C a x && cks C l xs)))))
  | .var i, .Name x _ => decide (C.N[i]? = some x) && visB C.sc x && plainX x
  | .int i, .Constant (.int j) _ _ => decide (i = j)
  | .str s, .Constant (.str x) _ _ => decide (s = x)
  | .bl b, .Constant (.bool c) _ _ => decide (b = c)
  | .non, .Constant .none _ _ => true
  | .bin o a b, .BinOp x op y _ => bopB o op && (ck C a x && ck C b y)
  | .cmp o a b, .Compare x [op] [y] _ => copB o op && (!behindInMarks op y && (ck C a x && ck C b y))
  | .chn o o' a b c, .Compare x [op, op'] [y, z] _ => copB o op && (copB o' op' && (!lastMarks [op, op'] [y, z] && (ck C a x && (ck C b y && ck C c z))))
  | .neg a, .UnaryOp .USub x _ => ck C a x
  | .not a, .UnaryOp .Not x _ => ck C a x
  | .and l, .BoolOp .And xs _ => !xs.isEmpty && cks C l xs
  | .or l, .BoolOp .Or xs _ => !xs.isEmpty && cks C l xs
  | .ite t a b, .IfExp x y z _ => ck C t x && (ck C a y && ck C b z)
  | .tup l, .Tuple xs _ _ => cks C l xs
  | .lst l, .List xs _ => cks C l xs
  | .dic t, .Dict [] [] _ => true
  | .ix a i, .Subscript x y _ => ixE y && (ck C a x && ck C i y)
  | .sl a lo hi, .Subscript x (.Slice l h none _) _ => ck C a x && (ckP (ck C lo) (isNonE lo) l && ckP (ck C hi) (isNonE hi) h)
  | .call f l, .Call (.Name x _) xs [] _ => decide (x = Str.ofString f) && (decide (f ∈ C.df) && (gloB C.sc x && (plainX x && cks C l xs)))
  | .bi (.isa ts) [a], .Call (.Name x _) [y, ty] [] _ => C.blt x "isinstance" && (noStarE y && (tyB C ts ty && ck C a y))
  | .bi b l, .Call (.Name x _) (y :: ys) [] _ => notIsa b && (C.blt x (biN b) && ((C.ca || isRepr b) && cks C l (y :: ys)))
  | .callk f l ns, .Call (.Name x _) [] kws _ => decide (x = Str.ofString f) && (decide (f ∈ C.df) && (gloB C.sc x && (plainX x && (decide (ns = C.kn f ∧ 0 < ns.length) && ckKs C l ns kws))))
  | .methO a m l, .Call (.Attribute x g ap) xs [] cp => C.ca && (decide (g = Str.ofString m) && (plainO x && ((ap.endLine == cp.line) && (decide (xs.length < 30) && (ck C a x && ckPus C l xs)))))
  | .ofI b (.rng l), .Call (.Name x _) [.Call (.Name y _) xs [] _] [] _ => C.ca && (C.blt x (if b then "tuple" else "list") && (C.blt y "range" && (decide (0 < xs.length ∧ xs.length < 3) && cks C l xs)))
  | .rvs a, .Subscript e (.Slice none none (some (.UnaryOp .USub (.Constant (.int 1) _ _) _)) _) _ => ck C a e
  | .idx a x, .Call (.Attribute e m ap) [v] [] cp => decide (m = ("index" : Str)) && (noStarE v && ((ap.endLine == cp.line) && (plainO e && (ck C a e && ck C x v))))
  | .tupRev a, .Call (.Name x _) [.Call (.Name y _) [z] [] _] [] _ => C.ca && (C.blt x "tuple" && (C.blt y "reversed" && (noStarE z && ck C a z)))
  | .comp e t it cs own, .ListComp elt [⟨tg, iter, ifs, 0⟩] scope _ =>
      C.ca && (ckI C it tg iter && (blkC C.N C.sc scope (ownN C.N own) && (ckT { C with sc := scope } t tg && ((slots t).all (fun i => own.contains i) &&
        (cks { C with sc := scope } cs ifs && (decide (ifs.length < 2) && (ck { C with sc := scope } e elt && setFree iter)))))))
  | .calls sk l kl, .Call (.Name x _) xs kws _ => C.ca && match C.g.shp.lookup sk with
    | some (f, s) => decide (x = Str.ofString f) && (gloB C.sc x && (plainX x && (decide (xs.length = s.n ∧ 0 < s.n ∧ l.length = s.n) && (cks C l xs && ckKs C kl s.ks kws))))
    | none => false
  | .get2 a b c, .Call (.Attribute e m ap) [v, w] [] cp => decide (m = ("get" : Str)) && (noStarE v && (noStarE w && ((ap.endLine == cp.line) && (plainO e && (ck C a e && (ck C b v && ck C c w))))))
  | .dicl ks l, .Dict keys vals _ => decide (0 < keys.length ∧ keys.length < 16) && ckDs C ks l keys vals
  | .popF i f, .Call (.Attribute (.Attribute (.Name y _) g _) m ap) [.Constant (.int 0) _ _] [] cp => C.ca && (decide (m = ("pop" : Str)) && (decide (g = Str.ofString f) && (decide (C.N[i]? = some y) && (visB C.sc y && (plainX y && (ap.endLine == cp.line))))))
  | _, _ => false
def ckDs (C : CkC) : List Str → List E → List (Option Expr) → List Expr → Bool
  | [], [], [], [] => true
  | s :: ks, a :: l, some (.Constant (.str x) _ _) :: keys, v :: vals => decide (s = x) && (ck C a v && ckDs C ks l keys vals)
  | _, _, _, _ => false
def cks (C : CkC) : List E → List Expr → Bool
  | [], [] => true
  | a :: l, x :: xs => noStarE x && (ck C a x && cks C l xs)
  | _, _ => false
def ckKs (C : CkC) : List E → List String → List Keyword → Bool
  | [], [], [] => true
  | a :: l, n :: ns, ⟨some x, v, _⟩ :: ks => decide (x = Str.ofString n) && (ck C a v && ckKs C l ns ks)
  | _, _, _ => false
def ckI (C : CkC) : I → Expr → Expr → Bool
  | .e a, _, x => ck C a x
  | .rng l, _, .Call (.Name x _) xs [] _ => C.blt x "range" && (decide (0 < xs.length ∧ xs.length < 4) && cks C l xs)
  | .zip a b, .Tuple _ _ _, .Call (.Name x _) [y, z] [] _ => C.blt x "zip" && (noStarE y && (noStarE z && (ck C a y && ck C b z)))
  | .enum a, .Tuple _ _ _, .Call (.Name x _) [y] [] _ => C.blt x "enumerate" && (noStarE y && ck C a y)
  | .revr l, _, .Call (.Name x _) [.Call (.Name y _) xs [] _] [] _ => C.blt x "reversed" && (C.blt y "range" && (decide (0 < xs.length ∧ xs.length < 3) && cks C l xs))
  | .rev a, _, .Call (.Name x _) [y] [] _ => C.blt x "reversed" && (noStarE y && ck C a y)
  | _, _, _ => false
end

/-! ### what a context must be -/
structure XOk (X : Cx) (C : CkC) : Prop where
  n : X.N = C.N
  nd : C.N.Nodup
  sc : ∀ x k, C.sc.names.lookup x = some k → (k ≠ .free → X.env.scope.names.lookup x = some k) ∧ (k = .free → X.env.scope.names.lookup x = some .cell ∨ X.env.scope.names.lookup x = some .free)
  cell : ∀ x, C.sc.names.lookup x = some .cell → X.fn x = true
  calm : C.ca = true → X.calm = true
  un : X.A.units + 64 < cLine
  gd : X.A.guards = some []
  fr : ∀ n ∈ C.fr, X.mg (Str.ofString n) = none
  gc : (∀ p ∈ C.g.ci, ∃ t, X.mg (Str.ofString p.1) = some (.int p.2 t)) ∧ ∀ p ∈ C.g.cs, ∃ t, X.mg (Str.ofString p.1) = some (.str p.2 t)
theorem XOk.vis {X : Cx} {C : CkC} (o : XOk X C) {x : Str} (h : visB C.sc x = true) : Vis X.env.scope x := by
  unfold visB at h
  split at h
  · rename_i e; exact .inl ((o.sc x _ e).1 (by decide))
  · rename_i e; exact .inr (.inl ((o.sc x _ e).1 (by decide)))
  · rename_i e
    rcases (o.sc x _ e).2 rfl with z | z
    · exact .inr (.inl z)
    · exact .inr (.inr z)
  · cases h
theorem XOk.loc {X : Cx} {C : CkC} (o : XOk X C) {x : Str} (h : locB C.sc x = true) : Loc X.env.scope x ∧ (X.fn x = true ∨ X.env.scope.names.lookup x = some .local) := by
  unfold locB at h
  split at h
  · rename_i e; exact ⟨.inl ((o.sc x _ e).1 (by decide)), .inr ((o.sc x _ e).1 (by decide))⟩
  · rename_i e; exact ⟨.inr ((o.sc x _ e).1 (by decide)), .inl (o.cell x e)⟩
  · cases h
theorem XOk.gl {X : Cx} {C : CkC} (o : XOk X C) {x : Str} (h : gloB C.sc x = true) : Gl X x := by
  unfold gloB at h
  split at h
  · rename_i e; exact (o.sc x _ e).1 (by decide)
  · cases h
theorem plainX_of {x : Str} (h : plainX x = true) : (x == ("__debug__" : Str)) = false ∧ (x == ("__classdict__" : Str)) = false ∧ x ≠ "__name__" := by
  simp only [plainX, Bool.and_eq_true, Bool.not_eq_true', decide_eq_false_iff_not] at h
  exact ⟨h.1.1, h.1.2, h.2⟩
theorem XOk.blt {X : Cx} {C : CkC} (o : XOk X C) {x : Str} {n : String} (h : C.blt x n = true) : Gl X x ∧ X.mg x = none ∧ x = Str.ofString n ∧ (x == ("__debug__" : Str)) = false ∧ x ≠ "__name__" := by
  simp only [CkC.blt, Bool.and_eq_true, decide_eq_true_eq] at h
  obtain ⟨⟨⟨h1, h2⟩, h3⟩, h4⟩ := h
  obtain ⟨p1, _, p3⟩ := plainX_of h4
  exact ⟨o.gl h2, by rw [h1]; exact o.fr n h3, h1, p1, p3⟩
theorem relabel_look {env : PySem.Env} : ∀ (names : List (Str × NameKind)) {x : Str} {k : NameKind}, names.lookup x = some k →
    (k ≠ .free → (names.map fun (n, k) => if (k == NameKind.free && env.scope.kind == .function && env.kindOf n == some .cell) then (n, NameKind.cell) else (n, k)).lookup x = some k) ∧
    (k = .free → (names.map fun (n, k) => if (k == NameKind.free && env.scope.kind == .function && env.kindOf n == some .cell) then (n, NameKind.cell) else (n, k)).lookup x = some .cell ∨
      (names.map fun (n, k) => if (k == NameKind.free && env.scope.kind == .function && env.kindOf n == some .cell) then (n, NameKind.cell) else (n, k)).lookup x = some .free)
  | [], _, _, h => by simp at h
  | (n, k0) :: r, x, k, h => by
    rw [List.map_cons]
    rw [List.lookup_cons] at h
    by_cases e : x = n
    · subst e
      simp only [beq_self_eq_true, Option.some.injEq] at h
      subst h
      refine ⟨fun nk => ?_, fun ek => ?_⟩
      · have : (k0 == NameKind.free) = false := by cases k0 <;> first | rfl | exact absurd rfl nk
        simp [this, List.lookup_cons]
      · subst ek
        by_cases c : (env.scope.kind == ScopeKind.function && env.kindOf x == some NameKind.cell) = true
        · left; simp only [beq_self_eq_true, Bool.true_and, c, if_true]; simp [List.lookup_cons]
        · right; simp only [beq_self_eq_true, Bool.true_and, c]; simp [List.lookup_cons]
    · have hb : (x == n) = false := by simp [e]
      rw [hb] at h
      obtain ⟨i1, i2⟩ := relabel_look (env := env) r h
      have hd : ∀ (l : List (Str × NameKind)), List.lookup x ((if (k0 == NameKind.free && env.scope.kind == .function && env.kindOf n == some .cell) = true then (n, NameKind.cell) else (n, k0)) :: l) = List.lookup x l := fun l => by
        split <;> rw [List.lookup_cons, hb]
      refine ⟨fun nk => ?_, fun ek => ?_⟩
      · rw [hd]; exact i1 nk
      · rw [hd]; exact i2 ek
theorem XOk.blk {X : Cx} {C : CkC} (o : XOk X C) {s : Shared} {H : Hp} {scope : Scope} {cl : List (Str × Addr)} {c : Addr} {fp : List Addr} : XOk (X.blk s H scope (compEnvC scope cl c X.env) fp) { C with sc := scope } where
  n := o.n
  nd := o.nd
  sc := fun x k h => relabel_look (env := X.env) scope.names h
  cell := fun x h => by show (scope.names.lookup x == some .cell) = true; rw [show scope.names.lookup x = some .cell from h]; rfl
  calm := o.calm
  un := o.un
  gd := o.gd
  fr := o.fr
  gc := o.gc
theorem XOk.blkOk {X : Cx} {C : CkC} (o : XOk X C) {scope : Scope} {own : List (Str × Nat)} (h : blkC C.N C.sc scope own = true) : BlkOk X.N X.env.scope scope own := by
  have b := blkOk_by h
  refine ⟨b.kind, b.uniq, by rw [o.n]; exact b.ix, fun y hy e => ?_, fun y hy e => by rw [o.n]; exact b.own y hy e⟩
  rcases b.free y hy e with z | z
  · exact .inl ((o.sc _ _ z).1 (by decide))
  · exact (o.sc _ _ z).2 rfl

/-! ### small things of the syntax -/
theorem star_cons {e : Expr} {es : List Expr} {env : PySem.Env} (h : noStarE e = true) : starEach (e :: es) env = (false, eval e env) :: starEach es env := by
  cases e <;> first | rfl | cases h
theorem star_none {es : List Expr} {env : PySem.Env} {pos : Pos} (h : ∀ e ∈ es, noStarE e = true) : (backTo pos (starEach es env)).any (·.1) = false := by
  induction es with
  | nil => rfl
  | cons e es ih =>
    rw [star_cons (h e (by simp))]
    have := ih fun e' he => h e' (by simp [he])
    show (false || (backTo pos (starEach es env)).any (·.1)) = false
    rw [this]; rfl
theorem cks_star {C : CkC} : ∀ {l : List E} {xs : List Expr}, cks C l xs = true → ∀ e ∈ xs, noStarE e = true
  | [], [], _ => fun _ h => by cases h
  | a :: l, x :: xs, h => by
    simp only [cks, Bool.and_eq_true] at h
    intro e he
    rcases List.mem_cons.mp he with rfl | he
    · exact h.1
    · exact cks_star h.2.2 e he
  | [], _ :: _, h => by simp [cks] at h
  | _ :: _, [], h => by simp [cks] at h
theorem ix_plain {e : Expr} (h : ixE e = true) : PlainIx e := fun o i => by
  cases e <;> first | rfl | cases h
end Z

set_option Elab.async false
set_option linter.all false
set_option maxRecDepth 100000
set_option maxHeartbeats 4000000
/-! Z8: targets, what is walked, small readings. -/
namespace Z
open PySem
open PySem.Spec
open PyProof.Rows
open L2

theorem Tk.of_ok {α : Type} {T : TP} {σ : L2.St} {F H : Hp} {lab : Lab} {r : R α} {a : α} {Post : α → Hp → Hp → Lab → Prop} (e : r = .ok a) (h : ∀ F' H' lab', Stp F H lab F' H' lab' → Post a F' H' lab') : Tk T σ F H lab r Post := by
  subst e
  exact ⟨fun z => (by cases z), fun _ _ _ z => (by cases z), fun b eb => (by cases eb; exact h)⟩
theorem piI {X : Cx} {tg e : Expr} {t t' : TI} (h : PI X tg e t) (i : ∀ σ H R, t' σ H R → t σ H R) : PI X tg e t' := ⟨fun pins s σ H R I q => h.run pins s σ H R I (i σ H R q)⟩
theorem pgI {X : Cx} {e : Expr} {t t' : TG} (h : PG X e t) (i : ∀ v σ H Q, t' v σ H Q → t v σ H Q) : PG X e t' := ⟨fun pins s σ H v u Q I r q => h.run pins s σ H v u Q I r (i v σ H Q q)⟩
theorem pgsI {X : Cx} {e : List Expr} {t t' : TGs} (h : PGs X e t) (i : ∀ v σ H Q, t' v σ H Q → t v σ H Q) : PGs X e t' := ⟨fun pins s σ H v u Q I r q => h.run pins s σ H v u Q I r (i v σ H Q q)⟩
theorem ptsI {X : Cx} {e : List Expr} {t t' : TT} (h : PTs X e t) (i : ∀ σ H Q, t' σ H Q → t σ H Q) : PTs X e t' := ⟨fun pins s σ H Q I q => h.run pins s σ H Q I (i σ H Q q)⟩

theorem pg_or {X : Cx} {e : Expr} {t t' : TG} (h : PG X e t) (h' : PG X e t') : PG X e (fun v σ H Q => t v σ H Q ∨ t' v σ H Q) := ⟨fun pins s σ H v u Q I r q => by
  rcases q with q | q
  · exact h.run pins s σ H v u Q I r q
  · exact h'.run pins s σ H v u Q I r q⟩

/-! ### targets -/
def OffS (vs : List Nat) (σ σ' : L2.St) : Prop := σ'.length = σ.length ∧ ∀ j, j ∉ vs → σ'[j]? = σ[j]?
theorem OffS.refl (vs : List Nat) (σ : L2.St) : OffS vs σ σ := ⟨rfl, fun _ _ => rfl⟩
theorem OffS.app {us vs : List Nat} {σ σ1 σ2 : L2.St} (a : OffS us σ σ1) (b : OffS vs σ1 σ2) : OffS (us ++ vs) σ σ2 :=
  ⟨b.1.trans a.1, fun j h => by
    rw [List.mem_append, not_or] at h
    rw [b.2 j h.2, a.2 j h.1]⟩
theorem wipe_at {σ : L2.St} {j : Nat} : ∀ {vs : List Nat}, j ∉ vs → (wipe σ vs)[j]? = σ[j]?
  | [], _ => rfl
  | v :: vs, h => by
    simp only [List.mem_cons, not_or] at h
    unfold wipe
    rw [List.getElem?_set_ne (fun e => h.1 e.symm), wipe_at h.2]
theorem wipe_in {σ : L2.St} {j : Nat} : ∀ {vs : List Nat}, j ∈ vs → (wipe σ vs)[j]? = if j < σ.length then some none else none
  | [], h => by cases h
  | v :: vs, h => by
    unfold wipe
    by_cases e : v = j
    · subst e
      by_cases hl : v < σ.length
      · rw [List.getElem?_set_self (by rw [wipe_length]; exact hl), if_pos hl]
      · rw [if_neg hl, List.getElem?_eq_none (by rw [List.length_set, wipe_length]; omega)]
    · rw [List.getElem?_set_ne e]
      exact wipe_in (by rcases List.mem_cons.mp h with z | z; exact absurd z.symm e; exact z)
theorem OffS.wipe {us vs : List Nat} {σ σ' : L2.St} (h : OffS us σ σ') (hs : ∀ i ∈ us, i ∈ vs) : wipe σ' vs = L2.wipe σ vs := by
  apply List.ext_getElem?
  intro j
  by_cases hj : j ∈ vs
  · rw [wipe_in hj, wipe_in hj, h.1]
  · rw [wipe_at hj, wipe_at hj]
    exact h.2 j fun z => hj (hs j z)
theorem wipe_wipe {σ : L2.St} {vs : List Nat} : wipe (wipe σ vs) vs = wipe σ vs := by
  apply List.ext_getElem?
  intro j
  by_cases hj : j ∈ vs
  · rw [wipe_in hj, wipe_in hj, wipe_length]
  · rw [wipe_at hj]
section
variable {K : PySem.W.Frag} {cm : String → Option Addr} {F H : Hp} {lab : Lab} {ρ ρ' : Env} {σ : L2.St}
theorem gt_wipeE {i : Nat} {w : W} : ∀ {own : List Nat}, gt (wipeE ρ own) i = some w → i ∉ own ∧ gt ρ i = some w
  | [], h => ⟨by simp, h⟩
  | v :: vs, h => by
    unfold wipeE at h
    by_cases e : i = v
    · subst e
      have hl := gt_lt h
      rw [st_length] at hl
      rw [gt_st_same hl] at h
      cases h
    · rw [gt_st_ne e] at h
      obtain ⟨h1, h2⟩ := gt_wipeE h
      exact ⟨by simp only [List.mem_cons, not_or]; exact ⟨e, h1⟩, h2⟩
theorem wipeE_length : ∀ (own : List Nat), (wipeE ρ own).length = ρ.length
  | [] => rfl
  | v :: vs => by unfold wipeE; rw [st_length, wipeE_length vs]
theorem RE.wipe (h : RE K cm F H lab ρ σ) (own : List Nat) : RE K cm F H lab (wipeE ρ own) (wipe σ own) := by
  refine ⟨h.sub, by rw [wipeE_length, wipe_length]; exact h.len, fun i w e => ?_⟩
  obtain ⟨h1, h2⟩ := gt_wipeE e
  rw [wipe_at h1]
  exact h.at_ i w h2
theorem restE_length {ρ0 : Env} : ∀ (own : List Nat), (restE ρ0 ρ own).length = ρ.length
  | [] => rfl
  | v :: vs => by unfold restE; rw [st_length, restE_length vs]
theorem gt_restE {ρ0 : Env} {i : Nat} {w : W} : ∀ {own : List Nat}, gt (restE ρ0 ρ own) i = some w → (i ∈ own ∧ shO (gt ρ0 i) = some w) ∨ (i ∉ own ∧ gt ρ i = some w)
  | [], h => .inr ⟨by simp, h⟩
  | v :: vs, h => by
    unfold restE at h
    by_cases e : i = v
    · subst e
      have hl := gt_lt h
      rw [st_length] at hl
      rw [gt_st_same hl] at h
      exact .inl ⟨by simp, h⟩
    · rw [gt_st_ne e] at h
      rcases gt_restE h with ⟨h1, h2⟩ | ⟨h1, h2⟩
      · exact .inl ⟨by simp [h1], h2⟩
      · exact .inr ⟨by simp only [List.mem_cons, not_or]; exact ⟨e, h1⟩, h2⟩
theorem RE.rest {ρ0 : Env} {F0 H0 : Hp} {lab0 : Lab} {own : List Nat} (h0 : RE K cm F0 H0 lab0 ρ0 σ) (h : RE K cm F H lab (wipeE ρ own) (L2.wipe σ own)) (s : Sub F0 F) : RE K cm F H lab (restE ρ0 ρ own) σ := by
  refine ⟨h.sub, ?_, fun i w e => ?_⟩
  · have := h.len
    rw [wipeE_length, wipe_length] at this
    rw [restE_length, this]
  · rcases gt_restE e with ⟨h1, h2⟩ | ⟨h1, h2⟩
    · cases e0 : gt ρ0 i with
      | none => rw [e0] at h2; cases h2
      | some w0 =>
        rw [e0] at h2
        obtain ⟨v, e1, r⟩ := h0.at_ i w0 e0
        cases w0 with
        | sh d =>
          cases h2
          exact ⟨v, e1, Rep.mono s r⟩
        | _ => cases h2
    · have hw : gt (wipeE ρ own) i = some w := by
        have aux : ∀ vs : List Nat, i ∉ vs → gt (wipeE ρ vs) i = gt ρ i := by
          intro vs
          induction vs with
          | nil => intro _; rfl
          | cons v vs ih =>
            intro hn
            simp only [List.mem_cons, not_or] at hn
            unfold wipeE
            rw [gt_st_ne hn.1]
            exact ih hn.2
        rw [aux own h1]; exact h2
      obtain ⟨v, e1, r⟩ := h.at_ i w hw
      rw [wipe_at h1] at e1
      exact ⟨v, e1, r⟩
variable (K cm)
def gZ (t : T) : TG := fun v σ H Q => ∃ ρ ρ' F lab d, RE K cm F H lab ρ σ ∧ Rep K cm F d v ∧ setT t d ρ = .ok ρ' ∧
  ∀ σ' lab', Stp F H lab F H lab' → RE K cm F H lab' ρ' σ' → OffS (slots t) σ σ' → Q σ' H
def gZs (t : List T) : TGs := fun vs σ H Q => ∃ ρ ρ' F lab ds, RE K cm F H lab ρ σ ∧ Reps K cm F ds vs ∧ setTs t ds ρ = .ok ρ' ∧
  ∀ σ' lab', Stp F H lab F H lab' → RE K cm F H lab' ρ' σ' → OffS (slotss t) σ σ' → Q σ' H
end
theorem ckT_assign {C : CkC} {t : T} {e : Expr} {es : List Expr} {env : PySem.Env} (h : ckT C t e = true) : assignEach (e :: es) env = (false, assign e env) :: assignEach es env := by
  cases t <;> cases e <;> first | rfl | (simp [ckT] at h)
theorem ckTs_len {C : CkC} : ∀ {ts : List T} {es : List Expr} {env : PySem.Env}, ckTs C ts es = true → (assignEach es env).length = ts.length ∧ (assignEach es env).findIdx? (·.1) = none ∧ es.length = ts.length
  | [], [], _, _ => ⟨rfl, rfl, rfl⟩
  | t :: ts, e :: es, env, h => by
    simp only [ckTs, Bool.and_eq_true] at h
    obtain ⟨h1, h2, h3⟩ := ckTs_len (env := env) h.2
    rw [ckT_assign h.1]
    refine ⟨by rw [List.length_cons, h1, List.length_cons], ?_, by rw [List.length_cons, List.length_cons, h3]⟩
    rw [List.findIdx?_cons, h2]
    rfl
  | [], _ :: _, _, h => by simp [ckTs] at h
  | _ :: _, [], _, h => by simp [ckTs] at h
theorem setTs_len : ∀ {ts : List T} {ds : List D} {ρ ρ' : Env}, setTs ts ds ρ = .ok ρ' → ds.length = ts.length
  | [], [], _, _, _ => rfl
  | t :: ts, d :: ds, ρ, ρ', h => by
    unfold setTs at h
    obtain ⟨ρ1, _, h2⟩ := bind_okE h
    rw [List.length_cons, List.length_cons, setTs_len h2]
  | [], _ :: _, _, _, h => by cases h
  | _ :: _, [], _, _, h => by cases h
section
variable {X : Cx} {C : CkC} {cm : String → Option Addr}
mutual
theorem pg_Z (o : XOk X C) : ∀ (t : T) (e : Expr), ckT C t e = true → PG X e (gZ X.K cm t)
  | .v i, .Name x p, h => by
    simp only [ckT, Bool.and_eq_true, decide_eq_true_eq] at h
    obtain ⟨l1, l2⟩ := o.loc h.2
    refine pgI (pg_name (o.n ▸ o.nd) (by rw [o.n]; exact h.1) l1 l2) fun v σ H Q hq => ?_
    obtain ⟨ρ, ρ', F, lab, d, re, rd, es, q⟩ := hq
    cases es
    refine q _ _ (Stp.relab i) (re.store (w := .sh d) rd) ⟨List.length_set, fun j hj => ?_⟩
    rw [List.getElem?_set_ne (fun e => hj (by simp [slots, e]))]
  | .t ts, .Tuple es k p, h => by
    simp only [ckT, Bool.and_eq_true] at h
    obtain ⟨h1, h2, h3⟩ := ckTs_len (env := X.env) h.2
    refine pgI (pg_or (pg_tup (o.calm h.1) (pgs_Z o ts es h.2) h1 h2) (pg_lst (o.calm h.1) (pgs_Z o ts es h.2) h1 h2)) fun v σ H Q hq => ?_
    obtain ⟨ρ, ρ', F, lab, d, re, rd, es', q⟩ := hq
    cases d with
    | tup ds =>
      have es' : setTs ts ds ρ = .ok ρ' := es'
      cases rd with
      | tup ha r => exact .inl ⟨_, _, rfl, .inl (.inl (re.sub _ _ ha)), by rw [← r.length]; exact setTs_len es', ρ, ρ', F, lab, _, re, r, es', fun σ' lab' => q σ' lab'⟩
    | lst ds =>
      have es' : setTs ts ds ρ = .ok ρ' := es'
      cases rd with
      | lst ha r => exact .inr ⟨_, _, rfl, (re.sub.sqp ha).sql, by rw [← r.length]; exact setTs_len es', ρ, ρ', F, lab, _, re, r, es', fun σ' lab' => q σ' lab'⟩
    | _ => cases es'
  | .v _, .BoolOp .., h | .v _, .NamedExpr .., h | .v _, .BinOp .., h | .v _, .UnaryOp .., h | .v _, .Lambda .., h | .v _, .IfExp .., h | .v _, .Dict .., h | .v _, .Set .., h | .v _, .ListComp .., h | .v _, .SetComp .., h | .v _, .DictComp .., h | .v _, .GeneratorExp .., h | .v _, .Await .., h | .v _, .Yield .., h | .v _, .YieldFrom .., h | .v _, .Compare .., h | .v _, .Call .., h | .v _, .FormattedValue .., h | .v _, .JoinedStr .., h | .v _, .Constant .., h | .v _, .Attribute .., h | .v _, .Subscript .., h | .v _, .Starred .., h | .v _, .List .., h | .v _, .Tuple .., h | .v _, .Slice .., h => by simp [ckT] at h
  | .t _, .BoolOp .., h | .t _, .NamedExpr .., h | .t _, .BinOp .., h | .t _, .UnaryOp .., h | .t _, .Lambda .., h | .t _, .IfExp .., h | .t _, .Dict .., h | .t _, .Set .., h | .t _, .ListComp .., h | .t _, .SetComp .., h | .t _, .DictComp .., h | .t _, .GeneratorExp .., h | .t _, .Await .., h | .t _, .Yield .., h | .t _, .YieldFrom .., h | .t _, .Compare .., h | .t _, .Call .., h | .t _, .FormattedValue .., h | .t _, .JoinedStr .., h | .t _, .Constant .., h | .t _, .Attribute .., h | .t _, .Subscript .., h | .t _, .Starred .., h | .t _, .List .., h | .t _, .Name .., h | .t _, .Slice .., h => by simp [ckT] at h
theorem pgs_Z (o : XOk X C) : ∀ (ts : List T) (es : List Expr), ckTs C ts es = true → PGs X es (gZs X.K cm ts)
  | [], [], _ => pgsI pgs_nil fun vs σ H Q hq => by
    obtain ⟨ρ, ρ', F, lab, ds, re, rd, es, q⟩ := hq
    cases ds with
    | nil =>
      cases rd
      cases es
      exact ⟨rfl, q σ lab (Stp.refl _ _ _) re (OffS.refl _ _)⟩
    | cons _ _ => cases es
  | t :: ts, e :: es, h => by
    simp only [ckTs, Bool.and_eq_true] at h
    refine pgsI (pgs_cons (pg_Z o t e h.1) (pgs_Z o ts es h.2) (by rw [ckT_assign h.1]; rfl)) fun vs σ H Q hq => ?_
    obtain ⟨ρ, ρ', F, lab, ds, re, rd, ee, q⟩ := hq
    cases ds with
    | nil => cases ee
    | cons d ds =>
      cases rd with
      | cons r1 r2 =>
        unfold setTs at ee
        obtain ⟨ρ1, e1, e2⟩ := bind_okE ee
        refine ⟨_, _, rfl, ρ, ρ1, F, lab, d, re, r1, e1, fun σ1 lab1 s1 re1 o1 => ⟨ρ1, ρ', F, lab1, ds, re1, r2, e2, fun σ2 lab2 s2 re2 o2 => q σ2 lab2 (s1.trans s2) re2 ?_⟩⟩
        have := o1.app o2
        simpa [slotss] using this
  | [], _ :: _, h => by simp [ckTs] at h
  | _ :: _, [], h => by simp [ckTs] at h
end
end

/-! ### what is walked -/
structure ItOk (K : PySem.W.Frag) (cm : String → Option Addr) (J : It) (F : Hp) (ds : List D) : Prop where
  go : ∀ i F' H', Sub F F' → Sub F' H' → i < ds.length → J.go i H'
  yld : ∀ i d F' H' x H'', Sub F F' → Sub F' H' → ds[i]? = some d → J.yld i H' x H'' → ∃ F'', New K cm F' H' (.sh d) x F'' H''
  stop : ∀ F' H', Sub F F' → Sub F' H' → J.stop ds.length H'
section
variable {K : PySem.W.Frag} {cm : String → Option Addr} {F : Hp} {ds es : List D} {vs us : List V} {a b : Addr}
theorem itl_ok (h : SqP K F a vs) (r : Reps K cm F ds vs) : ItOk K cm (Itl K a) F ds where
  go := fun i F' H' s s' hi => by
    have hl := r.length
    exact ⟨vs, vs[i]'(by omega), (s'.sqp (s.sqp h)).sql, List.getElem?_eq_getElem _⟩
  yld := fun i d F' H' x H'' s s' e y => by
    obtain ⟨rfl, y⟩ := y
    obtain ⟨v, e1, rv⟩ := r.at e
    have := y vs ((s'.sqp (s.sqp h)).sql)
    rw [e1] at this
    cases this
    exact ⟨F', New.same s' (rv.mono s)⟩
  stop := fun F' H' s s' => ⟨vs, (s'.sqp (s.sqp h)).sql, by rw [r.length]; exact Nat.le_refl _⟩
theorem itt_ok (h : F a = some (.tup vs)) (r : Reps K cm F ds vs) : ItOk K cm (Itt K a) F ds where
  go := fun i F' H' s s' hi => by
    have hl := r.length
    exact ⟨vs, vs[i]'(by omega), .inl (.inl (s' _ _ (s _ _ h))), List.getElem?_eq_getElem _⟩
  yld := fun i d F' H' x H'' s s' e y => by
    obtain ⟨rfl, y⟩ := y
    obtain ⟨v, e1, rv⟩ := r.at e
    have := y vs (.inl (.inl (s' _ _ (s _ _ h))))
    rw [e1] at this
    cases this
    exact ⟨F', New.same s' (rv.mono s)⟩
  stop := fun F' H' s s' => ⟨vs, .inl (.inl (s' _ _ (s _ _ h))), by rw [r.length]; exact Nat.le_refl _⟩
theorem rev_at {α : Type} {l : List α} {i : Nat} {x : α} (h : l.reverse[i]? = some x) : l[l.length - 1 - i]? = some x := by
  have hi : i < l.length := by
    have := (List.getElem?_eq_some_iff.mp h).1
    simpa using this
  rw [List.getElem?_reverse hi] at h
  exact h
theorem itv_ok (h : SqP K F a vs) (r : Reps K cm F ds vs) : ItOk K cm (Itv K a vs.length) F ds.reverse where
  go := fun i F' H' s s' hi => by
    have hl := r.length
    rw [List.length_reverse] at hi
    exact ⟨by omega, vs, vs[vs.length - 1 - i]'(by omega), (s'.sqp (s.sqp h)).sql, List.getElem?_eq_getElem _⟩
  yld := fun i d F' H' x H'' s s' e y => by
    obtain ⟨rfl, y⟩ := y
    have e := rev_at e
    obtain ⟨v, e1, rv⟩ := r.at e
    have := y vs ((s'.sqp (s.sqp h)).sql)
    rw [← r.length, e1] at this
    cases this
    exact ⟨F', New.same s' (rv.mono s)⟩
  stop := fun F' H' s s' => by
    have hl := r.length
    show vs.length ≤ ds.reverse.length
    rw [List.length_reverse, hl]; exact Nat.le_refl _
theorem itvT_ok (h : F a = some (.tup vs)) (r : Reps K cm F ds vs) : ItOk K cm (RT.ItvT K a vs.length) F ds.reverse where
  go := fun i F' H' s s' hi => by
    have hl := r.length
    rw [List.length_reverse] at hi
    exact ⟨by omega, vs, vs[vs.length - 1 - i]'(by omega), .inl (.inl (s' _ _ (s _ _ h))), List.getElem?_eq_getElem _⟩
  yld := fun i d F' H' x H'' s s' e y => by
    obtain ⟨rfl, y⟩ := y
    have e := rev_at e
    obtain ⟨v, e1, rv⟩ := r.at e
    have := y vs (.inl (.inl (s' _ _ (s _ _ h))))
    rw [← r.length, e1] at this
    cases this
    exact ⟨F', New.same s' (rv.mono s)⟩
  stop := fun F' H' s s' => by
    have hl := r.length
    show vs.length ≤ ds.reverse.length
    rw [List.length_reverse, hl]; exact Nat.le_refl _
theorem rngL_length {i c : Int} {n : Nat} : (rngL i c n).length = n := by simp [rngL]
theorem rngL_at {i c : Int} {n k : Nat} {d : D} (h : (rngL i c n)[k]? = some d) : d = .int (i + (k : Int) * c) := by
  unfold rngL at h
  rw [List.getElem?_map] at h
  cases e : (List.range n)[k]? with
  | none => rw [e] at h; cases h
  | some m =>
    rw [e] at h
    cases h
    obtain ⟨h1, h2⟩ := List.getElem?_eq_some_iff.mp e
    rw [List.getElem_range] at h2
    rw [h2]
theorem itr_ok {lo : Int} {n : Nat} : ItOk K cm (Itr lo n) F (rngL lo 1 n) where
  go := fun i F' H' s s' hi => by rw [rngL_length] at hi; exact hi
  yld := fun i d F' H' x H'' s s' e y => by
    obtain ⟨rfl, rfl⟩ := y
    have := rngL_at e
    rw [this, Int.mul_one]
    exact ⟨F', New.same s' (.int _)⟩
  stop := fun F' H' s s' => by
    show n ≤ _
    rw [rngL_length]; exact Nat.le_refl _
theorem itc_ok {lo c : Int} {n : Nat} : ItOk K cm (Itc lo c n) F (rngL lo c n) where
  go := fun i F' H' s s' hi => by rw [rngL_length] at hi; exact hi
  yld := fun i d F' H' x H'' s s' e y => by
    obtain ⟨rfl, rfl⟩ := y
    have := rngL_at e
    rw [this]
    exact ⟨F', New.same s' (.int _)⟩
  stop := fun F' H' s s' => by
    show n ≤ _
    rw [rngL_length]; exact Nat.le_refl _
theorem enumD_at : ∀ {l : List D} {j : Int} {i : Nat} {x : D}, (enumD j l)[i]? = some x → ∃ d, l[i]? = some d ∧ x = .tup [.int (j + i), d]
  | [], _, _, _, h => by simp [enumD] at h
  | d :: l, j, 0, x, h => by
    simp only [enumD, List.getElem?_cons_zero, Option.some.injEq] at h
    exact ⟨d, rfl, by rw [← h]; simp⟩
  | d :: l, j, i + 1, x, h => by
    simp only [enumD, List.getElem?_cons_succ] at h
    obtain ⟨e, h1, h2⟩ := enumD_at h
    refine ⟨e, by simpa using h1, ?_⟩
    rw [h2]
    have : j + 1 + (i : Int) = j + ((i + 1 : Nat) : Int) := by omega
    rw [this]
theorem enumD_length : ∀ {l : List D} {j : Int}, (enumD j l).length = l.length
  | [], _ => rfl
  | d :: l, j => by simp [enumD, enumD_length]
theorem ite_ok (h : SqP K F a vs) (r : Reps K cm F ds vs) : ItOk K cm (Ite K a) F (enumD 0 ds) where
  go := fun i F' H' s s' hi => by
    have hl := r.length
    rw [enumD_length] at hi
    exact ⟨vs, vs[i]'(by omega), (s'.sqp (s.sqp h)).sql, List.getElem?_eq_getElem _⟩
  yld := fun i d F' H' x H'' s s' e y => by
    obtain ⟨q, y0, rfl, hq, rfl, y⟩ := y
    obtain ⟨d0, e0, rfl⟩ := enumD_at e
    obtain ⟨v, e1, rv⟩ := r.at e0
    have := y vs ((s'.sqp (s.sqp h)).sql)
    rw [e1] at this
    cases this
    refine ⟨_, New.tup s' hq (.cons ?_ (.cons (rv.mono s) .nil))⟩
    rw [Int.zero_add]
    exact .int _
  stop := fun F' H' s s' => ⟨vs, (s'.sqp (s.sqp h)).sql, by rw [enumD_length, r.length]; exact Nat.le_refl _⟩
theorem zipD_at : ∀ {l m : List D} {i : Nat} {x : D}, (zipD l m)[i]? = some x → ∃ d e, l[i]? = some d ∧ m[i]? = some e ∧ x = .tup [d, e]
  | [], _, _, _, h => by simp [zipD] at h
  | _ :: _, [], _, _, h => by simp [zipD] at h
  | d :: l, e :: m, 0, x, h => by
    simp only [zipD, List.getElem?_cons_zero, Option.some.injEq] at h
    exact ⟨d, e, rfl, rfl, h.symm⟩
  | d :: l, e :: m, i + 1, x, h => by
    simp only [zipD, List.getElem?_cons_succ] at h
    obtain ⟨e, f, h1, h2, h3⟩ := zipD_at h
    exact ⟨e, f, by simpa using h1, by simpa using h2, h3⟩
theorem zipD_length : ∀ {l m : List D}, (zipD l m).length = min l.length m.length
  | [], _ => by simp [zipD]
  | _ :: _, [] => by simp [zipD]
  | d :: l, e :: m => by simp [zipD, zipD_length] <;> omega
theorem itz_ok (h : SqP K F a vs) (r : Reps K cm F ds vs) (h' : SqP K F b us) (r' : Reps K cm F es us) : ItOk K cm (Itz K a b) F (zipD ds es) where
  go := fun i F' H' s s' hi => by
    have hl := r.length
    have hl' := r'.length
    rw [zipD_length] at hi
    exact ⟨vs, us, vs[i]'(by omega), us[i]'(by omega), (s'.sqp (s.sqp h)).sql, (s'.sqp (s.sqp h')).sql, List.getElem?_eq_getElem _, List.getElem?_eq_getElem _⟩
  yld := fun i d F' H' x H'' s s' e y => by
    obtain ⟨q, x0, y0, rfl, hq, rfl, y1, y2⟩ := y
    obtain ⟨d0, d1, e0, e1, rfl⟩ := zipD_at e
    obtain ⟨v, f1, rv⟩ := r.at e0
    obtain ⟨u, f2, ru⟩ := r'.at e1
    have t1 := y1 vs ((s'.sqp (s.sqp h)).sql)
    have t2 := y2 us ((s'.sqp (s.sqp h')).sql)
    rw [f1] at t1
    rw [f2] at t2
    cases t1
    cases t2
    exact ⟨_, New.tup s' hq (.cons (rv.mono s) (.cons (ru.mono s) .nil))⟩
  stop := fun F' H' s s' => ⟨vs, us, (s'.sqp (s.sqp h)).sql, (s'.sqp (s.sqp h')).sql, by rw [zipD_length, r.length, r'.length]; omega⟩
theorem itzT_ok (h : F a = some (.tup vs)) (r : Reps K cm F ds vs) (h' : F b = some (.tup us)) (r' : Reps K cm F es us) : ItOk K cm (RZ.ItzT K a b) F (zipD ds es) where
  go := fun i F' H' s s' hi => by
    have hl := r.length
    have hl' := r'.length
    rw [zipD_length] at hi
    exact ⟨vs, us, vs[i]'(by omega), us[i]'(by omega), .inl (.inl (s' _ _ (s _ _ h))), .inl (.inl (s' _ _ (s _ _ h'))), List.getElem?_eq_getElem _, List.getElem?_eq_getElem _⟩
  yld := fun i d F' H' x H'' s s' e y => by
    obtain ⟨q, x0, y0, rfl, hq, rfl, y1, y2⟩ := y
    obtain ⟨d0, d1, e0, e1, rfl⟩ := zipD_at e
    obtain ⟨v, f1, rv⟩ := r.at e0
    obtain ⟨u, f2, ru⟩ := r'.at e1
    have t1 := y1 vs (.inl (.inl (s' _ _ (s _ _ h))))
    have t2 := y2 us (.inl (.inl (s' _ _ (s _ _ h'))))
    rw [f1] at t1
    rw [f2] at t2
    cases t1
    cases t2
    exact ⟨_, New.tup s' hq (.cons (rv.mono s) (.cons (ru.mono s) .nil))⟩
  stop := fun F' H' s s' => ⟨vs, us, .inl (.inl (s' _ _ (s _ _ h))), .inl (.inl (s' _ _ (s _ _ h'))), by rw [zipD_length, r.length, r'.length]; omega⟩
end
end Z

set_option Elab.async false
set_option linter.all false
set_option maxRecDepth 100000
set_option maxHeartbeats 4000000
/-! Z9: calls, comprehensions, what is walked: each reading. -/
namespace Z
open PySem
open PySem.Spec
open PyProof.Rows
open L2
section
variable {X : Cx} {K : PySem.W.Frag} {cm : String → Option Addr} {T : TP}
theorem pe_len {e : Expr} {t : TE} (h : PE X e t) : PE X e (fun σ H Q => t σ H fun x H1 => (∀ a xs, x = V.ref a → (SqL X.K H1 a xs ∨ SqT X.K H1 a xs) → xs.length ≤ sizeLine) → Q x H1) :=
  ⟨fun pins s σ H Q I hq => thn (h.run pins s σ H _ I hq) fun v s1 ⟨x, H1, I1, r1, q1⟩ => ⟨x, H1, I1, r1, q1 fun a xs _ hx => by
    rcases hx with hx | hx
    · obtain ⟨its, rv, p, hz⟩ := I1.list hx
      exact hz
    · obtain ⟨its, rv, p, hz⟩ := I1.tuple hx
      exact hz⟩⟩
theorem pa_len {es : List Expr} {t : TA} (h : PA X es t) : PA X es (fun σ H Q => t σ H fun vs H1 => (∀ a xs, (SqL X.K H1 a xs ∨ SqT X.K H1 a xs) → xs.length ≤ sizeLine) → Q vs H1) :=
  ⟨fun pos pins s σ H Q I hq => thn (h.run pos pins s σ H _ I hq) fun v s1 ⟨x, H1, I1, r1, q1⟩ => ⟨x, H1, I1, r1, q1 fun a xs hx => by
    rcases hx with hx | hx
    · obtain ⟨its, rv, p, hz⟩ := I1.list hx
      exact hz
    · obtain ⟨its, rv, p, hz⟩ := I1.tuple hx
      exact hz⟩⟩
def iSeq (K : PySem.W.Frag) (tl : TE) : TI := fun σ H R => tl σ H fun x H1 => ∃ a xs, x = .ref a ∧ ((SqL K H1 a xs ∧ R (Itl K a) H1) ∨ (SqT K H1 a xs ∧ R (Itt K a) H1))
theorem pi_seq {tg l : Expr} {tl : TE} (hl : PE X l tl) : PI X tg l (iSeq X.K tl) := by
  refine ⟨fun pins s σ H R I h => ?_⟩
  refine thn (hl.run pins s σ H _ I h) fun v s1 ⟨x, H1, I1, r1, q1⟩ => ?_
  obtain ⟨a, xs, e, q⟩ := q1
  subst e
  cases r1
  rcases q with ⟨hq, q⟩ | ⟨hq, q⟩
  · obtain ⟨its, rv, p, hz⟩ := I1.list hq
    refine wpAny_pyIter_list p.isList ?_
    exact pi_one (tk := s1.toks) I1 _ (turn_list a _) ⟨_, Heap.get?_push_size _ rfl, rfl, rfl⟩ q
  · obtain ⟨its, rv, p, hz⟩ := I1.tuple hq
    refine wpAny_pyIter_tuple (show s1.heap.IsTuple a its.toArray from p) ?_
    exact pi_one (tk := s1.toks) I1 _ (turn_tuple a _) ⟨_, Heap.get?_push_size _ rfl, rfl, rfl⟩ q
variable (K cm T) in
def tzi (m : Env → R (List D × Env)) : TI := fun σ H R => ∃ ρ F lab, RE K cm F H lab ρ σ ∧ Tk T σ F H lab (m ρ) fun x F' H' lab' => RE K cm F' H' lab' x.2 σ → ∀ J, ItOk K cm J F' x.1 → x.1.length ≤ sizeLine → R J H'

/-! ### expressions, one by one -/
structure Sd (X : Cx) (cm : String → Option Addr) (T : TP) (a : Dn) (e : Expr) : Prop where
  v : PE X e (tz X.K cm T a.v)
  o : PE X e (tzo X.K cm T a.o)
  r : PE X e fun σ H Q => ∃ ρ F lab, RE X.K cm F H lab ρ σ ∧ Tk T σ F H lab (a.r ρ) fun x F' H' lab' => RE X.K cm F' H' lab' x.2 σ → ∀ v, RelA X.K cm F' σ x.1 v → Q v H'
  t : PT X e (tzt X.K cm T a.t)
inductive Sds (X : Cx) (cm : String → Option Addr) (T : TP) : List Dn → List Expr → Prop
  | nil : Sds X cm T [] []
  | cons {a e l es} : Sd X cm T a e → noStarE e = true → Sds X cm T l es → Sds X cm T (a :: l) (e :: es)
def plainTest : Expr → Bool
  | .UnaryOp .Not _ _ => false
  | .BoolOp _ _ _ => false
  | .IfExp _ _ _ _ => false
  | .Compare _ _ _ _ => false
  | _ => true
theorem isTrue_plainE {e : Expr} {env : PySem.Env} (h : plainTest e = true) : ∀ whole, isTrue e env whole = (do let v ← whole; standAt e.pos; holding [v] (truthy v)) := fun whole => by
  cases e <;> first | rfl | (cases h; done) | skip
  rename_i op x p
  cases op <;> first | rfl | cases h
theorem truD_tru {K : PySem.W.Frag} {F H : Hp} {d : D} {v : V} {b : Bool} (s : Sub F H) (h : Vw K cm F H d v) (e : truD d = some b) : TruV K v H b := by
  cases d with
  | non => cases h.non; cases e; rfl
  | bl c => cases h.bl; cases e; rfl
  | int i => cases h.int; cases e; rfl
  | str x =>
    cases h.str
    simp only [truD] at e
    split at e
    · rename_i hx
      cases e
      exact ⟨by rw [← line_eq]; exact hx, rfl⟩
    · cases e
  | tup l =>
    cases e
    obtain ⟨p, vs, rfl, hp, r⟩ := h.tup s
    refine .inr (.inl ⟨vs, .inl (.inl (s _ _ hp)), ?_⟩)
    cases r <;> rfl
  | lst l =>
    cases e
    obtain ⟨p, vs, rfl, hp, r⟩ := h.lst s
    refine .inl ⟨vs, hp.sql, ?_⟩
    cases r <;> rfl
  | dic t l =>
    cases t with
    | true => cases e
    | false =>
      cases e
      obtain ⟨p, rfl, m, hm, r⟩ := h.dic s
      refine .inr (.inr ⟨m, hm, ?_⟩)
      cases r <;> rfl
  | ins _ _ => cases e
/-- a test by the value's truth -/
theorem pt_ofO (hm : T.Mono) {e : Expr} {m : Env → R (Opd × Env)} (h : PE X e (tzo X.K cm T m)) (hp : plainTest e = true) : PT X e (tzt X.K cm T (tOf m)) := by
  refine ptI (pt_truth h (isTrue_plainE hp)) fun σ H Q hq => ?_
  obtain ⟨ρ, F, lab, re, tk⟩ := hq
  refine ⟨ρ, F, lab, re, (tk.bnd hm).imp fun x F1 H1 lab1 tk1 re1 v rv => ?_⟩
  obtain ⟨d, ed, tk2⟩ := tk1.pure look_noex
  obtain ⟨b, eb, tk3⟩ := tk2.pure ofO_noex
  refine ⟨b, truD_tru re1.sub (look_vw re1 rv ed) ?_, tk3.now re1⟩
  cases hb : truD d with
  | none => rw [hb] at eb; cases eb
  | some c => rw [hb] at eb; cases eb; rfl
theorem sd_mk (hm : T.Mono) {e : Expr} {m : DV} (h : PE X e (tz X.K cm T m)) (hp : plainTest e = true) : Sd X cm T (mkD m) e where
  v := h
  o := tz_opd hm h
  r := peI h fun σ H Q ⟨ρ, F, lab, re, tk⟩ => tz_frz hm re (g := fun d ρ' => R.ok (Arg.v d, ρ')) tk fun d ρ' F' H' lab' re' tk' _ v r => tk'.now re' v r
  t := pt_ofO hm (tz_opd hm h) hp
theorem sd_mkT (hm : T.Mono) {e : Expr} {m : DV} {t : Env → R (Bool × Env)} (h : PE X e (tz X.K cm T m)) (ht : PT X e (tzt X.K cm T t)) : Sd X cm T (mkT m t) e where
  v := h
  o := tz_opd hm h
  r := peI h fun σ H Q ⟨ρ, F, lab, re, tk⟩ => tz_frz hm re (g := fun d ρ' => R.ok (Arg.v d, ρ')) tk fun d ρ' F' H' lab' re' tk' _ v r => tk'.now re' v r
  t := ht
theorem Tk.eqn {α : Type} {σ : L2.St} {F H : Hp} {lab : Lab} {r : R α} {P : α → Hp → Hp → Lab → Prop} (h : Tk T σ F H lab r P) : Tk T σ F H lab r fun a F' H' lab' => r = .ok a ∧ P a F' H' lab' :=
  ⟨h.1, h.2.1, fun a e F' H' lab' s => ⟨e, h.2.2 a e F' H' lab' s⟩⟩
theorem Tk.stpT {α : Type} {σ : L2.St} {F H : Hp} {lab : Lab} {r : R α} {P : α → Hp → Hp → Lab → Prop} (h : Tk T σ F H lab r P) : Tk T σ F H lab r fun a F' H' lab' => Stp F H lab F' H' lab' ∧ P a F' H' lab' :=
  ⟨h.1, h.2.1, fun a e F' H' lab' s => ⟨s, h.2.2 a e F' H' lab' s⟩⟩
/-- a test by a bool -/
theorem tTest_of (hm : T.Mono) {m : DV} {t : TE} {σ : L2.St} {H : Hp} {Q : Bool → Hp → Prop} (hb : ∀ ρ w ρ', m ρ = .ok (w, ρ') → ∃ b, w = .sh (.bl b)) (ht : ∀ σ H Q, tz K cm T m σ H Q → t σ H Q)
    (h : tzt K cm T (tOf (oOf m)) σ H Q) : tTest t σ H Q := by
  obtain ⟨ρ, F, lab, re, tk⟩ := h
  refine ht σ H _ ⟨ρ, F, lab, re, ?_⟩
  have e0 : tOf (oOf m) ρ = (m ρ).bind fun x => (look x.2 (Opd.v x.1.frz)).bind fun d => (ofO (truD d)).bind fun b => .ok (b, x.2) := by
    unfold tOf oOf
    cases m ρ <;> rfl
  rw [e0] at tk
  refine (tk.bnd hm).eqn.imp fun x F1 H1 lab1 ⟨ex, tk1⟩ re1 v rv => ?_
  obtain ⟨b, eb⟩ := hb ρ x.1 x.2 ex
  rw [eb] at rv
  cases rv
  refine ⟨b, rfl, ?_⟩
  rw [eb] at tk1
  exact tk1.now re1
theorem cmpO_bl {o : Cop} {p q : D} {w : W} (h : cmpO o p q = .ok w) : ∃ b, w = .sh (.bl b) := by
  unfold cmpO at h
  split at h <;> first
    | (cases h; exact ⟨_, rfl⟩)
    | (obtain ⟨b, _, e⟩ := ofO_ok h; cases e; exact ⟨_, rfl⟩)
    | (cases h; done)
theorem dOp_cmp_bl {o : Cop} {a b : Dn} : ∀ ρ w ρ', dOp (cmpO o) a b ρ = .ok (w, ρ') → ∃ b, w = .sh (.bl b) := fun ρ w ρ' h => by
  unfold dOp at h
  obtain ⟨x, _, h⟩ := bind_okE h
  obtain ⟨y, _, h⟩ := bind_okE h
  obtain ⟨p, _, h⟩ := bind_okE h
  obtain ⟨q, _, h⟩ := bind_okE h
  obtain ⟨c, hc, h⟩ := bind_okE h
  cases h
  exact cmpO_bl hc
theorem dChn_bl {o o' : Cop} {a b c : Dn} : ∀ ρ w ρ', dChn o o' a b c ρ = .ok (w, ρ') → ∃ b, w = .sh (.bl b) := fun ρ w ρ' h => by
  unfold dChn at h
  obtain ⟨x, _, h⟩ := bind_okE h
  obtain ⟨y, _, h⟩ := bind_okE h
  obtain ⟨w1, hw, h⟩ := bind_okE h
  split at h
  · cases h; exact ⟨_, rfl⟩
  · obtain ⟨z, _, h⟩ := bind_okE h
    obtain ⟨c, hc, h⟩ := bind_okE h
    cases h
    exact cmpO_bl hc
  · cases h
theorem bopB_of {o : Bop} {op : Operator} (h : bopB o op = true) : op = bopOf o := by
  cases o <;> cases op <;> first | rfl | cases h
theorem copB_of {o : Cop} {op : CmpOp} (h : copB o op = true) : op = copOf o := by
  cases o <;> cases op <;> first | rfl | cases h

variable {C : CkC} {a b c : Dn} {e1 e2 e3 : Expr} {pos : Pos}
theorem sd_var (hm : T.Mono) (o : XOk X C) {i : Nat} {x : Str} {p : Pos} (hx : C.N[i]? = some x) (hv : visB C.sc x = true) (hp : plainX x = true) : Sd X cm T ⟨evVar i, opdV i, argV i, tOf (opdV i)⟩ (.Name x p) := by
  obtain ⟨p1, p2, _⟩ := plainX_of hp
  have h : PE X (.Name x p) (tVar i) := pe_var (by rw [o.n]; exact hx) (o.vis hv) p1 p2
  refine ⟨tz_var h, tzo_var h, ?_, pt_ofO hm (tzo_var h) rfl⟩
  refine peI h fun σ H Q ⟨ρ, F, lab, re, tk⟩ => ?_
  have tk : Tk T σ F H lab (argV i ρ) _ := tk
  unfold argV at tk
  split at tk
  · rename_i d ed
    obtain ⟨v, e1, r⟩ := re.at_ i _ ed
    exact ⟨v, e1, tk.now re v r⟩
  · exact absurd rfl tk.1
  · rename_i w hw1 hw2 ew
    obtain ⟨v, e1, r⟩ := re.at_ i _ ew
    exact ⟨v, e1, tk.now re v e1⟩
  · exact absurd rfl tk.1
theorem sd_C (hm : T.Mono) {e : Expr} {d : D} {v : V} (h : PE X e (tC v)) (r : ∀ F, Rep X.K cm F d v) (hp : plainTest e = true) : Sd X cm T (mkD (dC d)) e :=
  sd_mk hm (peI h fun σ H Q ⟨ρ, F, lab, re, tk⟩ => tk.now re v (r F)) hp
theorem sd_bin (hm : T.Mono) {o : Bop} {op : Operator} (ho : bopB o op = true) (ha : Sd X cm T a e1) (hb : Sd X cm T b e2) : Sd X cm T (mkD (dOp (binO o) a b)) (.BinOp e1 op e2 pos) := by
  rw [bopB_of ho]
  exact sd_mk hm (peI (pe_op (op_binZ o) ha.o hb.o) fun σ H Q h => tz_op2 hm (fun p q => binO_noex) h) rfl
theorem sd_cmp (hm : T.Mono) (xo : XOk X C) {o : Cop} {op : CmpOp} (ho : copB o op = true) (ha : Sd X cm T a e1) (hb : Sd X cm T b e2) (hk : behindInMarks op e2 = false) : Sd X cm T (mkD (dOp (cmpO o) a b)) (.Compare e1 [op] [e2] pos) := by
  rw [copB_of ho] at *
  refine sd_mkT hm (peI (pe_cmpR (op_cmpZ xo.un o) ha.o hb.o hk) fun σ H Q h => tz_op2 hm (fun p q => cmpO_noex) h) ?_
  exact ptI (pt_cmpR (op_cmpZ xo.un o) ha.o hb.o hk) fun σ H Q h => tTest_of hm dOp_cmp_bl (fun σ H Q h => tz_op2 hm (fun p q => cmpO_noex) h) h
end
end Z

set_option Elab.async false
set_option linter.all false
set_option maxRecDepth 100000
set_option maxHeartbeats 4000000
/-! Z10: more expressions. -/
namespace Z
open PySem
open PySem.Spec
open PyProof.Rows
open L2
section
variable {X : Cx} {K : PySem.W.Frag} {cm : String → Option Addr} {T : TP} {C : CkC} {a b c : Dn} {e1 e2 e3 : Expr} {pos : Pos}
def frzV (m : DV) : Env → R (D × Env) := fun ρ => (m ρ).bind fun x => .ok (x.1.frz, x.2)
theorem bind_frz {α : Type} {m : DV} {g : D → Env → R α} {ρ : Env} : ((m ρ).bind fun x => g x.1.frz x.2) = (frzV m ρ).bind fun x => g x.1 x.2 := by
  unfold frzV
  cases m ρ <;> rfl
theorem Sd.f (hm : T.Mono) (h : Sd X cm T a e1) : PE X e1 (tzv X.K cm T (frzV a.v)) := tz_val hm h.v
theorem sd_chn (hm : T.Mono) (xo : XOk X C) {o o' : Cop} {op op' : CmpOp} (ho : copB o op = true) (ho' : copB o' op' = true) (ha : Sd X cm T a e1) (hb : Sd X cm T b e2) (hc : Sd X cm T c e3) (hk : lastMarks [op, op'] [e2, e3] = false) :
    Sd X cm T (mkD (dChn o o' a b c)) (.Compare e1 [op, op'] [e2, e3] pos) := by
  have hr : ∀ σ H Q, tz X.K cm T (dChn o o' a b c) σ H Q → tChain (rZ X.K cm (cmpO o)) (rZ X.K cm (cmpO o')) (tzv X.K cm T (frzV a.v)) (tzv X.K cm T (frzV b.v)) (tzv X.K cm T (frzV c.v)) σ H Q := by
    intro σ H Q h
    obtain ⟨ρ, F, lab, re, tk⟩ := h
    have e0 : dChn o o' a b c ρ = (frzV a.v ρ).bind fun x => (frzV b.v x.2).bind fun y => (cmpO o x.1 y.1).bind fun w => match w with
        | .sh (.bl false) => .ok (.sh (.bl false), y.2)
        | .sh (.bl true) => (frzV c.v y.2).bind fun z => (cmpO o' y.1 z.1).bind fun v => .ok (v, z.2)
        | _ => .bad := by
      unfold dChn frzV
      cases a.v ρ with
      | ok x =>
        simp only [bind_ok]
        cases b.v x.2 with
        | ok y =>
          simp only [bind_ok]
          cases cmpO o x.1.frz y.1.frz with
          | ok w =>
            simp only [bind_ok]
            cases w with
            | sh d =>
              cases d with
              | bl b =>
                cases b with
                | false => rfl
                | true => cases c.v y.2 <;> rfl
              | _ => rfl
            | _ => rfl
          | _ => rfl
        | _ => rfl
      | _ => rfl
    rw [e0] at tk
    refine ⟨ρ, F, lab, re, (tk.bnd hm).imp fun x F1 H1 lab1 tk1 re1 vx rx => ⟨x.2, F1, lab1, re1, ?_⟩⟩
    have tb := tk1.bnd hm
    refine ⟨tb.1, tb.2.1, fun y ey F2 H2 lab2 s2 re2 vy ry => ?_⟩
    have tk2 := tb.2.2 y ey F2 H2 lab2 s2
    obtain ⟨w, ew, tk3⟩ := tk2.pure cmpO_noex
    refine ⟨F2, x.1, y.1, w, re2.sub, .inl (Rep.mono s2.ff rx), .inl ry, ew, fun v F3 H3 nw => ?_⟩
    obtain ⟨k, rfl⟩ := cmpO_bl ew
    obtain ⟨lab3, s3, re3, rw3⟩ := nw.step re2
    cases rw3
    refine ⟨k, rfl, ?_⟩
    cases k with
    | false => exact tk3.at_ s3 re3 _ (.bl false)
    | true =>
      rw [if_pos rfl]
      have tk4 := tk3.step hm s3
      refine ⟨y.2, F3, lab3, re3, ?_⟩
      have tc := tk4.bnd hm
      refine ⟨tc.1, tc.2.1, fun z ez F4 H4 lab4 s4 re4 vz rz => ?_⟩
      have tk5 := tc.2.2 z ez F4 H4 lab4 s4
      obtain ⟨w', ew', tk6⟩ := tk5.pure cmpO_noex
      refine ⟨F4, y.1, z.1, w', re4.sub, .inl (Rep.mono (s3.ff.trans s4.ff) ry), .inl rz, ew', fun v F5 H5 nw5 => ?_⟩
      obtain ⟨lab5, s5, re5, rw5⟩ := nw5.step re4
      exact tk6.at_ s5 re5 v rw5
  rw [copB_of ho, copB_of ho'] at *
  refine sd_mkT hm (peI (pe_chain (op_cmpZ xo.un o) (op_cmpZ xo.un o') (ha.f hm) (hb.f hm) (hc.f hm) hk) hr) ?_
  exact ptI (pt_chain (op_cmpZ xo.un o) (op_cmpZ xo.un o') (ha.f hm) (hb.f hm) (hc.f hm) hk) fun σ H Q h => tTest_of hm dChn_bl hr h
theorem sd_neg (hm : T.Mono) (ha : Sd X cm T a e1) : Sd X cm T (mkD (dNeg a)) (.UnaryOp .USub e1 pos) := by
  refine sd_mk hm (peI (pe_un un_neg ha.v) fun σ H Q h => ?_) rfl
  obtain ⟨ρ, F, lab, re, tk⟩ := h
  refine ⟨ρ, F, lab, re, (tk.bnd hm).imp fun x F1 H1 lab1 tk1 re1 vx rx => ?_⟩
  split at tk1
  · rename_i i ei
    rw [ei] at rx
    cases rx
    exact ⟨i, rfl, tk1.now re1 _ (.int _)⟩
  · exact absurd rfl tk1.1
theorem pe_notT {ta : TE} (ha : PE X e1 ta) : PE X (.UnaryOp .Not e1 pos) (fun σ H Q => ta σ H fun x H1 => ∃ k, TruV X.K x H1 k ∧ Q (.bl (!k)) H1) :=
  ⟨fun pins s σ H Q I h => UnaryOp_ (thn (ha.run pins s σ H _ I h) fun v s1 ⟨x, H1, I1, r1, k, hk, q⟩ => not_of (thn (tru_ok pins s1 σ H1 x v (fun b H => Q (.bl (!b)) H) I1 r1 ⟨k, hk, q⟩) fun b s2 ⟨H2, I2, q2⟩ => ⟨.bl (!b), H2, I2, rfl, q2⟩))⟩
theorem sd_not (hm : T.Mono) (ha : Sd X cm T a e1) : Sd X cm T (mkT (dNot a) (dNotT a)) (.UnaryOp .Not e1 pos) := by
  refine sd_mkT hm (peI (pe_notT ha.o) fun σ H Q h => ?_) (ptI (pt_not ha.t) fun σ H Q h => ?_)
  · obtain ⟨ρ, F, lab, re, tk⟩ := h
    have e0 : dNot a ρ = (a.o ρ).bind fun x => (look x.2 x.1).bind fun d => (ofO (truD d)).bind fun b => .ok (.sh (.bl !b), x.2) := by
      unfold dNot tOf
      cases a.o ρ with
      | ok x =>
        simp only [bind_ok]
        cases look x.2 x.1 with
        | ok d =>
          simp only [bind_ok]
          cases truD d <;> rfl
        | _ => rfl
      | _ => rfl
    rw [e0] at tk
    refine ⟨ρ, F, lab, re, (tk.bnd hm).imp fun x F1 H1 lab1 tk1 re1 v rv => ?_⟩
    obtain ⟨d, ed, tk2⟩ := tk1.pure look_noex
    obtain ⟨b, eb, tk3⟩ := tk2.pure ofO_noex
    refine ⟨b, truD_tru re1.sub (look_vw re1 rv ed) ?_, tk3.now re1 _ (.bl _)⟩
    cases hb : truD d with
    | none => rw [hb] at eb; cases eb
    | some c => rw [hb] at eb; cases eb; rfl
  · obtain ⟨ρ, F, lab, re, tk⟩ := h
    exact ⟨ρ, F, lab, re, (tk.bnd hm).imp fun x F1 H1 lab1 tk1 re1 => tk1.now re1⟩
theorem sds_and (hm : T.Mono) : ∀ {l : List Dn} {es : List Expr}, Sds X cm T l es → es ≠ [] → PE X (.BoolOp .And es pos) (tz X.K cm T (dAnd l)) ∧ PW X (.BoolOp .And es pos) (tzt X.K cm T (dAndT l))
  | _, _, .nil, h => absurd rfl h
  | [a], [e], .cons h _ .nil, _ => by
    refine ⟨pe_one h.v, pwI (pw_and1 h.t) fun σ H Q hq => ?_⟩
    obtain ⟨ρ, F, lab, re, tk⟩ := hq
    refine ⟨ρ, F, lab, re, (tk.bnd hm).imp fun x F1 H1 lab1 tk1 re1 => ?_⟩
    obtain ⟨x1, x2⟩ := x
    cases x1 <;> exact tk1.now re1
  | a :: b :: l, e :: e' :: es, .cons h _ (.cons h1 n1 r), _ => by
    obtain ⟨i1, i2⟩ := sds_and hm (.cons h1 n1 r) (by simp)
    refine ⟨peI (pe_and h.v i1) fun σ H Q hq => ?_, pwI (pw_and h.t i2) fun σ H Q hq => ?_⟩
    · obtain ⟨ρ, F, lab, re, tk⟩ := hq
      refine ⟨ρ, F, lab, re, (tk.bnd hm).imp fun x F1 H1 lab1 tk1 re1 v rv => ?_⟩
      split at tk1
      · rename_i ew
        rw [ew] at rv
        cases rv
        exact ⟨true, rfl, x.2, F1, lab1, re1, tk1⟩
      · rename_i ew
        rw [ew] at rv
        cases rv
        exact ⟨false, rfl, tk1.now re1 _ (.bl _)⟩
      · exact absurd rfl tk1.1
    · obtain ⟨ρ, F, lab, re, tk⟩ := hq
      refine ⟨ρ, F, lab, re, (tk.bnd hm).imp fun x F1 H1 lab1 tk1 re1 => ?_⟩
      obtain ⟨x1, x2⟩ := x
      cases x1
      · exact tk1.now re1
      · exact ⟨x2, F1, lab1, re1, tk1⟩
theorem sds_or (hm : T.Mono) : ∀ {l : List Dn} {es : List Expr}, Sds X cm T l es → es ≠ [] → PE X (.BoolOp .Or es pos) (tz X.K cm T (dOr l)) ∧ PW X (.BoolOp .Or es pos) (tzt X.K cm T (dOrT l))
  | _, _, .nil, h => absurd rfl h
  | [a], [e], .cons h _ .nil, _ => by
    refine ⟨pe_one h.v, pwI (pw_or1 h.t) fun σ H Q hq => ?_⟩
    obtain ⟨ρ, F, lab, re, tk⟩ := hq
    refine ⟨ρ, F, lab, re, (tk.bnd hm).imp fun x F1 H1 lab1 tk1 re1 => ?_⟩
    obtain ⟨x1, x2⟩ := x
    cases x1 <;> exact tk1.now re1
  | a :: b :: l, e :: e' :: es, .cons h _ (.cons h1 n1 r), _ => by
    obtain ⟨i1, i2⟩ := sds_or hm (.cons h1 n1 r) (by simp)
    refine ⟨peI (pe_or h.v i1) fun σ H Q hq => ?_, pwI (pw_or h.t i2) fun σ H Q hq => ?_⟩
    · obtain ⟨ρ, F, lab, re, tk⟩ := hq
      refine ⟨ρ, F, lab, re, (tk.bnd hm).imp fun x F1 H1 lab1 tk1 re1 v rv => ?_⟩
      split at tk1
      · rename_i ew
        rw [ew] at rv
        cases rv
        exact ⟨false, rfl, x.2, F1, lab1, re1, tk1⟩
      · rename_i ew
        rw [ew] at rv
        cases rv
        exact ⟨true, rfl, tk1.now re1 _ (.bl _)⟩
      · exact absurd rfl tk1.1
    · obtain ⟨ρ, F, lab, re, tk⟩ := hq
      refine ⟨ρ, F, lab, re, (tk.bnd hm).imp fun x F1 H1 lab1 tk1 re1 => ?_⟩
      obtain ⟨x1, x2⟩ := x
      cases x1
      · exact ⟨x2, F1, lab1, re1, tk1⟩
      · exact tk1.now re1
theorem pt_ifExp {c x y : Expr} {tc ta tb : TT} (hc : PT X c tc) (ha : PT X x ta) (hb : PT X y tb) : PT X (.IfExp c x y pos) (fun σ H Q => tc σ H fun d H1 => if d = true then ta σ H1 Q else tb σ H1 Q) := by
  refine ⟨fun pins s σ H Q I h => ?_⟩
  show wpAny _ _ (do if ← isTrue c X.env (eval c X.env) then isTrue x X.env (eval x X.env) else isTrue y X.env (eval y X.env)) _ _ s
  refine wpAny_bind (thn (hc.run pins s σ H _ I h) fun d s1 ⟨H1, I1, q1⟩ => ?_)
  cases d with
  | true => exact ha.run pins s1 σ H1 Q I1 q1
  | false => exact hb.run pins s1 σ H1 Q I1 q1
theorem sd_ite (hm : T.Mono) (ht : Sd X cm T c e1) (ha : Sd X cm T a e2) (hb : Sd X cm T b e3) : Sd X cm T (mkT (dIte c a b) (dIteT c a b)) (.IfExp e1 e2 e3 pos) := by
  refine sd_mkT hm (peI (pe_ifExp ht.t ha.v hb.v) fun σ H Q h => ?_) (ptI (pt_ifExp ht.t ha.t hb.t) fun σ H Q h => ?_)
  · obtain ⟨ρ, F, lab, re, tk⟩ := h
    refine ⟨ρ, F, lab, re, (tk.bnd hm).imp fun x F1 H1 lab1 tk1 re1 => ?_⟩
    obtain ⟨x1, x2⟩ := x
    cases x1 <;> exact ⟨x2, F1, lab1, re1, tk1⟩
  · obtain ⟨ρ, F, lab, re, tk⟩ := h
    refine ⟨ρ, F, lab, re, (tk.bnd hm).imp fun x F1 H1 lab1 tk1 re1 => ?_⟩
    obtain ⟨x1, x2⟩ := x
    cases x1 <;> exact ⟨x2, F1, lab1, re1, tk1⟩

/-! ### lists of expressions -/
theorem Sds.vs (hm : T.Mono) : ∀ {l : List Dn} {es : List Expr}, Sds X cm T l es → PA X es (tzs X.K cm T (dVs l))
  | _, _, .nil => paI pa_nil fun σ H Q ⟨ρ, F, lab, re, tk⟩ => tk.now re [] .nil
  | _, _, .cons h n r => by
    refine paI (pa_cons (h.f hm) (Sds.vs hm r) (star_cons n)) fun σ H Q hq => ?_
    obtain ⟨ρ, F, lab, re, tk⟩ := hq
    unfold dVs at tk
    rw [bind_frz (g := fun d ρ' => (dVs _ ρ').bind fun y => .ok (d :: y.1, y.2))] at tk
    refine ⟨ρ, F, lab, re, (tk.bnd hm).imp fun x F1 H1 lab1 tk1 re1 v rv => ⟨x.2, F1, lab1, re1, ?_⟩⟩
    have tb := tk1.bnd hm
    exact ⟨tb.1, tb.2.1, fun y ey F2 H2 lab2 s2 re2 vs rs => (tb.2.2 y ey F2 H2 lab2 s2).now re2 _ (.cons (Rep.mono s2.ff rv) rs)⟩
theorem Sds.os (hm : T.Mono) : ∀ {l : List Dn} {es : List Expr}, Sds X cm T l es → PA X es (tzos X.K cm T (dOs l))
  | _, _, .nil => paI pa_nil fun σ H Q ⟨ρ, F, lab, re, tk⟩ => tk.now re [] .nil
  | _, _, .cons h n r => by
    refine paI (pa_cons h.o (Sds.os hm r) (star_cons n)) fun σ H Q hq => ?_
    obtain ⟨ρ, F, lab, re, tk⟩ := hq
    refine ⟨ρ, F, lab, re, (tk.bnd hm).imp fun x F1 H1 lab1 tk1 re1 v rv => ⟨x.2, F1, lab1, re1, ?_⟩⟩
    have tb := tk1.bnd hm
    exact ⟨tb.1, tb.2.1, fun y ey F2 H2 lab2 s2 re2 vs rs => (tb.2.2 y ey F2 H2 lab2 s2).now re2 _ (.cons (rv.mono s2.ff) rs)⟩
theorem Sd.arg (hm : T.Mono) (h : Sd X cm T a e1) (bt : Bool) : PE X e1 fun σ H Q => ∃ ρ F lab, RE X.K cm F H lab ρ σ ∧ Tk T σ F H lab (if bt then a.r ρ else rOf a.v ρ) fun x F' H' lab' => RE X.K cm F' H' lab' x.2 σ → ∀ v, RelA X.K cm F' σ x.1 v → Q v H' := by
  cases bt with
  | true => exact h.r
  | false => exact peI h.v fun σ H Q ⟨ρ, F, lab, re, tk⟩ => tz_frz hm re (g := fun d ρ' => R.ok (Arg.v d, ρ')) tk fun d ρ' F' H' lab' re' tk' _ v r => tk'.now re' v r
theorem Sds.as (hm : T.Mono) : ∀ {l : List Dn} {es : List Expr} (bs : List Bool), Sds X cm T l es → PA X es (tza X.K cm T (dAs l bs))
  | _, _, bs, .nil => paI pa_nil fun σ H Q ⟨ρ, F, lab, re, tk⟩ => tk.now re [] .nil
  | _, _, bs, .cons h n r => by
    refine paI (pa_cons (h.arg hm (bs.headD false)) (Sds.as hm bs.tail r) (star_cons n)) fun σ H Q hq => ?_
    obtain ⟨ρ, F, lab, re, tk⟩ := hq
    refine ⟨ρ, F, lab, re, (tk.bnd hm).imp fun x F1 H1 lab1 tk1 re1 v rv => ⟨x.2, F1, lab1, re1, ?_⟩⟩
    have tb := tk1.bnd hm
    exact ⟨tb.1, tb.2.1, fun y ey F2 H2 lab2 s2 re2 vs rs => (tb.2.2 y ey F2 H2 lab2 s2).now re2 _ (.cons (rv.mono s2.ff) rs)⟩
theorem dAs_br : ∀ {l : List Dn} {bs : List Bool} {ρ ρ' : Env} {as : List Arg}, dAs l bs ρ = .ok (as, ρ') → ∀ (i n : Nat), as[i]? = some (Arg.r n) → bs[i]? = some true
  | [], _, _, _, _, h => fun i n hi => by cases h; simp at hi
  | a :: l, bs, ρ, ρ', as, h => fun i n hi => by
    unfold dAs at h
    obtain ⟨x, ex, h⟩ := bind_okE h
    obtain ⟨y, ey, h⟩ := bind_okE h
    cases h
    cases i with
    | zero =>
      simp only [List.getElem?_cons_zero, Option.some.injEq] at hi
      cases bs with
      | nil =>
        exfalso
        simp only [List.headD_nil, Bool.false_eq_true, if_false] at ex
        unfold rOf at ex
        obtain ⟨z, _, ez⟩ := bind_okE ex
        cases ez
        cases hi
      | cons b bs =>
        cases b with
        | true => rfl
        | false =>
          exfalso
          simp only [List.headD_cons, Bool.false_eq_true, if_false] at ex
          unfold rOf at ex
          obtain ⟨z, _, ez⟩ := bind_okE ex
          cases ez
          cases hi
    | succ i =>
      have := dAs_br ey i n (by simpa using hi)
      cases bs with
      | nil => simp at this
      | cons b bs => simpa using this
theorem sd_tup (hm : T.Mono) {l : List Dn} {es : List Expr} {x1} (h : Sds X cm T l es) : Sd X cm T (mkD (dTup l)) (.Tuple es x1 pos) := by
  refine sd_mk hm (peI (pe_tup (h.vs hm)) fun σ H Q hq => ?_) rfl
  obtain ⟨ρ, F, lab, re, tk⟩ := hq
  refine ⟨ρ, F, lab, re, (tk.bnd hm).imp fun x F1 H1 lab1 tk1 re1 vs rs => ?_⟩
  split at tk1
  · rename_i hl
    refine ⟨by rw [← rs.length, ← line_eq]; exact hl, fun p hp => ?_⟩
    obtain ⟨lab', s', re', rw'⟩ := (New.tup re1.sub hp rs).step re1
    exact tk1.at_ s' re' _ rw'
  · exact absurd rfl tk1.1
theorem sd_lst (hm : T.Mono) {l : List Dn} {es : List Expr} (h : Sds X cm T l es) : Sd X cm T (mkD (dLst l)) (.List es pos) := by
  refine sd_mk hm (peI (pe_lst (h.vs hm)) fun σ H Q hq => ?_) rfl
  obtain ⟨ρ, F, lab, re, tk⟩ := hq
  refine ⟨ρ, F, lab, re, (tk.bnd hm).imp fun x F1 H1 lab1 tk1 re1 vs rs => ?_⟩
  split at tk1
  · rename_i hl
    refine ⟨by rw [← rs.length, ← line_eq]; exact hl, fun p hp => ?_⟩
    obtain ⟨lab', s', re', rw'⟩ := (New.lst re1.sub hp rs).step re1
    exact tk1.at_ s' re' _ rw'
  · exact absurd rfl tk1.1
theorem sd_ix (hm : T.Mono) (xo : XOk X C) (ha : Sd X cm T a e1) (hb : Sd X cm T b e2) (hs : PlainIx e2) : Sd X cm T (mkD (dOp ixO a b)) (.Subscript e1 e2 pos) :=
  sd_mk hm (peI (pe_ix (ix_Z xo.un) ha.o hb.o hs) fun σ H Q h => tz_op2 hm (fun p q => ixO_noex) h) rfl
/-- a new thing that an address of ours holds -/
theorem RE.fresh {F H : Hp} {lab : Lab} {ρ : Env} {σ : L2.St} {p : Addr} {o : HO} (re : RE K cm F H lab ρ σ) (hp : H p = none) : Stp F H lab F (upd H p o) (fun a => if a = p then some (0, 0) else lab a) ∧ RE K cm F (upd H p o) (fun a => if a = p then some (0, 0) else lab a) ρ σ ∧ F p = none := by
  refine ⟨⟨Sub.refl F, fun a u ha hf l => ?_⟩, re.keep (Sub.refl F) (re.sub.trans (Sub.new hp)) fun i a u j l ha hf => ?_, none_of_sub re.sub hp⟩
  · have hne := ne_of_none ha hp
    exact ⟨by rw [upd_ne hne]; exact ha, hf, by show (if a = p then some (0, 0) else lab a) = none; rw [if_neg hne]; exact l⟩
  · have hne := ne_of_none ha hp
    exact ⟨by rw [upd_ne hne]; exact ha, hf, by show (if a = p then some (0, 0) else lab a) = _; rw [if_neg hne]; exact l⟩
theorem sd_dic (hm : T.Mono) {t : Bool} : Sd X cm T (mkD (fun ρ => .ok (.od t [], ρ))) (.Dict [] [] pos) := by
  refine sd_mk hm ?_ rfl
  cases t with
  | false =>
    refine peI pe_dnewK fun σ H Q hq p hp => ?_
    obtain ⟨ρ, F, lab, re, tk⟩ := hq
    obtain ⟨s, re', fp⟩ := re.fresh (o := .dK []) hp
    exact tk.at_ s re' _ ⟨p, rfl, if_pos rfl, fp, [], upd_same, .nil⟩
  | true =>
    refine peI pe_dnewT fun σ H Q hq p hp => ?_
    obtain ⟨ρ, F, lab, re, tk⟩ := hq
    obtain ⟨s, re', fp⟩ := re.fresh (o := .dT []) hp
    exact tk.at_ s re' _ ⟨p, rfl, if_pos rfl, fp, [], upd_same, .nil⟩
theorem slO_noex {p : D} {l h : Option Int} : ∀ c fs ρ, slO p l h ≠ .ex c fs ρ := by
  unfold slO
  split <;> first | exact ok_noex | exact bad_noex
inductive Pts (X : Cx) (cm : String → Option Addr) (T : TP) : Option Dn → Option Expr → Prop
  | none : Pts X cm T none none
  | some {d e} : Sd X cm T d e → Pts X cm T (some d) (some e)
def tzp (K : PySem.W.Frag) (cm : String → Option Addr) (T : TP) (m : Env → R (Option Int × Env)) : TO := fun σ H Q => ∃ ρ F lab, RE K cm F H lab ρ σ ∧ Tk T σ F H lab (m ρ) fun x F' H' lab' => RE K cm F' H' lab' x.2 σ → Q x.1 H'
theorem poI {X : Cx} {e : Option Expr} {t t' : TO} (h : PO X e t) (i : ∀ σ H Q, t' σ H Q → t σ H Q) : PO X e t' := ⟨fun pins s σ H Q I q => h.run pins s σ H Q I (i σ H Q q)⟩
theorem Pts.po (hm : T.Mono) {d : Option Dn} {e : Option Expr} (h : Pts X cm T d e) : PO X e (tzp X.K cm T (dPart d)) := by
  cases h with
  | none => exact poI po_none fun σ H Q ⟨ρ, F, lab, re, tk⟩ => tk.now re
  | some h =>
    refine poI (po_some h.v) fun σ H Q hq => ?_
    obtain ⟨ρ, F, lab, re, tk⟩ := hq
    refine ⟨ρ, F, lab, re, (tk.bnd hm).imp fun x F1 H1 lab1 tk1 re1 v rv => ?_⟩
    split at tk1
    · rename_i i ei
      rw [ei] at rv
      cases rv
      exact ⟨i, rfl, tk1.now re1⟩
    · exact absurd rfl tk1.1
theorem sd_sl (hm : T.Mono) {lo hi : Option Dn} {l h : Option Expr} {p2 : Pos} (ha : Sd X cm T a e1) (hl : Pts X cm T lo l) (hh : Pts X cm T hi h) : Sd X cm T (mkD (dSl a lo hi)) (.Subscript e1 (.Slice l h none p2) pos) := by
  refine sd_mk hm (peI (pe_slice (sl_Z (cm := cm)) ha.o (hl.po hm) (hh.po hm)) fun σ H Q hq => ?_) rfl
  obtain ⟨ρ, F, lab, re, tk⟩ := hq
  refine ⟨ρ, F, lab, re, (tk.bnd hm).imp fun x F1 H1 lab1 tk1 re1 vx rx => ⟨x.2, F1, lab1, re1, ?_⟩⟩
  have tb := tk1.bnd hm
  refine ⟨tb.1, tb.2.1, fun y ey F2 H2 lab2 s2 re2 => ⟨y.2, F2, lab2, re2, ?_⟩⟩
  have tc := (tb.2.2 y ey F2 H2 lab2 s2).bnd hm
  refine ⟨tc.1, tc.2.1, fun z ez F3 H3 lab3 s3 re3 => ?_⟩
  obtain ⟨p, ep, tk4⟩ := (tc.2.2 z ez F3 H3 lab3 s3).pure look_noex
  obtain ⟨w, ew, tk5⟩ := tk4.pure slO_noex
  refine ⟨F3, p, w, re3.sub, look_vw re3 (rx.mono (s2.ff.trans s3.ff)) ep, ?_, fun v F' H' n => ?_⟩
  · unfold slO at ew
    split at ew <;> first | (cases ew; rfl) | cases ew
  obtain ⟨lab', s', re', rw'⟩ := n.step re3
  exact tk5.at_ s' re' v rw'
end
end Z

set_option Elab.async false
set_option linter.all false
set_option maxRecDepth 100000
set_option maxHeartbeats 4000000
/-! Zk: exceptions and classes: what must be known of them. -/
namespace Z
open PySem
open PySem.Spec
open PyProof.Rows
open L2
/-- in an except suite: the exception, its dict, its class -/
def XcOk (X : Cx) (cm : String → Option Addr) : Prop := ∀ a dd C, cm "!a" = some a → cm "!d" = some dd → cm "!c" = some C → ∃ X0 oe pn, X = Cx.suite X0 a ((a, oe) :: pn) ∧ Zc (.ref C) (some dd) oe ∧ ∃ vs, oe.data = .fields vs
def CmN (cm : String → Option Addr) : Prop := cm "!a" = none ∧ cm "!d" = none ∧ cm "!c" = none
def tyNs : List String := ["NoneType", "bool", "int", "str", "tuple", "list", "dict"]
/-- a class by its name: one of the program's, or ValueError -/
def NmC (X : Cx) (c : String) (u : Value) : Prop := (∃ A, u = .ref A ∧ X.mg (Str.ofString c) = some (.ref A)) ∨ (c = "ValueError" ∧ u = .type "ValueError" ∧ X.mg (Str.ofString c) = none)
/-- a class of the program whose instances are asked for their class -/
structure IsI (K : PySem.W.Frag) (A : Addr) : Prop where
  cl : Cls K A
  q1 : PySem.W.findIn K (.ref A) "__class__" = some (some (.builtin "object.__class__"))
  q2 : PySem.W.specialIn K (.builtin "object.__class__") "__get__" = some (some (.builtin "getset_descriptor.__get__"))
  q3 : PySem.W.takesIn K (.builtin "object.__class__") = some true
  q4 : PySem.W.mroIn K A (.type "object") = some true
/-- what is asked of a class's name -/
structure ClQ (X : Cx) (cm : String → Option Addr) (g : GX) (c : String) (u : Value) : Prop where
  nm : NmC X c u
  isx : ∀ c' b A', g.isx.lookup (c', c) = some b → cm c' = some A' → IsI X.K A' ∧ PySem.W.kitOne X.K (.ref A') u = some b
  isd : g.isd.contains c = true → ∀ T ∈ tyNs, PySem.W.kitOne X.K (.type T) u = some false
  esb : ∀ c' b A', g.esb.lookup (c', c) = some b → cm c' = some A' → ExcC X.K A' ∧ PySem.W.exmOne X.K (.ref A') u = some b ∧ PySem.W.kitOne X.K (.ref A') u = some b
/-- what an exception's __init__ stores -/
def fsX (ns : List String) (ws : List V) : List (Str × V) := (ns.map Str.ofString).zip ws
/-- an exception's __init__ -/
def spX (A : Addr) (ns : List String) : Sp := fun vs H Q E => ∃ a ws, vs = .ref a :: ws ∧ ws.length = ns.length ∧ H a = some (exo a A none) ∧
  ∀ dx H' gs, H dx = none → dx ≠ a → H' a = some (exo a A (some dx)) → H' dx = some (exd dx gs) → (∀ f, gs.lookup f = (fsX ns ws).lookup f) → (∀ b, b ≠ a → b ≠ dx → H' b = H b) → Q .non H'
/-- an exception class of the program -/
def ExQ (X : Cx) (cm : String → Option Addr) (c : String) (ns : List String) : Prop := ∃ A fI fd, cm c = some A ∧ X.mg (Str.ofString c) = some (.ref A) ∧ OexC X.K A ∧ PySem.W.findIn X.K (.ref A) "__init__" = some (some (.ref fI)) ∧ PySem.W.typeIn X.K (.ref fI) = some (.type "function") ∧
  FnOk X.prog X.w X.K X.mg X.base CX0 1 fI fd (("self" :: ns).map Str.ofString) (spX A ns) ∧ Binds X.K fd (("self" :: ns).map Str.ofString) [] ∧ (ns.map Str.ofString).Nodup
/-! ### isinstance of a caught exception that has a dict -/
section
variable {prog : Program} {w : World} {A : Around} {E : Value → Shared → Prop} {s : Shared} {K : PySem.W.Frag} {x D : Addr} {ox od : Obj}
theorem cls_asked (q1 : PySem.W.findIn K (.ref D) "__class__" = some (some (.builtin "object.__class__"))) (q0 : (PySem.W.clsIn K D).isSome = true)
    (q2 : PySem.W.specialIn K (.builtin "object.__class__") "__get__" = some (some (.builtin "getset_descriptor.__get__"))) (q3 : PySem.W.takesIn K (.builtin "object.__class__") = some true) :
    PySem.W.findObj K D (some od) "__class__" = some (.bind (.builtin "getset_descriptor.__get__") (.builtin "object.__class__")) := by
  obtain ⟨cd, hc⟩ := Option.isSome_iff_exists.mp q0
  unfold PySem.W.findObj
  rw [hc, Option.bind_some, q1, Option.bind_some]
  simp [q2, q3]
open PySem.W PySem.Calls in
theorem cls_asked_ok {Q : Option Value → Shared → Prop} (R : ExcC K D) (X : K.In s.heap) (J : InstAt s.heap x ox D (some od)) (hQ : Q (some (.ref D)) { s with toks := s.toks + 1 }) : wpAny (model prog w) A (getAttr? (.ref x) "__class__") Q E s := by
  have look : findObj K D (some od) "__class__" = some (.bind (.builtin "getset_descriptor.__get__") (.builtin "object.__class__")) := cls_asked R.ha (by obtain ⟨cd, hc, _⟩ := any_some R.hd; rw [hc]; rfl) R.hn R.ht
  obtain ⟨hp, g, d, t, os⟩ := s
  have T0 := J.type (M := model prog w)
  have T1 := looks_findIn (M := model prog w) X R.hg
  have T2 := looks_findIn (M := model prog w) X R.hk
  have T3 := looks_find (M := model prog w) X J look
  have under : Looks (model prog w) hp (isInstance (.ref x) (.type "BaseException")) true := T0.andThen (looks_subIn X R.hs)
  have n0 : (false && onTheHeap (Value.builtin "BaseException.__getattribute__")) = false := rfl
  have n2 : (Value.builtin "BaseException.__getattribute__" == Value.builtin "object.__getattribute__") = false := by decide +kernel
  have n1 : (onTheHeap (Value.ref D) && Value.builtin "BaseException.__getattribute__" == Value.builtin "object.__getattribute__") = false := by rw [n2]; rfl
  unfold getAttr? getAttrBy? getAttrBy
  refine wpAny_bind (wpAny_mkText (wpAny_bind (wpAny_attempt (wpAny_holding (wpAny_bind (T0.at (wpAny_bind (T1.at ?_))))))))
  show wpAny _ _ (if (onTheHeap (Value.ref D) && Value.builtin "BaseException.__getattribute__" == Value.builtin "object.__getattribute__") = true then _ else _) _ _ _
  rw [n1, if_neg Bool.false_ne_true]
  unfold getAttrByItsOwn hookBefore
  refine wpAny_bind ?_
  rw [if_pos (show onTheHeap (Value.ref D) = true from rfl)]
  refine T2.at ?_
  refine wpAny_bind (wpAny_attempt (wpAny_holding ?_))
  unfold callGetattribute
  rw [n0, if_neg Bool.false_ne_true]
  unfold boundAndCalled
  rw [PySem.F.excAttr_ValueError.ga.bind (.ref x)]
  refine wpAny_bind (wpAny_pure ?_)
  show wpAny _ _ (call (.builtin "BaseException.__getattribute__") [.ref x, .str "__class__" t]) _ _ _
  refine wpAny_call (codeAny_call_builtin PySem.F.excAttr_ValueError.ga.plain PySem.F.entry_bexc_ga ?_)
  refine @check_slot (model prog w) _ _ ⟨hp, g, d, t + 1, os⟩ "BaseException.__getattribute__" "BaseException" "__getattribute__" (.ref x) [.str "__class__" t] [] _ (by decide +kernel) (by decide +kernel) under (PySem.F.args_bexc_ga (.ref x) (.str "__class__" t)) ?_
  unfold Builtin.«object.__getattribute__»
  refine wpAny_bind (wpAny_of_eq (a := ((Value.ref x : Value), [Value.str "__class__" t])) (by first | rfl | (simp only [slotArgs]; rfl)) ?_)
  refine wpAny_bind (wpAny_pure (wpAny_bind (T0.at (wpAny_bind (T3.at ?_)))))
  show wpAny _ _ (holding [Value.builtin "object.__class__"] (call (.builtin "getset_descriptor.__get__") [.builtin "object.__class__", .ref x, .ref D]) >>= ret) _ _ _
  refine wpAny_bind (wpAny_holding (wpAny_call (class_get (s := ⟨hp, g, d, t + 1, os⟩) (ox := ox) (od := some od) X J R.hm ?_)))
  refine wpAny_pure ?_
  show wpAny _ _ (handedOut (.ref D)) _ _ _
  rw [handedOut_of (v := .ref D) rfl]
  first
    | exact wpAny_pure (wpAny_pure hQ)
    | exact wpAny_pure hQ
    | exact wpAny_pure (wpAny_bind (wpAny_pure (wpAny_pure hQ)))
open PySem.W PySem.Calls in
theorem kit_exc (R : ExcC K D) : KitX K (.ref x) (.ref D) (fun h => InstAt h x ox D (some od)) where
  ty := fun _ _ _ J => J.type
  it := fun _ _ X _ => by
    obtain ⟨cD, eD, _⟩ := any_some R.hd
    unfold clsIn at eD
    split at eD
    · rename_i c' d' cd' sl' ho
      intro A' Q' E' s' k q
      unfold isType loadHead
      exact wpAny_bind (wpAny_loadPart (k _ _ (X _ _ ho)) (wpAny_pure q))
    · cases eD
  ne := fun h tp dd its n sl X htp => by
    obtain ⟨cD, eD, _⟩ := any_some R.hd
    refine Bool.eq_false_iff.mpr fun q => ?_
    have e : D = tp := Value.ref.inj (beq_iff_eq.mp q)
    subst e
    unfold clsIn at eD
    split at eD
    · rename_i c' d' cd' sl' ho
      have z := (X _ _ ho).symm.trans htp
      cases z
    · cases eD
  ca := fun X J k => cls_asked_ok R X J k
end
/-- isinstance(e, c) in the suite that holds e -/
def rIsX (K : PySem.W.Frag) (D a dd : Addr) : List V → Hp → VK → Prop := fun xs H Q => ∃ (c : V) (u : Value) (gs : List (Str × V)) (b : Bool), xs = [.ref a, c] ∧ ClsV c u ∧ H dd = some (.xd gs) ∧ PySem.W.kitOne K (.ref D) u = some b ∧ Q (.bl b) H
theorem call_isX {X : Cx} {a D dd : Addr} {oe : Obj} {pn : List (Addr × Obj)} (R : ExcC X.K D) (hz : Zc (.ref D) (some dd) oe) (hf : ∃ vs, oe.data = .fields vs) : CallR (X.suite a ((a, oe) :: pn)) (.builtin "isinstance") (rIsX X.K D a dd) := by
  intro pins s σ H xs us Q I r h
  obtain ⟨c, u, gs, b, rfl, hcv, hd, e, q⟩ := h
  cases r with
  | cons rx rr =>
    cases rr with
    | cons rt rr =>
      cases rr
      cases rx
      have eu := hcv.eq rt
      subst eu
      obtain ⟨there, _⟩ := I.pin (a, oe) (List.mem_append.mpr (.inl List.mem_cons_self))
      obtain ⟨vs, hv⟩ := hf
      have hx : ObjOk X.prog X.w H s.heap dd (.xd gs) := I.hok dd _ hd
      obtain ⟨mA, hns, _⟩ := hx
      obtain ⟨od, ho, _⟩ := lookIn_ns hns
      have J : PySem.W.InstAt s.heap a oe D (some od) := ⟨there, hz.1, by unfold PySem.W.notCls; rw [hv] <;> rfl, by rw [hz.2]; exact ho⟩
      exact PySem.W.kia_one (kit_exc R) I.kIn J e (fun z => nomatch z) fun tk => ⟨.bl b, H, I.kept (t' := tk) fun _ _ z => z, rfl, q⟩
end Z

set_option Elab.async false
set_option linter.all false
set_option maxRecDepth 100000
set_option maxHeartbeats 4000000
/-! Z11: built-ins, calls, what is walked, comprehensions; every expression. -/
namespace Z
open PySem
open PySem.Spec
open PyProof.Rows
open L2
section
variable {X : Cx} {K : PySem.W.Frag} {cm : String → Option Addr} {T : TP} {C : CkC} {a b c : Dn} {e1 e2 e3 : Expr} {pos : Pos}
theorem looks_vws {F H : Hp} {lab : Lab} {ρ : Env} {σ : L2.St} (re : RE K cm F H lab ρ σ) : ∀ {os : List Opd} {vs : List V} {ds : List D}, RelOs K cm F σ os vs → looks ρ os = .ok ds → Vws K cm F H ds vs
  | _, _, _, .nil, h => by cases h; exact .nil
  | _, _, _, .cons r rs, h => by
    unfold looks at h
    obtain ⟨d, ed, h⟩ := bind_okE h
    obtain ⟨ds, eds, h⟩ := bind_okE h
    cases h
    exact .cons (look_vw re r ed) (looks_vws re rs eds)
theorem looks_noex {ρ : Env} : ∀ {os : List Opd} c fs ρ', looks ρ os ≠ .ex c fs ρ'
  | [] => ok_noex
  | o :: os => bind_noex look_noex fun _ => bind_noex looks_noex fun _ => ok_noex
theorem biB_boot (b : Bi) (hb : ∀ ts, b ≠ .isa ts) : (∃ id, biV b = .builtin id ∧ bootBuiltins (Str.ofString (biN b)) = some (.builtin id)) ∨ (∃ t, biV b = .type t ∧ bootBuiltins (Str.ofString (biN b)) = some (.type t)) := by
  cases b <;> first
    | exact absurd rfl (hb _)
    | exact .inl ⟨_, rfl, by kernel_rfl⟩
    | exact .inr ⟨_, rfl, by kernel_rfl⟩
theorem sd_bi (hm : T.Mono) (xo : XOk X C) {b : Bi} (hb : ∀ ts, b ≠ .isa ts) {l : List Dn} {e : Expr} {es : List Expr} {x : Str} {p : Pos} (hca : b ≠ .repr → C.ca = true) (hx : C.blt x (biN b) = true) (h : Sds X cm T l (e :: es)) (hn : noStarE e = true) (hns : ∀ e ∈ es, noStarE e = true) :
    Sd X cm T (mkD (dBi b l)) (.Call (.Name x p) (e :: es) [] pos) := by
  obtain ⟨b1, b2, b3, b4, b5⟩ := xo.blt hx
  have hr : ∀ σ H Q, tz X.K cm T (dBi b l) σ H Q → tCB (rB X.K cm b) (tzos X.K cm T (dOs l)) σ H Q := fun σ H Q hq => by
    obtain ⟨ρ, F, lab, re, tk⟩ := hq
    refine ⟨ρ, F, lab, re, (tk.bnd hm).imp fun x F1 H1 lab1 tk1 re1 vs rs => ?_⟩
    obtain ⟨ds, eds, tk2⟩ := tk1.pure looks_noex
    obtain ⟨w, ew, tk3⟩ := tk2.pure biO_noex
    refine ⟨F1, ds, w, re1.sub, looks_vws re1 rs eds, ew, fun v F' H' n => ?_⟩
    obtain ⟨lab', s', re', rw'⟩ := n.step re1
    exact tk3.at_ s' re' v rw'
  have hc := call_biZ (X := X) (cm := cm) xo.un xo.gd b (fun z => xo.calm (hca z)) hb
  rcases biB_boot b hb with ⟨id, h1, h2⟩ | ⟨t, h1, h2⟩
  · rw [h1] at hc
    exact sd_mk hm (peI (pe_callB hc b1 b2 (by rw [b3]; exact h2) (h.os hm) b5 b4 (star_cons hn) (star_none hns)) hr) rfl
  · rw [h1] at hc
    exact sd_mk hm (peI (pe_callTy hc b1 b2 (by rw [b3]; exact h2) (h.os hm) b5 b4 (star_cons hn) (star_none hns)) hr) rfl

/-! ### calls -/
/-- the place of slot n among the arguments -/
def refIx : List Arg → Nat → Option Nat
  | [], _ => none
  | .v _ :: r, n => (refIx r n).map (· + 1)
  | .r m :: r, n => if m = n then some 0 else (refIx r n).map (· + 1)
theorem refIx_some : ∀ {as : List Arg} {n i : Nat}, refIx as n = some i → as[i]? = some (.r n)
  | [], _, _, h => by cases h
  | .v d :: r, n, i, h => by
    simp only [refIx, Option.map_eq_some_iff] at h
    obtain ⟨j, h1, rfl⟩ := h
    simpa using refIx_some h1
  | .r m :: r, n, i, h => by
    unfold refIx at h
    split at h
    · rename_i e
      cases h
      rw [e]; rfl
    · simp only [Option.map_eq_some_iff] at h
      obtain ⟨j, h1, rfl⟩ := h
      simpa using refIx_some h1
theorem mem_refs : ∀ {as : List Arg} {n i : Nat}, as[i]? = some (.r n) → n ∈ refsOf as
  | [], _, _, h => by simp at h
  | .v d :: r, n, 0, h => by simp at h
  | .v d :: r, n, i + 1, h => by
    show n ∈ refsOf r
    exact mem_refs (i := i) (by simpa using h)
  | .r m :: r, n, 0, h => by
    have : m = n := by simpa using h
    rw [← this]; exact List.mem_cons_self
  | .r m :: r, n, i + 1, h => List.mem_cons_of_mem _ (mem_refs (i := i) (by simpa using h))
theorem refIx_at : ∀ {as : List Arg} {n i : Nat}, (refsOf as).Nodup → as[i]? = some (.r n) → refIx as n = some i
  | [], _, _, _, h => by simp at h
  | .v d :: r, n, 0, _, h => by simp at h
  | .v d :: r, n, i + 1, hn, h => by
    unfold refIx
    rw [refIx_at (as := r) (i := i) hn (by simpa using h)]; rfl
  | .r m :: r, n, 0, _, h => by
    have : m = n := by simpa using h
    unfold refIx
    rw [if_pos this]
  | .r m :: r, n, i + 1, hn, h => by
    have hn : (m :: refsOf r).Nodup := hn
    rw [List.nodup_cons] at hn
    have h' : r[i]? = some (.r n) := by simpa using h
    have : m ≠ n := fun e => hn.1 (e ▸ mem_refs h')
    unfold refIx
    rw [if_neg this, refIx_at hn.2 h']; rfl
theorem refIx_none {as : List Arg} {n : Nat} (h : n ∉ refsOf as) : refIx as n = none := by
  cases e : refIx as n with
  | none => rfl
  | some i => exact absurd (mem_refs (refIx_some e)) h
/-- whose own a thing is in a frame that is called -/
def labC (as : List Arg) (lab : Lab) : Lab := fun a => match lab a with
  | some (s + 1, j) => (refIx as s).map fun i => (i + 1, j)
  | _ => none
/-- .. and in the caller's again -/
def labB (as : List Arg) (F H : Hp) (lab labc : Lab) : Lab := fun a => match H a, F a, labC as lab a with
  | some _, none, none => lab a
  | _, _, _ => match labc a with
    | some (0, j) => some (0, j)
    | some (i + 1, j) => match as[i]? with
      | some (.r n) => some (n + 1, j)
      | _ => none
    | none => none
theorem RelR.relab {F H : Hp} {lab lab' : Lab} {s s' j : Nat} {w : Fw} {v : V} (hl : ∀ a j o, lab a = some (s, j) → H a = some o → F a = none → lab' a = some (s', j)) (h : RelR K cm F H lab (s, j) w v) : RelR K cm F H lab' (s', j) w v := by
  cases w with
  | sh d => exact h
  | ol ds =>
    obtain ⟨p, vs, e, l, hp, fp, r⟩ := h
    exact ⟨p, vs, e, hl _ _ _ l hp fp, hp, fp, r⟩
  | od t l =>
    obtain ⟨p, e, lb, fp, r⟩ := h
    obtain ⟨u, hu⟩ := r.some
    exact ⟨p, e, hl _ _ _ lb hu fp, fp, r⟩
theorem RelFs.relab {F H : Hp} {lab lab' : Lab} {s s' : Nat} (hl : ∀ a j o, lab a = some (s, j) → H a = some o → F a = none → lab' a = some (s', j)) : ∀ {k : Nat} {fs : List (String × Fw)} {gs : List (Str × V)}, RelFs K cm F H lab s k fs gs → RelFs K cm F H lab' s' k fs gs
  | _, [], [], _ => trivial
  | _, (n, w) :: r, (m, v) :: q, h => ⟨h.1, h.2.1.relab hl, RelFs.relab hl h.2.2⟩
  | _, [], _ :: _, h => h.elim
  | _, _ :: _, [], h => h.elim
theorem RelW.relab {F H : Hp} {lab lab' : Lab} {s s' : Nat} {w : W} {v : V} (hl : ∀ a j o, lab a = some (s, j) → H a = some o → F a = none → lab' a = some (s', j)) (h : RelW K cm F H lab s w v) (h0 : (s ≠ 0 → s' ≠ 0) ∨ ∀ c fs, w ≠ .xc c fs := by exact .inl (by omega)) : RelW K cm F H lab' s' w v := by
  cases w with
  | sh d => exact h
  | ol ds => exact RelR.relab (w := .ol ds) hl h
  | od t l => exact RelR.relab (w := .od t l) hl h
  | oi c fs =>
    obtain ⟨p, C, dx, gs, e, l, hp, fp, hc, r⟩ := h
    exact ⟨p, C, dx, gs, e, hl _ _ _ l hp fp, hp, fp, hc, r.relab hl⟩
  | xc c fs =>
    obtain ⟨s0, r⟩ := h
    exact ⟨h0.elim (fun h0 => h0 s0) fun h0 => absurd rfl (h0 c fs), r⟩
theorem argW_at {ρ : Env} : ∀ {as : List Arg} {ws : List W}, argW ρ as = .ok ws → ws.length = as.length ∧ ∀ (i : Nat) (w : W), ws[i]? = some w → (∃ d, as[i]? = some (.v d) ∧ w = .sh d) ∨ ∃ n, as[i]? = some (.r n) ∧ gt ρ n = some w
  | [], _, h => by cases h; exact ⟨rfl, fun i w e => by simp at e⟩
  | .v d :: r, ws, h => by
    unfold argW at h
    obtain ⟨l, el, h⟩ := bind_okE h
    cases h
    obtain ⟨h1, h2⟩ := argW_at el
    refine ⟨by simp [h1], fun i w e => ?_⟩
    cases i with
    | zero => simp at e; exact .inl ⟨d, rfl, e.symm⟩
    | succ i => simpa using h2 i w (by simpa using e)
  | .r n :: r, ws, h => by
    unfold argW at h
    split at h
    · rename_i w0 ew
      obtain ⟨l, el, h⟩ := bind_okE h
      cases h
      obtain ⟨h1, h2⟩ := argW_at el
      refine ⟨by simp [h1], fun i w e => ?_⟩
      cases i with
      | zero => simp at e; exact .inr ⟨n, rfl, by rw [ew, e]⟩
      | succ i => simpa using h2 i w (by simpa using e)
    · cases h
theorem argW_noex {ρ : Env} : ∀ {as : List Arg} c fs ρ', argW ρ as ≠ .ex c fs ρ'
  | [] => ok_noex
  | .v d :: r => bind_noex argW_noex fun _ => ok_noex
  | .r n :: r => by
    unfold argW
    split
    · exact bind_noex argW_noex fun _ => ok_noex
    · exact bad_noex
theorem RelAs.at {F : Hp} {σ : L2.St} : ∀ {as : List Arg} {vs : List V}, RelAs K cm F σ as vs → as.length = vs.length ∧ ∀ (i : Nat) (a : Arg) (v : V), as[i]? = some a → vs[i]? = some v → RelA K cm F σ a v
  | _, _, .nil => ⟨rfl, fun i a v e => by simp at e⟩
  | _, _, .cons h r => by
    obtain ⟨h1, h2⟩ := RelAs.at r
    refine ⟨by simp [h1], fun i a v e e' => ?_⟩
    cases i with
    | zero => simp at e e'; subst e e'; exact h
    | succ i => exact h2 i a v (by simpa using e) (by simpa using e')
theorem back_length : ∀ {as : List Arg} {ws : List W} {ρ : Env}, (back ρ as ws).length = ρ.length
  | [], _, _ => by unfold back; rfl
  | .v _ :: r, [], _ => by unfold back; rfl
  | .r _ :: r, [], _ => by unfold back; rfl
  | .v _ :: r, w :: ws, ρ => by unfold back; exact back_length
  | .r n :: r, w :: ws, ρ => by unfold back; rw [back_length, st_length]
theorem gt_back : ∀ {as : List Arg} {ws : List W} {ρ : Env} {n : Nat} {w : W}, (refsOf as).Nodup → ws.length = as.length → gt (back ρ as ws) n = some w → (∃ i : Nat, as[i]? = some (Arg.r n) ∧ ws[i]? = some w) ∨ (n ∉ refsOf as ∧ gt ρ n = some w)
  | [], ws, ρ, n, w, _, _, h => by unfold back at h; exact .inr ⟨by simp [refsOf], h⟩
  | .v _ :: r, [], _, _, _, _, hl, _ => by simp at hl
  | .r _ :: r, [], _, _, _, _, hl, _ => by simp at hl
  | .v _ :: r, u :: ws, ρ, n, w, hn, hl, h => by
    unfold back at h
    rcases gt_back (as := r) hn (by simpa using hl) h with ⟨i, h1, h2⟩ | h1
    · exact .inl ⟨i + 1, by simpa using h1, by simpa using h2⟩
    · exact .inr h1
  | .r m :: r, u :: ws, ρ, n, w, hn, hl, h => by
    unfold back at h
    have hn : (m :: refsOf r).Nodup := hn
    rw [List.nodup_cons] at hn
    rcases gt_back (as := r) hn.2 (by simpa using hl) h with ⟨i, h1, h2⟩ | ⟨h1, h2⟩
    · exact .inl ⟨i + 1, by simpa using h1, by simpa using h2⟩
    · by_cases e : n = m
      · subst e
        have hl := gt_lt h2
        rw [st_length] at hl
        rw [gt_st_same hl] at h2
        cases h2
        exact .inl ⟨0, rfl, rfl⟩
      · rw [gt_st_ne e] at h2
        exact .inr ⟨by simp only [refsOf, List.mem_cons, not_or]; exact ⟨e, h1⟩, h2⟩
theorem Takes.no : Takes X (fun _ _ _ _ => False) := fun u s' h => by
  obtain ⟨a, B, sI, pins, σ, H, cls, d, _, _, _, _, _, _, _, _, w⟩ := h
  exact w.elim
/-- the defs that are called -/
structure Calls (X : Cx) (cm : String → Option Addr) (k : Cl) (df : List String) (kn : String → List String) (g : GX) : Prop where
  geq : k.g = g
  run : ∀ f ∈ df, ∃ a fd ps lv, X.mg (Str.ofString f) = some (.ref a) ∧ PySem.W.keepIn X.K (.ref a) = true ∧ FnG X.prog X.w X.K X.mg X.base lv a fd ps (spZ X.K cm ps.length (k.br f) (k.c f)) ∧ Binds X.K fd ps [] ∧ Room lv X.A ∧
    (∀ ws, k.c f ws ≠ .bad → ws.length = ps.length) ∧ (∀ ws w outs, k.c f ws = .ok w outs → outs.length = ws.length) ∧
    (0 < (kn f).length → ps = (kn f).map Str.ofString ∧ ∀ (s : Shared) (us : List Value), X.K.In s.heap → us.length = ps.length → BindsTo s fd ⟨[], ps.zip us⟩ (ps.zip us))
  atr : ∀ c f A, k.g.atB c f = true → cm c = some A → Cls X.K A ∧ NoAttr X.K A (Str.ofString f)
  mtr : X.calm = true → ∀ c m f, k.g.mtO c m = some f → ∃ a fd ps lv, (∀ A, cm c = some A → Cls X.K A ∧ Meth X.K A (Str.ofString m) a) ∧ FnG X.prog X.w X.K X.mg X.base lv a fd ps (spZ X.K cm ps.length (k.br f) (k.c f)) ∧ Binds X.K fd ps [] ∧ Room lv X.A ∧
    (∀ ws, k.c f ws ≠ .bad → ws.length = ps.length) ∧ (∀ ws w outs, k.c f ws = .ok w outs → outs.length = ws.length)
  mtl : X.calm = true → ∀ c m f, k.g.mtO c m = some f → (∃ ws, k.ini f ws ≠ .bad) → ∃ a fd ps lv, (∀ A, cm c = some A → Cls X.K A ∧ Meth X.K A (Str.ofString m) a) ∧ FnG X.prog X.w X.K X.mg X.base lv a fd ps (spZ X.K cm ps.length (k.br f) (k.ini f)) ∧ Binds X.K fd ps [] ∧ Room (lv + 1) X.A ∧
    (∀ ws, k.ini f ws ≠ .bad → ws.length = ps.length) ∧ (∀ ws w outs, k.ini f ws = .ok w outs → outs.length = ws.length)
  mkr : X.calm = true → ∀ c f, k.g.mkO c = some f → ∃ a A, cm c = some A ∧ X.mg (Str.ofString c) = some (.ref A) ∧ Mk X.K A a ∧ ((∃ ws, k.ini f ws ≠ .bad) → ∃ fd ps lv, FnG X.prog X.w X.K X.mg X.base lv a fd ps (spZ X.K cm ps.length (k.br f) (k.ini f)) ∧ Binds X.K fd ps [] ∧ Room (lv + 1) X.A ∧
    (∀ ws, k.ini f ws ≠ .bad → ws.length = ps.length) ∧ (∀ ws w outs, k.ini f ws = .ok w outs → outs.length = ws.length))
  xcq : XcOk X cm
  cmn : X.calm = true → CmN cm
  xat : ∀ c f A, k.g.exB c f = true → cm c = some A → XfC X.K A ∧ PySem.W.findIn X.K (.ref A) (Str.ofString f) = some none
  clq : ∀ c ∈ k.g.cls, ∃ u, ClQ X cm k.g c u
  exq : X.calm = true → ∀ c ns, k.g.exa.lookup c = some ns → (1 < k.n → Room 2 X.A) ∧ ExQ X cm c ns
  shq : X.calm = true → ∀ sk f s, k.g.shp.lookup sk = some (f, s) → ∃ a fd ps lv, X.mg (Str.ofString f) = some (.ref a) ∧ PySem.W.keepIn X.K (.ref a) = true ∧ FnG X.prog X.w X.K X.mg X.base lv a fd ps (spZ X.K cm ps.length (k.br f) (k.c f)) ∧ ShB X.K fd ps s ∧ Room lv X.A ∧
    (∀ ws, k.c f ws ≠ .bad → ws.length = ps.length) ∧ (∀ ws w outs, k.c f ws = .ok w outs → outs.length = ws.length)
/-- what is asked of the exceptions -/
def TPx (X : Cx) (cm : String → Option Addr) (T : TP) : Prop := ∀ σ F H lab c fs ρ, T σ F H lab c fs ρ → RE X.K cm F H lab ρ σ → Takes X (ExW X.K cm σ F H lab c fs ρ)
theorem call_sp {k : Cl} {f : String} {np : Nat} (hx : TPx X cm T) (hlen : ∀ ws, k.c f ws ≠ .bad → ws.length = np) (hout : ∀ ws w outs, k.c f ws = .ok w outs → outs.length = ws.length)
    {F1 H1 : Hp} {lab1 : Lab} {σ : L2.St} {ρ : Env} {as : List Arg} {vs : List V} {Q : VK} (hbr : ∀ (i n : Nat), as[i]? = some (Arg.r n) → (k.br f)[i]? = some true)
    (re1 : RE X.K cm F1 H1 lab1 ρ σ) (rs : RelAs X.K cm F1 σ as vs) (tk : Tk T σ F1 H1 lab1 (callO k f as ρ) fun x F' H' lab' => RE X.K cm F' H' lab' x.2 σ → ∀ v, RelW X.K cm F' H' lab' 0 x.1 v → Q v H') :
    ∃ (Ex : XK) (W : WX), Takes X W ∧ (∀ cls d H, Ex cls d H → W cls d σ H) ∧ spZ X.K cm np (k.br f) (k.c f) vs H1 Q Ex := by
  unfold callO at tk
  split at tk
  case isFalse => exact absurd rfl tk.1
  rename_i hnd
  obtain ⟨ws, ews, tk⟩ := tk.pure argW_noex
  obtain ⟨hl, hat⟩ := argW_at ews
  obtain ⟨hl2, hrel⟩ := rs.at
  have hnb : k.c f ws ≠ .bad := fun e => by
    rw [e] at tk
    exact tk.1 rfl
  have hnp := hlen ws hnb
  -- the called one's own
  have hin : ∀ (i : Nat) (w : W) (v : V), ws[i]? = some w → vs[i]? = some v → RelW X.K cm F1 H1 (labC as lab1) (i + 1) w v := fun i w v ew ev => by
    rcases hat i w ew with ⟨d, ea, rfl⟩ | ⟨n, ea, eg⟩
    · exact hrel i _ v ea ev
    · have e1 : σ[n]? = some (some v) := hrel i _ v ea ev
      obtain ⟨v', e2, r⟩ := re1.at_ n w eg
      rw [e1] at e2
      cases e2
      refine r.relab fun a j o l ha hf => ?_
      simp only [labC, l, refIx_at hnd ea, Option.map_some]
  cases er : k.c f ws with
  | bad => exact absurd er hnb
  | ex c fs =>
    rw [er] at tk
    simp only at tk
    split at tk
    case isFalse => exact absurd rfl tk.1
    have hT := hx σ F1 H1 lab1 c fs ρ (tk.2.1 c fs ρ rfl) re1
    refine ⟨fun cls d H' => ExW X.K cm σ F1 H1 lab1 c fs ρ cls d σ H', _, hT, fun _ _ _ h => h, by rw [← hl2, ← hl]; exact hnp, ws, F1, labC as lab1, re1.sub, by rw [hl, hl2], hin, hnb, fun w outs e => (by rw [er] at e; cases e), fun c' fs' e C dd gs F' H' lab' s' st' hC hd hr => ?_⟩
    rw [er] at e
    cases e
    -- nothing of ours was handed on
    rename_i hre
    have hno : ∀ a, labC as lab1 a = none := fun a => by
      unfold labC
      split
      · rw [refIx_none (by rw [hre]; simp)]; rfl
      · rfl
    let lb : Lab := labB as F1 H1 lab1 lab'
    have kept : ∀ a o, H1 a = some o → F1 a = none → H' a = some o ∧ F' a = none ∧ lb a = lab1 a := fun a o ha hf => by
      obtain ⟨k1, k2, k3⟩ := st'.fr a o ha hf (hno a)
      exact ⟨k1, k2, by simp only [lb, labB, ha, hf, hno a]⟩
    have sS : Stp F1 H1 lab1 F' H' lb := ⟨st'.ff, fun a o ha hf l => by
      obtain ⟨k1, k2, k3⟩ := kept a o ha hf
      exact ⟨k1, k2, by rw [k3]; exact l⟩⟩
    have rE := re1.keep st'.ff s' (lab' := lb) fun i a o j l ha hf => by
      obtain ⟨k1, k2, k3⟩ := kept a o ha hf
      exact ⟨k1, k2, by rw [k3]; exact l⟩
    exact ⟨C, dd, gs, F', lb, rfl, hC, rfl, hd, hr, sS, rE, rfl⟩
  | ok w outs =>
    rw [er] at tk
    have hol := hout ws w outs er
    refine ⟨fun _ _ _ => False, fun _ _ _ _ => False, Takes.no, fun _ _ _ h => h, by rw [← hl2, ← hl]; exact hnp, ws, F1, labC as lab1, re1.sub, by rw [hl, hl2], hin, hnb, fun w' outs' e v F' H' lab' s' st' rw' ro => ?_, fun c' fs' e => (by rw [er] at e; cases e)⟩
    rw [er] at e
    cases e
    let lb : Lab := labB as F1 H1 lab1 lab'
    have kept : ∀ a o, H1 a = some o → F1 a = none → labC as lab1 a = none → H' a = some o ∧ F' a = none ∧ lab' a = none ∧ lb a = lab1 a := fun a o ha hf hn => by
      obtain ⟨k1, k2, k3⟩ := st'.fr a o ha hf hn
      exact ⟨k1, k2, k3, by simp only [lb, labB, ha, hf, hn]⟩
    have given : ∀ a s j, lab' a = some (s, j) → lb a = (match labB as (fun _ => none) (fun _ => none) lab1 lab' a with | x => x) := fun a s j l => by
      have : ¬ (∃ o, H1 a = some o ∧ F1 a = none ∧ labC as lab1 a = none) := fun ⟨o, ha, hf, hn⟩ => by
        have := (kept a o ha hf hn).2.2.1
        rw [l] at this; cases this
      simp only [lb, labB]
      cases ha : H1 a with
      | none => rfl
      | some o =>
        cases hf : F1 a with
        | some _ => rfl
        | none =>
          cases hn : labC as lab1 a with
          | some _ => rfl
          | none => exact absurd ⟨o, ha, hf, hn⟩ this
    have sS : Stp F1 H1 lab1 F' H' lb := ⟨st'.ff, fun a o ha hf l => by
      have hn : labC as lab1 a = none := by simp only [labC, l]
      obtain ⟨k1, k2, _, k3⟩ := kept a o ha hf hn
      exact ⟨k1, k2, by rw [k3]; exact l⟩⟩
    refine tk.at_ sS ?_ v (rw'.relab fun a j o l ha hf => by rw [given a _ _ l]; simp only [labB, l])
    refine ⟨s', by rw [back_length]; exact re1.len, fun n w' eg => ?_⟩
    rcases gt_back hnd (by rw [hol, hl]) eg with ⟨i, ea, eo⟩ | ⟨hnr, eg'⟩
    · have hi : i < vs.length := by
        rw [← hl2]
        exact (List.getElem?_eq_some_iff.mp ea).1
      have ev : vs[i]? = some vs[i] := List.getElem?_eq_getElem hi
      refine ⟨vs[i], hrel i _ _ ea ev, (ro i w' _ eo (hbr i n ea) ev).relab fun a j o l ha hf => ?_⟩
      rw [given a _ _ l]
      simp only [labB, l, ea]
    · obtain ⟨v', e1, r⟩ := re1.at_ n w' eg'
      refine ⟨v', e1, r.keep st'.ff fun a o j l ha hf => ?_⟩
      have hn : labC as lab1 a = none := by
        simp only [labC, l, refIx_none hnr, Option.map_none]
      obtain ⟨k1, k2, _, k3⟩ := kept a o ha hf hn
      exact ⟨k1, k2, by rw [k3]; exact l⟩
theorem call_sp_ok {k : Cl} {f : String} {np : Nat} (hlen : ∀ ws, k.c f ws ≠ .bad → ws.length = np) (hout : ∀ ws w outs, k.c f ws = .ok w outs → outs.length = ws.length)
    {F1 H1 : Hp} {lab1 : Lab} {σ : L2.St} {ρ : Env} {as : List Arg} {vs : List V} {Q : VK} (hbr : ∀ (i n : Nat), as[i]? = some (Arg.r n) → (k.br f)[i]? = some true)
    (hok : ∃ y, callO k f as ρ = .ok y) (re1 : RE X.K cm F1 H1 lab1 ρ σ) (rs : RelAs X.K cm F1 σ as vs) (tk : Tk T σ F1 H1 lab1 (callO k f as ρ) fun x F' H' lab' => RE X.K cm F' H' lab' x.2 σ → ∀ v, RelW X.K cm F' H' lab' 0 x.1 v → Q v H') :
    spZ X.K cm np (k.br f) (k.c f) vs H1 Q (fun _ _ _ => False) := by
  unfold callO at tk hok
  split at tk
  case isFalse => exact absurd rfl tk.1
  rename_i hnd
  rw [if_pos hnd] at hok
  obtain ⟨ws, ews, tk⟩ := tk.pure argW_noex
  obtain ⟨hl, hat⟩ := argW_at ews
  obtain ⟨hl2, hrel⟩ := rs.at
  have hnb : k.c f ws ≠ .bad := fun e => by
    rw [e] at tk
    exact tk.1 rfl
  have hnp := hlen ws hnb
  -- the called one's own
  have hin : ∀ (i : Nat) (w : W) (v : V), ws[i]? = some w → vs[i]? = some v → RelW X.K cm F1 H1 (labC as lab1) (i + 1) w v := fun i w v ew ev => by
    rcases hat i w ew with ⟨d, ea, rfl⟩ | ⟨n, ea, eg⟩
    · exact hrel i _ v ea ev
    · have e1 : σ[n]? = some (some v) := hrel i _ v ea ev
      obtain ⟨v', e2, r⟩ := re1.at_ n w eg
      rw [e1] at e2
      cases e2
      refine r.relab fun a j o l ha hf => ?_
      simp only [labC, l, refIx_at hnd ea, Option.map_some]
  cases er : k.c f ws with
  | bad => exact absurd er hnb
  | ex c fs =>
    exfalso
    obtain ⟨y, hok⟩ := hok
    rw [ews, bind_ok, er] at hok
    simp only at hok
    split at hok <;> cases hok
  | ok w outs =>
    rw [er] at tk
    have hol := hout ws w outs er
    refine ⟨by rw [← hl2, ← hl]; exact hnp, ws, F1, labC as lab1, re1.sub, by rw [hl, hl2], hin, hnb, fun w' outs' e v F' H' lab' s' st' rw' ro => ?_, fun c' fs' e => (by rw [er] at e; cases e)⟩
    rw [er] at e
    cases e
    let lb : Lab := labB as F1 H1 lab1 lab'
    have kept : ∀ a o, H1 a = some o → F1 a = none → labC as lab1 a = none → H' a = some o ∧ F' a = none ∧ lab' a = none ∧ lb a = lab1 a := fun a o ha hf hn => by
      obtain ⟨k1, k2, k3⟩ := st'.fr a o ha hf hn
      exact ⟨k1, k2, k3, by simp only [lb, labB, ha, hf, hn]⟩
    have given : ∀ a s j, lab' a = some (s, j) → lb a = (match labB as (fun _ => none) (fun _ => none) lab1 lab' a with | x => x) := fun a s j l => by
      have : ¬ (∃ o, H1 a = some o ∧ F1 a = none ∧ labC as lab1 a = none) := fun ⟨o, ha, hf, hn⟩ => by
        have := (kept a o ha hf hn).2.2.1
        rw [l] at this; cases this
      simp only [lb, labB]
      cases ha : H1 a with
      | none => rfl
      | some o =>
        cases hf : F1 a with
        | some _ => rfl
        | none =>
          cases hn : labC as lab1 a with
          | some _ => rfl
          | none => exact absurd ⟨o, ha, hf, hn⟩ this
    have sS : Stp F1 H1 lab1 F' H' lb := ⟨st'.ff, fun a o ha hf l => by
      have hn : labC as lab1 a = none := by simp only [labC, l]
      obtain ⟨k1, k2, _, k3⟩ := kept a o ha hf hn
      exact ⟨k1, k2, by rw [k3]; exact l⟩⟩
    refine tk.at_ sS ?_ v (rw'.relab fun a j o l ha hf => by rw [given a _ _ l]; simp only [labB, l])
    refine ⟨s', by rw [back_length]; exact re1.len, fun n w' eg => ?_⟩
    rcases gt_back hnd (by rw [hol, hl]) eg with ⟨i, ea, eo⟩ | ⟨hnr, eg'⟩
    · have hi : i < vs.length := by
        rw [← hl2]
        exact (List.getElem?_eq_some_iff.mp ea).1
      have ev : vs[i]? = some vs[i] := List.getElem?_eq_getElem hi
      refine ⟨vs[i], hrel i _ _ ea ev, (ro i w' _ eo (hbr i n ea) ev).relab fun a j o l ha hf => ?_⟩
      rw [given a _ _ l]
      simp only [labB, l, ea]
    · obtain ⟨v', e1, r⟩ := re1.at_ n w' eg'
      refine ⟨v', e1, r.keep st'.ff fun a o j l ha hf => ?_⟩
      have hn : labC as lab1 a = none := by
        simp only [labC, l, refIx_none hnr, Option.map_none]
      obtain ⟨k1, k2, _, k3⟩ := kept a o ha hf hn
      exact ⟨k1, k2, by rw [k3]; exact l⟩
end
end Z

set_option Elab.async false
set_option linter.all false
set_option maxRecDepth 100000
set_option maxHeartbeats 8000000
/-! Zw: zip of a list with a tuple. -/
namespace Z
open PySem
open PySem.Spec
open PyProof.Rows
open L2
/-- a list (false) or a tuple (true) -/
def SqB (K : PySem.W.Frag) (t : Bool) (H : Hp) (a : Addr) (xs : List V) : Prop := match t with
  | true => SqT K H a xs
  | false => SqL K H a xs
def ItB (h : Heap) (t : Bool) (it a : Addr) (i : Nat) : Prop := match t with
  | true => h.IsTupleIter it a i
  | false => h.IsListIter it a i
def HsB (h : Heap) (t : Bool) (a : Addr) (items : Array Value) : Prop := match t with
  | true => h.IsTuple a items
  | false => h.IsList a items
def obB (t : Bool) (a : Addr) : Obj := match t with
  | true => { cls := .type "tuple_iterator", data := .fields #[.ref a, .int 0 0] }
  | false => { cls := .type "list_iterator", data := .fields #[.ref a, .int 0 0] }
theorem ItB.at {h h' : Heap} {t : Bool} {it a : Addr} {i : Nat} (s : ItB h t it a i) (k : ∀ o, h.get? it = some o → h'.get? it = some o) : ItB h' t it a i := by
  cases t
  · exact Heap.IsListIter.at (show h.IsListIter it a i from s) k
  · exact Heap.IsTupleIter.at (show h.IsTupleIter it a i from s) k
theorem ItB.obj {h : Heap} {t : Bool} {it a : Addr} {i : Nat} (s : ItB h t it a i) : ∃ o, h.get? it = some o ∧ ∀ v, o.data ≠ .cell v := by
  cases t
  · obtain ⟨o, e, _, d⟩ := (show h.IsListIter it a i from s)
    exact ⟨o, e, fun v q => by rw [d] at q; cases q⟩
  · obtain ⟨o, e, _, d⟩ := (show h.IsTupleIter it a i from s)
    exact ⟨o, e, fun v q => by rw [d] at q; cases q⟩
theorem SqB.inv {X : Cx} {pins : List (Addr × Obj)} {σ : L2.St} {H : Hp} {s : Shared} {t : Bool} {a : Addr} {xs : List V} (I : Inv X pins σ H s) (h : SqB X.K t H a xs) : ∃ its : List Value, Vals xs its ∧ HsB s.heap t a its.toArray ∧ a < s.heap.objs.size := by
  cases t
  · obtain ⟨its, r, p, _⟩ := I.list (show SqL X.K H a xs from h)
    exact ⟨its, r, p.isList, p.lt⟩
  · obtain ⟨its, r, p, _⟩ := I.tuple (show SqT X.K H a xs from h)
    obtain ⟨o, ho, _⟩ := id p
    exact ⟨its, r, p, Heap.lt_size ho⟩
theorem SqB.inj {X : Cx} {pins : List (Addr × Obj)} {σ : L2.St} {H : Hp} {s : Shared} {t : Bool} {a : Addr} {xs ys : List V} (I : Inv X pins σ H s) (h : SqB X.K t H a xs) (h' : SqB X.K t H a ys) : xs = ys := by
  cases t
  · exact I.list_inj h h'
  · exact I.tuple_inj h h'
theorem drawB {prog : Program} {w : World} {A : Around} (hh : A.handled = none) (t : Bool) (it a : Addr) (hne : a ≠ it) (items : Array Value) :
    Draws prog w A it [it, a] items.size (fun i v => items[i]? = some v) (fun i h => ItB h t it a i ∧ HsB h t a items) := by
  cases t
  · exact Draws.list hh it a hne items
  · exact Draws.tuple hh it a hne items
theorem beginB (t : Bool) (a : Addr) (items : Array Value) : Begins (.ref a) (obB t a) fun h => HsB h t a items := by
  cases t
  · exact begins_list a items
  · exact begins_tuple a items
theorem ItB.new {h : Heap} {t : Bool} {it a : Addr} (e : h.get? it = some (obB t a)) : ItB h t it a 0 := by
  cases t
  · exact ⟨_, e, rfl, rfl⟩
  · exact ⟨_, e, rfl, rfl⟩
/-- the two at a and b, their items in new pairs -/
def ItzM (K : PySem.W.Frag) (t u : Bool) (a b : Addr) (n m : Nat) : It :=
  ⟨fun i H => ∃ (xs ys : List V) (x y : V), SqB K t H a xs ∧ SqB K u H b ys ∧ xs.length = n ∧ ys.length = m ∧ xs[i]? = some x ∧ ys[i]? = some y,
    fun i H v H' => ∃ T x y, v = .ref T ∧ H T = none ∧ H' = upd H T (.tup [x, y]) ∧ (∀ xs, SqB K t H a xs → xs[i]? = some x) ∧ ∀ ys, SqB K u H b ys → ys[i]? = some y,
    fun i H => ∃ xs ys : List V, SqB K t H a xs ∧ SqB K u H b ys ∧ xs.length = n ∧ ys.length = m ∧ min n m ≤ i⟩
structure ApM (z TI TO i1 i2 a b : Addr) : Prop where
  S : ZipSep2 z TI TO i1 i2 [i1, a] [i2, b]
  ha : a ≠ i1
  hb : b ≠ i2
theorem turn_zipM {P : Program} {w : World} {K : PySem.W.Frag} {elts : List Expr} {kk : Nat} {tpos : Pos} {t u : Bool} {a b z TI TO i1 i2 : Addr} {n m : Nat} (D : ApM z TI TO i1 i2 a b) :
    Turn P w K (.Tuple elts kk tpos) (ItzM K t u a b n m) [z, TI, TO, i1, i2] z (fun i h => IsZip h z TI TO .none ∧ IsTupOf2 h TI (.ref i1) (.ref i2) ∧ (∃ x y, IsTupOf2 h TO x y) ∧ ItB h t i1 a i ∧ ItB h u i2 b i ∧ i ≤ min n m) where
  mem := by simp
  obj := fun i h st c hc => by
    obtain ⟨hz, hTI, ⟨x, y, hTO⟩, h1, h2, _⟩ := st
    have e' : c = z ∨ c = TI ∨ c = TO ∨ c = i1 ∨ c = i2 := by simpa using hc
    rcases e' with q | q | q | q | q
    · rw [q]; exact ⟨_, hz, fun v q => nomatch q⟩
    · rw [q]; exact ⟨_, hTI, fun v q => nomatch q⟩
    · rw [q]; exact ⟨_, hTO, fun v q => nomatch q⟩
    · rw [q]; exact h1.obj
    · rw [q]; exact h2.obj
  keep := fun i h h' st k => by
    obtain ⟨hz, hTI, ⟨x, y, hTO⟩, h1, h2, hi⟩ := st
    exact ⟨k z (by simp) _ hz, k TI (by simp) _ hTI, ⟨x, y, k TO (by simp) _ hTO⟩, h1.at fun o q => k i1 (by simp) o q, h2.at fun o q => k i2 (by simp) o q, hi⟩
  item := by
    intro X hP hw hK hc i pins s σ H E I hf st hg
    subst hP hw hK
    obtain ⟨hz, hTI, ⟨x0, y0, hTO⟩, h1, h2, hle0⟩ := st
    obtain ⟨xs, ys, x, y, hqx, hqy, hn, hm, hx, hy⟩ := hg
    obtain ⟨its, rv, p, _⟩ := SqB.inv I hqx
    obtain ⟨its2, rv2, p2, _⟩ := SqB.inv I hqy
    obtain ⟨v1, hv1, ru⟩ := rv.get hx
    obtain ⟨v2, hv2, ru2⟩ := rv2.get hy
    have hi1 : i < n := by rw [← hn]; exact (List.getElem?_eq_some_iff.mp hx).1
    have hi2 : i < m := by rw [← hm]; exact (List.getElem?_eq_some_iff.mp hy).1
    have e1 : its.toArray.size = n := by rw [List.size_toArray, ← rv.length, hn]
    have e2 : its2.toArray.size = m := by rw [List.size_toArray, ← rv2.length, hm]
    have W := WalksT.zipD2 (prog := X.prog) (w := X.w) (A := X.A) D.S (drawB (A := X.A.in1) (I.ok.hd hc) t i1 a D.ha its.toArray) (drawB (A := X.A.in1) (I.ok.hd hc) u i2 b D.hb its2.toArray)
    refine W.item i s _ _ (by rw [e1, e2]; omega) ⟨hz, hTI, ⟨x0, y0, hTO⟩, ⟨h1, p⟩, ⟨h2, p2⟩⟩ fun q vals h' tk hP hle hT hM hk => ?_
    refine ⟨_, rfl, W.go elts kk tpos i q { s with heap := h', toks := tk } _ _ hM fun h'' hS hk2 => ?_⟩
    obtain ⟨w1, w2, y1, y2, rfl⟩ := hP
    have y1 : its[i]? = some w1 := by simpa using y1
    have y2 : its2[i]? = some w2 := by simpa using y2
    rw [hv1] at y1
    rw [hv2] at y2
    cases y1
    cases y2
    have nqe : q ∉ [z, TO, i1, i2] := W.apart i q h' hM
    obtain ⟨oq, hoq, hcq, nq, hdq⟩ := hT
    have nw : ObjOk X.prog X.w (upd H q (.tup [x, y])) h'' q (.tup [x, y]) :=
      ⟨by show 2 ≤ sizeLine; decide, [v1, v2], .cons ru (.cons ru2 .nil), ⟨oq, hk2 q oq nqe hoq, hcq, nq, hdq⟩⟩
    have wr : ∀ {c : Addr}, c ∉ [z, TI, TO, i1, i2] → c ∉ [z, TO, i1, i2] := fun {c} hb q => hb (by
      have : c = z ∨ c = TO ∨ c = i1 ∨ c = i2 := by simpa using q
      rcases this with e | e | e | e <;> simp [e])
    have I1 : Inv X pins σ (upd H q (.tup [x, y])) { s with heap := h'', toks := tk } :=
      I.turnedNew (ch := [z, TI, TO, i1, i2]) (fun c ob hb e => hk2 c ob (wr hb) (hk c ob (wr hb) e)) hf hle nw
    refine ⟨.ref q, _, I1, rfl, ⟨q, x, y, rfl, I.hok.fresh hle, rfl, fun l hl => by rw [SqB.inj I hl hqx]; exact hx, fun l hl => by rw [SqB.inj I hl hqy]; exact hy⟩, ⟨hS.1, hS.2.1, hS.2.2.1, hS.2.2.2.1.1, hS.2.2.2.2.1, by omega⟩, fun c hcm => ?_⟩
    have hlt : c < s.heap.objs.size := by
      have e' : c = z ∨ c = TI ∨ c = TO ∨ c = i1 ∨ c = i2 := by simpa using hcm
      rcases e' with q | q | q | q | q
      · rw [q]; exact Heap.lt_size hz
      · rw [q]; exact Heap.lt_size hTI
      · rw [q]; exact Heap.lt_size hTO
      · rw [q]; obtain ⟨_, e1, _⟩ := h1.obj; exact Heap.lt_size e1
      · rw [q]; obtain ⟨_, e2, _⟩ := h2.obj; exact Heap.lt_size e2
    rw [upd_ne (Nat.ne_of_lt (Nat.lt_of_lt_of_le hlt hle))]
    exact (hf c hcm).1
  done := by
    intro X hP hw hK hc i pins s σ H E I hf st hg
    subst hP hw hK
    obtain ⟨hz, hTI, ⟨x0, y0, hTO⟩, h1, h2, hle0⟩ := st
    obtain ⟨xs, ys, hqx, hqy, hn, hm, hend⟩ := hg
    obtain ⟨its, rv, p, _⟩ := SqB.inv I hqx
    obtain ⟨its2, rv2, p2, _⟩ := SqB.inv I hqy
    have e1 : its.toArray.size = n := by rw [List.size_toArray, ← rv.length, hn]
    have e2 : its2.toArray.size = m := by rw [List.size_toArray, ← rv2.length, hm]
    have ei : i = min its.toArray.size its2.toArray.size := by rw [e1, e2]; omega
    have W := WalksT.zipD2 (prog := X.prog) (w := X.w) (A := X.A) D.S (drawB (A := X.A.in1) (I.ok.hd hc) t i1 a D.ha its.toArray) (drawB (A := X.A.in1) (I.ok.hd hc) u i2 b D.hb its2.toArray)
    subst ei
    exact W.done s _ _ ⟨hz, hTI, ⟨x0, y0, hTO⟩, ⟨h1, p⟩, ⟨h2, p2⟩⟩ fun h' tk hk => ⟨rfl, I.turnedL (t' := tk) (ch := [z, TI, TO, i1, i2]) (fun c o hb q =>
      hk c o (fun q' => hb (by
        have : c = z ∨ c = TO ∨ c = i1 ∨ c = i2 := by simpa using q'
        rcases this with e | e | e | e <;> simp [e])) q) hf⟩
  self := fun A i s Q E st h => wpAny_pyIter_zip st.1 h
def iZipM (K : PySem.W.Frag) (ta : TA) : TI := fun σ H R => ta σ H fun vs H1 => ∃ a b t u xs ys, vs = [.ref a, .ref b] ∧ SqB K t H1 a xs ∧ SqB K u H1 b ys ∧ R (ItzM K t u a b xs.length ys.length) H1
theorem pi_zipM {X : Cx} {e e2 : Expr} {ta : TA} {p pos tpos : Pos} {elts : List Expr} {kk : Nat} (hg : Gl X "zip") (hm : X.mg "zip" = none) (ha : PA X [e, e2] ta)
    (hs : starEach [e, e2] X.env = (false, eval e X.env) :: starEach [e2] X.env) (hpl : (backTo pos (starEach [e2] X.env)).any (·.1) = false) :
    PI X (.Tuple elts kk tpos) (.Call (.Name "zip" p) [e, e2] [] pos) (iZipM X.K ta) := by
  refine ⟨fun pins s σ H R I h => ?_⟩
  refine Call_ (ld_blt I hg hm PyProof.Rows.boot_zip (PyProof.Rows.callWith_type1 (thn (ha.run pos pins s σ H _ I h) fun us s1 ⟨vs, H1, I1, r1, q1⟩ => ?_) hs hpl))
  obtain ⟨a, b, t, u, xs, ys, ex, hqx, hqy, q⟩ := q1
  subst ex
  cases r1 with
  | cons r rr =>
    cases rr with
    | cons r' rr =>
      cases rr
      cases r
      cases r'
      obtain ⟨its, rv, p1, l1⟩ := SqB.inv I1 hqx
      obtain ⟨its2, rv2, p2, l2⟩ := SqB.inv I1 hqy
      have fresh5 : ∀ c, c ∈ [s1.heap.objs.size + 4, s1.heap.objs.size + 2, s1.heap.objs.size + 3, s1.heap.objs.size, s1.heap.objs.size + 1] → FpOk X pins H1 c := fun c hcm => by
        have e' : c = s1.heap.objs.size + 4 ∨ c = s1.heap.objs.size + 2 ∨ c = s1.heap.objs.size + 3 ∨ c = s1.heap.objs.size ∨ c = s1.heap.objs.size + 1 := by simpa using hcm
        have hle : s1.heap.objs.size ≤ c := by
          rcases e' with z | z | z | z | z
          · rw [z]; exact Nat.le_add_right _ _
          · rw [z]; exact Nat.le_add_right _ _
          · rw [z]; exact Nat.le_add_right _ _
          · rw [z]; exact Nat.le_refl _
          · rw [z]; exact Nat.le_add_right _ _
        exact I1.fpOk hle (I1.hok.fresh hle)
      have ap : ApM (s1.heap.objs.size + 4) (s1.heap.objs.size + 2) (s1.heap.objs.size + 3) s1.heap.objs.size (s1.heap.objs.size + 1) a b := by
        have na : ∀ k, a ≠ s1.heap.objs.size + k := fun k => Nat.ne_of_lt (Nat.lt_of_lt_of_le l1 (Nat.le_add_right _ _))
        have nb : ∀ k, b ≠ s1.heap.objs.size + k := fun k => Nat.ne_of_lt (Nat.lt_of_lt_of_le l2 (Nat.le_add_right _ _))
        have d : ∀ j k : Nat, j ≠ k → (s1.heap.objs.size + j : Nat) ≠ s1.heap.objs.size + k := fun j k h e => h (Nat.add_left_cancel e)
        have d0 : ∀ k : Nat, 0 ≠ k → (s1.heap.objs.size : Nat) ≠ s1.heap.objs.size + k := fun k h e => h (Nat.add_left_cancel (n := s1.heap.objs.size) e)
        have na0 : a ≠ s1.heap.objs.size := na 0
        have nb0 : b ≠ s1.heap.objs.size := nb 0
        have mem2 : ∀ {c x y : Addr}, c ≠ x → c ≠ y → c ∉ [x, y] := fun {c x y} h1 h2 h => by
          rcases (show c = x ∨ c = y by simpa using h) with e | e
          · exact h1 e
          · exact h2 e
        exact ⟨{ TIz := d 2 4 (by decide), TOz := d 3 4 (by decide), TITO := d 2 3 (by decide), TIi1 := (d0 2 (by decide)).symm, mem1 := by simp, zf1 := mem2 (d0 4 (by decide)).symm (na 4).symm, Tf1 := mem2 (d0 3 (by decide)).symm (na 3).symm,
                 TIi2 := d 2 1 (by decide), mem2 := by simp, zf2 := mem2 (d 4 1 (by decide)) (nb 4).symm, Tf2 := mem2 (d 3 1 (by decide)) (nb 3).symm, sep1_2 := mem2 (d0 1 (by decide)) nb0.symm, sep2_1 := mem2 (d0 1 (by decide)).symm (na 1).symm }, na0, nb 1⟩
      refine zip_begins2 (beginB t a its.toArray) (beginB u b its2.toArray) p1 p2 fun h' hz hTI hTO h1 h2 hsz hk => wpAny_pyIter_zip hz ?_
      have I2 : Inv X pins σ H1 { s1 with heap := h' } := I1.kept (t' := s1.toks) hk
      exact ⟨s1.heap.objs.size + 4, [s1.heap.objs.size + 4, s1.heap.objs.size + 2, s1.heap.objs.size + 3, s1.heap.objs.size, s1.heap.objs.size + 1], _, _, H1, rfl, I2, turn_zipM ap, ⟨hz, hTI, ⟨_, _, hTO⟩, ItB.new h1, ItB.new h2, Nat.zero_le _⟩, fresh5, q⟩
section
variable {K : PySem.W.Frag} {cm : String → Option Addr} {F : Hp} {ds es : List D} {vs us : List V} {a b : Addr}
def SfB (K : PySem.W.Frag) (t : Bool) (F : Hp) (a : Addr) (vs : List V) : Prop := match t with
  | true => F a = some (.tup vs)
  | false => SqP K F a vs
theorem SfB.sq {t : Bool} {F' H' : Hp} (h : SfB K t F a vs) (s : Sub F F') (s' : Sub F' H') : SqB K t H' a vs := by
  cases t
  · exact (s'.sqp (s.sqp (show SqP K F a vs from h))).sql
  · exact .inl (.inl (s' _ _ (s _ _ (show F a = some (.tup vs) from h))))
theorem itzM_ok {t u : Bool} (h : SfB K t F a vs) (r : Reps K cm F ds vs) (h' : SfB K u F b us) (r' : Reps K cm F es us) : ItOk K cm (ItzM K t u a b vs.length us.length) F (zipD ds es) where
  go := fun i F' H' s s' hi => by
    have hl := r.length
    have hl' := r'.length
    rw [zipD_length] at hi
    exact ⟨vs, us, vs[i]'(by omega), us[i]'(by omega), h.sq s s', h'.sq s s', rfl, rfl, List.getElem?_eq_getElem _, List.getElem?_eq_getElem _⟩
  yld := fun i d F' H' x H'' s s' e y => by
    obtain ⟨q, x0, y0, rfl, hq, rfl, y1, y2⟩ := y
    obtain ⟨d0, d1, e0, e1, rfl⟩ := zipD_at e
    obtain ⟨v, f1, rv⟩ := r.at e0
    obtain ⟨u, f2, ru⟩ := r'.at e1
    have t1 := y1 vs (h.sq s s')
    have t2 := y2 us (h'.sq s s')
    rw [f1] at t1
    rw [f2] at t2
    cases t1
    cases t2
    exact ⟨_, New.tup s' hq (.cons (rv.mono s) (.cons (ru.mono s) .nil))⟩
  stop := fun F' H' s s' => ⟨vs, us, h.sq s s', h'.sq s s', rfl, rfl, by rw [zipD_length, r.length, r'.length]; exact Nat.le_refl _⟩
end
end Z

set_option Elab.async false
set_option linter.all false
set_option maxRecDepth 100000
set_option maxHeartbeats 4000000
/-! Z12: every expression. -/
namespace Z
open PySem
open PySem.Spec
open PyProof.Rows
open L2
theorem Calls.blk {X : Cx} {cm : String → Option Addr} {k : Cl} {df : List String} {kn : String → List String} {g : GX} (c : Calls X cm k df kn g) (hc : X.calm = true) {s : Shared} {H : Hp} {scope : Scope} {cenv : PySem.Env} {fp : List Addr} : Calls (X.blk s H scope cenv fp) cm k df kn g := ⟨c.geq, c.run, c.atr, c.mtr, c.mtl, c.mkr, (fun a dd C h1 h2 h3 => by rw [(c.cmn hc).1] at h1; cases h1), c.cmn, c.xat, (fun c' h => let ⟨u, q⟩ := c.clq c' h; ⟨u, ⟨q.nm, q.isx, q.isd, q.esb⟩⟩), c.exq, c.shq⟩
section
variable {X : Cx} {K : PySem.W.Frag} {cm : String → Option Addr} {T : TP} {C : CkC} {a b c : Dn} {e1 e2 e3 : Expr} {pos : Pos} {k : Cl}
theorem sd_call (hm : T.Mono) (hx : TPx X cm T) (xo : XOk X C) (cl : Calls X cm k C.df C.kn C.g) {f : String} {l : List Dn} {xs : List Expr} {x : Str} {p : Pos} (ef : x = Str.ofString f) (hf : f ∈ C.df) (hg : gloB C.sc x = true) (hp : plainX x = true) (h : Sds X cm T l xs) (hn : ∀ e ∈ xs, noStarE e = true) :
    Sd X cm T (mkD (dCall k f l)) (.Call (.Name x p) xs [] pos) := by
  obtain ⟨ad, fd, ps, lv, h1, h2, h3, h4, h5, h6, h7, h8⟩ := cl.run f hf
  subst ef
  obtain ⟨p1, p2, _⟩ := plainX_of hp
  refine sd_mk hm ?_ rfl
  cases h with
  | nil =>
    refine peI (pe_callG0 h3 h5 xo.gd (xo.gl hg) h1 h2 h4 p1) fun σ H Q hq => ?_
    obtain ⟨ρ, F, lab, re, tk⟩ := hq
    exact call_sp hx h6 h7 (as := []) (fun i n e => by simp at e) re .nil tk
  | cons h0 n0 r =>
    refine peI (pe_callG h3 h5 xo.gd (xo.gl hg) h1 h2 h4 (Sds.as hm (k.br f) (.cons h0 n0 r)) p1 (star_cons n0) (star_none fun e he => hn e (by simp [he]))) fun σ H Q hq => ?_
    obtain ⟨ρ, F, lab, re, tk⟩ := hq
    refine ⟨ρ, F, lab, re, (tk.bnd hm).eqn.imp fun x F1 H1 lab1 ⟨ex, tk1⟩ re1 vs rs => ?_⟩
    exact call_sp hx h6 h7 (dAs_br ex) re1 rs tk1

/-! ### what is walked -/
theorem pi_e (hm : T.Mono) {tg : Expr} (h : Sd X cm T a e1) : PI X tg e1 (tzi X.K cm T (dIe a)) := by
  refine piI (pi_seq (pe_len (h.f hm))) fun σ H R hq => ?_
  obtain ⟨ρ, F, lab, re, tk⟩ := hq
  unfold dIe at tk
  rw [bind_frz (g := fun d ρ' => (ofO (itemsO d)).bind fun l => .ok (l, ρ'))] at tk
  refine ⟨ρ, F, lab, re, (tk.bnd hm).imp fun x F1 H1 lab1 tk1 re1 v rv hl => ?_⟩
  obtain ⟨l, el, tk2⟩ := tk1.pure ofO_noex
  obtain ⟨d0, ρ0⟩ := x
  cases rv with
  | lst hr rr =>
    cases el
    have hs : SqL X.K H1 _ _ := (re1.sub.sqp hr).sql
    refine ⟨_, _, rfl, .inl ⟨hs, tk2.now re1 _ (itl_ok hr rr) ?_⟩⟩
    show List.length _ ≤ _
    rw [rr.length]; exact hl _ _ rfl (.inl hs)
  | tup hr rr =>
    cases el
    have hs : SqT X.K H1 _ _ := .inl (.inl (re1.sub _ _ hr))
    refine ⟨_, _, rfl, .inr ⟨hs, tk2.now re1 _ (itt_ok hr rr) ?_⟩⟩
    show List.length _ ≤ _
    rw [rr.length]; exact hl _ _ rfl (.inr hs)
  | _ => cases el
theorem pi_rev (hm : T.Mono) {tg : Expr} {p : Pos} (h : Sd X cm T a e1) (hn : noStarE e1 = true) (hg : Gl X "reversed") (hmg : X.mg "reversed" = none) : PI X tg (.Call (.Name "reversed" p) [e1] [] pos) (tzi X.K cm T (dIrev a)) := by
  refine piI (RT.pi_revA hg hmg (pe_len (h.f hm)) (star_cons hn)) fun σ H R hq => ?_
  obtain ⟨ρ, F, lab, re, tk⟩ := hq
  unfold dIrev at tk
  rw [bind_frz (g := fun d ρ' => (ofO (itemsO d)).bind fun l => .ok (l.reverse, ρ'))] at tk
  refine ⟨ρ, F, lab, re, (tk.bnd hm).imp fun x F1 H1 lab1 tk1 re1 v rv hl => ?_⟩
  obtain ⟨l, el, tk2⟩ := tk1.pure ofO_noex
  obtain ⟨d0, ρ0⟩ := x
  cases rv with
  | lst hr rr =>
    cases el
    have hs : SqL X.K H1 _ _ := (re1.sub.sqp hr).sql
    refine ⟨_, _, rfl, .inl ⟨hs, tk2.now re1 _ (itv_ok hr rr) ?_⟩⟩
    show List.length _ ≤ _
    rw [List.length_reverse, rr.length]; exact hl _ _ rfl (.inl hs)
  | tup hr rr =>
    cases el
    have hs : SqT X.K H1 _ _ := .inl (.inl (re1.sub _ _ hr))
    refine ⟨_, _, rfl, .inr ⟨hs, tk2.now re1 _ (itvT_ok hr rr) ?_⟩⟩
    show List.length _ ≤ _
    rw [List.length_reverse, rr.length]; exact hl _ _ rfl (.inr hs)
  | _ => cases el
theorem within_of {i : Int} (h : within i = true) : -(2 ^ 62) ≤ i ∧ i < 2 ^ 62 := by
  simpa [within] using h
theorem dVs_len : ∀ {l : List Dn} {ρ ρ' : Env} {ds : List D}, dVs l ρ = .ok (ds, ρ') → ds.length = l.length
  | [], _, _, _, h => by cases h; rfl
  | a :: l, _, _, _, h => by
    unfold dVs at h
    obtain ⟨x, ex, h⟩ := bind_okE h
    obtain ⟨y, ey, h⟩ := bind_okE h
    cases h
    simp [dVs_len ey]
theorem ofO_eq {α : Type} {o : Option α} {a : α} (h : ofO o = .ok a) : o = some a := by
  cases o <;> cases h
  rfl
theorem rng_1 {d : D} {l : List D} (h : rngO [d] = some l) : ∃ j : Int, d = .int j ∧ within j = true ∧ j.toNat ≤ line ∧ l = rngL 0 1 j.toNat := by
  cases d with
  | int j =>
    simp only [rngO] at h
    split at h
    · rename_i hj
      simp only [Bool.and_eq_true, decide_eq_true_eq] at hj
      cases h
      exact ⟨j, rfl, hj.1, hj.2, rfl⟩
    · cases h
  | _ => cases h
theorem rng_2 {d e : D} {l : List D} (h : rngO [d, e] = some l) : ∃ i j : Int, d = .int i ∧ e = .int j ∧ within i = true ∧ within j = true ∧ (j - i).toNat ≤ line ∧ l = rngL i 1 (j - i).toNat := by
  cases d with
  | int i =>
    cases e with
    | int j =>
      simp only [rngO] at h
      split at h
      · rename_i hj
        simp only [Bool.and_eq_true, decide_eq_true_eq] at hj
        cases h
        exact ⟨i, j, rfl, rfl, hj.1.1, hj.1.2, hj.2, rfl⟩
      · cases h
    | _ => cases h
  | _ => cases h
theorem rng_3 {d e f : D} {l : List D} (h : rngO [d, e, f] = some l) : ∃ i j c : Int, d = .int i ∧ e = .int j ∧ f = .int c ∧ RgC i j c (Builtin.Range.rangeSize i j c).toNat ∧ (Builtin.Range.rangeSize i j c).toNat ≤ line ∧ l = rngL i c (Builtin.Range.rangeSize i j c).toNat := by
  cases d with
  | int i =>
    cases e with
    | int j =>
      cases f with
      | int c =>
        simp only [rngO] at h
        split at h
        · rename_i hj
          cases h
          exact ⟨i, j, c, rfl, rfl, rfl, ⟨hj.1, hj.2.1, hj.2.2.1, hj.2.2.2.1⟩, hj.2.2.2.2, rfl⟩
        · cases h
      | _ => cases h
    | _ => cases h
  | _ => cases h
theorem len1 {α : Type} {l : List α} (h : l.length = 1) : ∃ a, l = [a] := by
  match l, h with
  | [a], _ => exact ⟨a, rfl⟩
theorem len2 {α : Type} {l : List α} (h : l.length = 2) : ∃ a b, l = [a, b] := by
  match l, h with
  | [a, b], _ => exact ⟨a, b, rfl⟩
theorem len3 {α : Type} {l : List α} (h : l.length = 3) : ∃ a b c, l = [a, b, c] := by
  match l, h with
  | [a, b, c], _ => exact ⟨a, b, c, rfl⟩
theorem pi_rng1 (hm : T.Mono) {tg : Expr} {p : Pos} (h : Sds X cm T [a] [e1]) (n1 : noStarE e1 = true) (hg : Gl X "range") (hmg : X.mg "range" = none) : PI X tg (.Call (.Name "range" p) [e1] [] pos) (tzi X.K cm T (dIs rngO [a])) := by
  refine piI (pi_range1 hg hmg (h.vs hm) (star_cons n1)) fun σ H R hq => ?_
  obtain ⟨ρ, F, lab, re, tk⟩ := hq
  refine ⟨ρ, F, lab, re, (tk.bnd hm).eqn.imp fun x F1 H1 lab1 ⟨ex, tk1⟩ re1 vs rs => ?_⟩
  obtain ⟨l, el, tk2⟩ := tk1.pure ofO_noex
  obtain ⟨x1, x2⟩ := x
  obtain ⟨d, rfl⟩ := len1 (dVs_len ex)
  obtain ⟨j, rfl, w1, w2, rfl⟩ := rng_1 (ofO_eq el)
  cases rs with
  | cons r1 rr =>
    cases rr
    cases r1
    refine ⟨j, rfl, (within_of w1).1, (within_of w1).2, tk2.now re1 _ itr_ok ?_⟩
    show List.length _ ≤ _
    rw [rngL_length, ← line_eq]; exact w2
theorem pi_rng2 (hm : T.Mono) {tg : Expr} {p : Pos} (h : Sds X cm T [a, b] [e1, e2]) (n1 : noStarE e1 = true) (n2 : noStarE e2 = true) (hg : Gl X "range") (hmg : X.mg "range" = none) : PI X tg (.Call (.Name "range" p) [e1, e2] [] pos) (tzi X.K cm T (dIs rngO [a, b])) := by
  refine piI (pi_range2 hg hmg (h.vs hm) (by rw [star_cons n1, star_cons n2]; rfl) (star_cons n2)) fun σ H R hq => ?_
  obtain ⟨ρ, F, lab, re, tk⟩ := hq
  refine ⟨ρ, F, lab, re, (tk.bnd hm).eqn.imp fun x F1 H1 lab1 ⟨ex, tk1⟩ re1 vs rs => ?_⟩
  obtain ⟨l, el, tk2⟩ := tk1.pure ofO_noex
  obtain ⟨x1, x2⟩ := x
  obtain ⟨d, d', rfl⟩ := len2 (dVs_len ex)
  obtain ⟨i, j, rfl, rfl, w1, w2, w3, rfl⟩ := rng_2 (ofO_eq el)
  cases rs with
  | cons r1 rr =>
    cases rr with
    | cons r2 rr =>
      cases rr
      cases r1
      cases r2
      refine ⟨i, j, rfl, ⟨(within_of w1).1, (within_of w1).2, (within_of w2).1, (within_of w2).2⟩, tk2.now re1 _ itr_ok ?_⟩
      show List.length _ ≤ _
      rw [rngL_length, ← line_eq]; exact w3
theorem pi_rng3 (hm : T.Mono) {tg : Expr} {p : Pos} (h : Sds X cm T [a, b, c] [e1, e2, e3]) (n1 : noStarE e1 = true) (n2 : noStarE e2 = true) (n3 : noStarE e3 = true) (hg : Gl X "range") (hmg : X.mg "range" = none) : PI X tg (.Call (.Name "range" p) [e1, e2, e3] [] pos) (tzi X.K cm T (dIs rngO [a, b, c])) := by
  refine piI (pi_range3 hg hmg (h.vs hm) (star_cons n1) (star_none fun e he => by simp at he; rcases he with rfl | rfl <;> assumption)) fun σ H R hq => ?_
  obtain ⟨ρ, F, lab, re, tk⟩ := hq
  refine ⟨ρ, F, lab, re, (tk.bnd hm).eqn.imp fun x F1 H1 lab1 ⟨ex, tk1⟩ re1 vs rs => ?_⟩
  obtain ⟨l, el, tk2⟩ := tk1.pure ofO_noex
  obtain ⟨x1, x2⟩ := x
  obtain ⟨d, d', d'', rfl⟩ := len3 (dVs_len ex)
  obtain ⟨i, j, c, rfl, rfl, rfl, w1, w2, rfl⟩ := rng_3 (ofO_eq el)
  cases rs with
  | cons r1 rr =>
    cases rr with
    | cons r2 rr =>
      cases rr with
      | cons r3 rr =>
        cases rr
        cases r1
        cases r2
        cases r3
        refine ⟨i, j, c, _, rfl, w1, tk2.now re1 _ itc_ok ?_⟩
        show List.length _ ≤ _
        rw [rngL_length, ← line_eq]; exact w2
theorem zip_2 {d e : D} {l : List D} (h : zipO [d, e] = some l) : ∃ x y, itemsO d = some x ∧ itemsO e = some y ∧ l = zipD x y := by
  cases d <;> cases e <;> first
    | (cases h; exact ⟨_, _, rfl, rfl, rfl⟩)
    | (cases h; done)
theorem rep_items {F : Hp} {d : D} {x : List D} {v : V} (h : Rep K cm F d v) (e : itemsO d = some x) : ∃ p t vs, v = .ref p ∧ SfB K t F p vs ∧ Reps K cm F x vs := by
  cases h with
  | lst h r => cases e; exact ⟨_, false, _, rfl, h, r⟩
  | tup h r => cases e; exact ⟨_, true, _, rfl, h, r⟩
  | _ => cases e
theorem pi_zip' (hm : T.Mono) {es : List Expr} {kk : Nat} {tp p : Pos} (h : Sds X cm T [a, b] [e1, e2]) (n1 : noStarE e1 = true) (n2 : noStarE e2 = true) (hg : Gl X "zip") (hmg : X.mg "zip" = none) :
    PI X (.Tuple es kk tp) (.Call (.Name "zip" p) [e1, e2] [] pos) (tzi X.K cm T (dIs zipO [a, b])) := by
  refine piI (pi_zipM hg hmg (pa_len (h.vs hm)) (star_cons n1) (star_none fun e he => by simp at he; rw [he]; exact n2)) fun σ H R hq => ?_
  obtain ⟨ρ, F, lab, re, tk⟩ := hq
  refine ⟨ρ, F, lab, re, (tk.bnd hm).eqn.imp fun x F1 H1 lab1 ⟨ex, tk1⟩ re1 vs rs hl => ?_⟩
  obtain ⟨l, el, tk2⟩ := tk1.pure ofO_noex
  obtain ⟨x1, x2⟩ := x
  obtain ⟨d, d', rfl⟩ := len2 (dVs_len ex)
  obtain ⟨x, y, i1, i2, rfl⟩ := zip_2 (ofO_eq el)
  cases rs with
  | cons r1 rr =>
    cases rr with
    | cons r2 rr =>
      cases rr
      obtain ⟨p1, t1, vs1, rfl, s1, q1⟩ := rep_items r1 i1
      obtain ⟨p2, t2, vs2, rfl, s2, q2⟩ := rep_items r2 i2
      have s1' := s1.sq (Sub.refl F1) re1.sub
      refine ⟨_, _, t1, t2, vs1, vs2, rfl, s1', s2.sq (Sub.refl F1) re1.sub, tk2.now re1 _ (itzM_ok s1 q1 s2 q2) ?_⟩
      show List.length _ ≤ _
      rw [zipD_length, q1.length]
      refine Nat.le_trans (Nat.min_le_left _ _) (hl p1 _ ?_)
      cases t1
      · exact .inl s1'
      · exact .inr s1'
end
/-- enumerate(v), any v that begins -/
theorem meets_enum1 {v : Value} {o : Obj} {Hh : Heap → Prop} (B : Begins v o Hh) :
    Meets (Builtin.«enumerate.__new__» ⟨[.type "enumerate", v], []⟩) (fun _ R s => Hh s.heap ∧
      R (.ok (.ret (.ref (s.heap.push o).objs.size))) { s with heap := (s.heap.push o).push { cls := .type "enumerate", data := .fields #[.none, .bool false, .ref s.heap.objs.size, rawInt 0, .none, .none] } }) :=
  .of_wp fun prog w A R s z => by
    obtain ⟨hp, g, d, tk, os⟩ := s
    obtain ⟨hv, z⟩ := z
    have hsub := sub_enumerate
    have q1 : ∀ {A' : Around} {E : Value → Shared → Prop} {Q : Value → Shared → Prop}, Q (.ref hp.objs.size) ⟨hp.push o, g, d, tk, os⟩ → wpAny (model prog w) A' (pyIter v) Q E ⟨hp, g, d, tk, os⟩ :=
      fun q => B.iter prog w _ _ ⟨hp, g, d, tk, os⟩ _ hv q
    wp_walk using q1
    refine wpAny_stack_any fun st => wpAny_pure ?_
    split
    · rename_i c _ _ _ _ _
      cases (c == Value.type "enumerate") <;> (wp_walk using q1; exact ⟨_, rfl, z⟩)
    · wp_walk using q1
      exact ⟨_, rfl, z⟩
theorem call_enumT {prog : Program} {w : World} {A : Around} {E : Value → Shared → Prop} {s : Shared} {a : Addr} {items : Array Value} {Q : Value → Shared → Prop} (ht : s.heap.IsTuple a items)
    (z : ∀ h', IsEnum h' (s.heap.objs.size + 1) s.heap.objs.size 0 .none → h'.IsTupleIter s.heap.objs.size a 0 → (∀ b o, s.heap.get? b = some o → h'.get? b = some o) → Q (.ref (s.heap.objs.size + 1)) { s with heap := h' }) :
    wpAny (model prog w) A (call (.type "enumerate") [.ref a]) Q E s := by
  refine callType_new PySem.F.called_enumerate (by decide) (PySem.F.typeCall_enumerate_1 _) (PySem.F.newCall_enumerate_1 _) (fun obj => PySem.F.args_object_init_2 obj _) PySem.F.entry_enumerate_new (meets_enum1 (begins_tuple a items)) ⟨ht, ?_⟩
  have sz : (s.heap.push { cls := .type "tuple_iterator", data := .fields #[.ref a, .int 0 0] }).objs.size = s.heap.objs.size + 1 := Heap.size_push ..
  show _ ∧ _
  rw [sz]
  have en : IsEnum ((s.heap.push { cls := .type "tuple_iterator", data := .fields #[.ref a, .int 0 0] }).push { cls := .type "enumerate", data := .fields #[.none, .bool false, .ref s.heap.objs.size, rawInt 0, .none, .none] }) (s.heap.objs.size + 1) s.heap.objs.size 0 .none := by
    have g := Heap.get?_push_size (s.heap.push { cls := .type "tuple_iterator", data := .fields #[.ref a, .int 0 0] }) (o := { cls := .type "enumerate", data := .fields #[.none, .bool false, .ref s.heap.objs.size, rawInt 0, .none, .none] }) rfl
    rwa [sz] at g
  exact ⟨⟨_, en, rfl⟩, z _ en ⟨_, Heap.get?_push_of_some _ (Heap.get?_push_size _ rfl), rfl, rfl⟩ fun b o x => Heap.get?_push_of_some _ (Heap.get?_push_of_some _ x)⟩
section
variable {X : Cx} {K : PySem.W.Frag} {cm : String → Option Addr} {T : TP} {C : CkC} {a b c : Dn} {e1 e2 e3 : Expr} {pos : Pos} {k : Cl}
/-- the tuple at a, each item in a new pair -/
def IteT (K : PySem.W.Frag) (a : Addr) (n : Nat) : It :=
  ⟨fun i H => ∃ (xs : List V) (x : V), SqT K H a xs ∧ xs.length = n ∧ xs[i]? = some x, fun i H v H' => ∃ (q : Addr) (x : V), v = .ref q ∧ H q = none ∧ H' = upd H q (.tup [.int (i : Nat), x]) ∧ ∀ xs, SqT K H a xs → xs[i]? = some x,
    fun i H => ∃ xs : List V, SqT K H a xs ∧ xs.length = n ∧ n ≤ i⟩
theorem turn_enumT {P : Program} {w : World} {K : PySem.W.Frag} {elts : List Expr} {kk : Nat} {tpos : Pos} (a e it : Addr) (n : Nat) :
    Turn P w K (.Tuple elts kk tpos) (IteT K a n) [e, it] e (fun i h => (∃ old, IsEnum h e it (0 + ((i : Nat) : Int)) old) ∧ h.IsTupleIter it a i ∧ e ≠ it ∧ a ≠ it ∧ a ≠ e ∧ i ≤ n) where
  mem := by simp
  obj := fun i h st b hb => by
    obtain ⟨⟨old, he⟩, ⟨o, ho, hc, hd⟩, _⟩ := st
    rcases (show b = e ∨ b = it by simpa using hb) with z | z
    · rw [z]; exact ⟨_, he, fun v q => nomatch q⟩
    · rw [z]; exact ⟨o, ho, fun v q => by rw [hd] at q; cases q⟩
  keep := fun i h h' st kp => let ⟨⟨old, he⟩, hi, hne⟩ := st; ⟨⟨old, kp e (by simp) _ he⟩, hi.at fun o q => kp it (by simp) o q, hne⟩
  item := by
    intro X hP hw hK hc i pins s σ H E I hf st hg
    subst hP hw hK
    obtain ⟨hE, hit, n1, n2, n3, hle0⟩ := st
    obtain ⟨xs, x, hq, hn, hx⟩ := hg
    have hin : i < n := by rw [← hn]; exact (List.getElem?_eq_some_iff.mp hx).1
    obtain ⟨its, rv, p, hz⟩ := I.tuple hq
    obtain ⟨u, hu, ru⟩ := rv.get hx
    have hlt : i < its.toArray.size := by
      have := (List.getElem?_eq_some_iff.mp hu).1
      simpa using this
    have W := WalksT.enumFrom (prog := X.prog) (w := X.w) (A := X.A) 0 (Draws.tuple (A := X.A.in1) (I.ok.hd hc) it a n2 its.toArray) e n1 (by simp [n1, Ne.symm n3]) (by simp)
    refine W.item i s _ _ hlt ⟨hE, hit, p⟩ fun q vals h' tk hP hle hT hM hk => ?_
    refine ⟨_, rfl, W.go elts kk tpos i q { s with heap := h', toks := tk } _ _ hM fun h'' hS hk2 => ?_⟩
    obtain ⟨t, v, hv, rfl⟩ := hP
    have hv' : its[i]? = some v := by simpa using hv
    rw [hu] at hv'
    cases hv'
    have nqe : q ∉ [e, it] := W.apart i q h' hM
    obtain ⟨oq, hoq, hcq, nq, hdq⟩ := hT
    have nw : ObjOk X.prog X.w (upd H q (.tup [.int (i : Nat), x])) h'' q (.tup [.int (i : Nat), x]) :=
      ⟨by show 2 ≤ sizeLine; decide, [.int (0 + (i : Int)) t, u], .cons ⟨t, by rw [Int.zero_add]⟩ (.cons ru .nil), ⟨oq, hk2 q oq nqe hoq, hcq, nq, hdq⟩⟩
    have I1 : Inv X pins σ (upd H q (.tup [.int (i : Nat), x])) { s with heap := h'', toks := tk } :=
      I.turnedNew (ch := [e, it]) (fun b ob hb z => hk2 b ob hb (hk b ob hb z)) hf hle nw
    refine ⟨.ref q, _, I1, rfl, ⟨q, x, rfl, I.hok.fresh hle, rfl, fun ys hy => by rw [I.tuple_inj hy hq]; exact hx⟩, ⟨hS.1, hS.2.1, n1, n2, n3, hin⟩, fun b hb => ?_⟩
    have hbl : b < s.heap.objs.size := by
      rcases (show b = e ∨ b = it by simpa using hb) with z | z
      · obtain ⟨old, he⟩ := hE; rw [z]; exact Heap.lt_size he
      · obtain ⟨_, z', _⟩ := hit; rw [z]; exact Heap.lt_size z'
    rw [upd_ne (Nat.ne_of_lt (Nat.lt_of_lt_of_le hbl hle))]
    exact (hf b hb).1
  done := by
    intro X hP hw hK hc i pins s σ H E I hf st hg
    subst hP hw hK
    obtain ⟨hE, hit, n1, n2, n3, hle0⟩ := st
    obtain ⟨xs, hq, hn, hx⟩ := hg
    obtain ⟨its, rv, p, hz⟩ := I.tuple hq
    have ei : i = its.toArray.size := by
      rw [List.size_toArray, ← rv.length]
      omega
    subst ei
    obtain ⟨old, he⟩ := hE
    obtain ⟨f0, f1, f2, f3, f4, f5⟩ := hf it (by simp)
    exact wpAny_pyNext_enum_endD (Draws.tuple (prog := X.prog) (w := X.w) (A := X.A.in1) (I.ok.hd hc) it a n2 its.toArray) he ⟨hit, p⟩ fun h' eb => ⟨rfl, I.turned (t' := s.toks) (fun b o hb z => eb b o hb z) f0 f1 f3 f4 f5⟩
  self := fun _ _ _ _ _ st h => let ⟨⟨_, he⟩, _⟩ := st; wpAny_pyIter_enum he h
def iEnumA (K : PySem.W.Frag) (ta : TA) : TI := fun σ H R => ta σ H fun vs H1 => ∃ a xs, vs = [V.ref a] ∧ ((SqL K H1 a xs ∧ R (Ite K a) H1) ∨ (SqT K H1 a xs ∧ R (IteT K a xs.length) H1))
theorem pi_enumA {e : Expr} {ta : TA} {p pos tpos : Pos} {elts : List Expr} {kk : Nat} (hg : Gl X "enumerate") (hm : X.mg "enumerate" = none) (ha : PA X [e] ta) (hs : starEach [e] X.env = [(false, eval e X.env)]) :
    PI X (.Tuple elts kk tpos) (.Call (.Name "enumerate" p) [e] [] pos) (iEnumA X.K ta) := by
  refine ⟨fun pins s σ H R I z => Call_ (ld_blt I hg hm boot_enumerate (PyProof.Rows.callWith_type1 (thn (ha.run pos pins s σ H _ I z) fun us s1 ⟨vs, H1, I1, r1, a, xs, ev, q1⟩ => ?_) hs rfl))⟩
  subst ev
  rw [Vals.ref1 r1]
  have fr2 : ∀ b ∈ [s1.heap.objs.size + 1, s1.heap.objs.size], FpOk X pins H1 b := fun b hb => by
    have le : s1.heap.objs.size ≤ b := by
      rcases (show b = s1.heap.objs.size + 1 ∨ b = s1.heap.objs.size by simpa using hb) with z | z <;> rw [z]
      · exact Nat.le_succ _
      · exact Nat.le_refl _
    exact I1.fpOk le (I1.hok.fresh le)
  rcases q1 with ⟨hq, q⟩ | ⟨hq, q⟩
  · obtain ⟨its, rv, pl, _⟩ := I1.list hq
    exact call_enumerate_list pl.isList fun h' he hit _ hk => wpAny_pyIter_enum he ⟨_, _, _, _, H1, rfl, I1.kept (t' := s1.toks) hk, turn_enum a (s1.heap.objs.size + 1) s1.heap.objs.size, ⟨⟨.none, he⟩, hit, Nat.succ_ne_self _⟩, fr2, q⟩
  · obtain ⟨its, rv, pl, _⟩ := I1.tuple hq
    obtain ⟨o, ho, _⟩ := id pl
    have hlt : a < s1.heap.objs.size := Heap.lt_size ho
    exact call_enumT (show s1.heap.IsTuple a its.toArray from pl) fun h' he hit hk => wpAny_pyIter_enum he ⟨_, _, _, _, H1, rfl, I1.kept (t' := s1.toks) hk, turn_enumT a (s1.heap.objs.size + 1) s1.heap.objs.size xs.length,
      ⟨⟨.none, he⟩, hit, Nat.succ_ne_self _, Nat.ne_of_lt hlt, Nat.ne_of_lt (Nat.lt_succ_of_lt hlt), Nat.zero_le _⟩, fr2, q⟩
theorem iteT_ok {F : Hp} {a : Addr} {vs : List V} {ds : List D} (h : F a = some (.tup vs)) (r : Reps K cm F ds vs) : ItOk K cm (IteT K a vs.length) F (enumD 0 ds) where
  go := fun i F' H' s s' hi => by
    have hl := r.length
    rw [enumD_length] at hi
    exact ⟨vs, vs[i]'(by omega), .inl (.inl (s' _ _ (s _ _ h))), rfl, List.getElem?_eq_getElem _⟩
  yld := fun i d F' H' x H'' s s' e y => by
    obtain ⟨q, y0, rfl, hq, rfl, y⟩ := y
    obtain ⟨d0, e0, rfl⟩ := enumD_at e
    obtain ⟨v, e1, rv⟩ := r.at e0
    have z := y vs (.inl (.inl (s' _ _ (s _ _ h))))
    rw [e1] at z
    cases z
    refine ⟨_, New.tup s' hq (.cons ?_ (.cons (rv.mono s) .nil))⟩
    rw [Int.zero_add]
    exact .int _
  stop := fun F' H' s s' => ⟨vs, .inl (.inl (s' _ _ (s _ _ h))), rfl, by rw [enumD_length, r.length]; exact Nat.le_refl _⟩
theorem pi_enum' (hm : T.Mono) {es : List Expr} {kk : Nat} {tp p : Pos} (h : Sds X cm T [a] [e1]) (n1 : noStarE e1 = true) (hg : Gl X "enumerate") (hmg : X.mg "enumerate" = none) :
    PI X (.Tuple es kk tp) (.Call (.Name "enumerate" p) [e1] [] pos) (tzi X.K cm T (dIs enumO [a])) := by
  refine piI (pi_enumA hg hmg (pa_len (h.vs hm)) (star_cons n1)) fun σ H R hq => ?_
  obtain ⟨ρ, F, lab, re, tk⟩ := hq
  refine ⟨ρ, F, lab, re, (tk.bnd hm).eqn.imp fun x F1 H1 lab1 ⟨ex, tk1⟩ re1 vs rs hl => ?_⟩
  obtain ⟨l, el, tk2⟩ := tk1.pure ofO_noex
  obtain ⟨x1, x2⟩ := x
  obtain ⟨d, rfl⟩ := len1 (dVs_len ex)
  cases d with
  | lst x =>
    cases el
    cases rs with
    | cons r1 rr =>
      cases rr
      cases r1 with
      | lst h1 q1 =>
        have s1 : SqL X.K H1 _ _ := (re1.sub.sqp h1).sql
        refine ⟨_, _, rfl, .inl ⟨s1, tk2.now re1 _ (ite_ok h1 q1) ?_⟩⟩
        show List.length _ ≤ _
        rw [enumD_length, q1.length]
        exact hl _ _ (.inl s1)
  | tup x =>
    cases el
    cases rs with
    | cons r1 rr =>
      cases rr
      cases r1 with
      | tup h1 q1 =>
        have s1 : SqT X.K H1 _ _ := .inl (.inl (re1.sub _ _ h1))
        refine ⟨_, _, rfl, .inr ⟨s1, tk2.now re1 _ (iteT_ok h1 q1) ?_⟩⟩
        show List.length _ ≤ _
        rw [enumD_length, q1.length]
        exact hl _ _ (.inr s1)
  | _ => cases el

/-! ### comprehensions -/
def TPF : TP := fun _ _ _ _ _ _ _ => False
theorem TPF.mono : TPF.Mono := fun _ _ _ _ _ _ _ _ _ _ h _ => h
theorem dIf_pts {l : List Dn} {es : List Expr} (hl : es.length < 2) (h : Sds X cm TPF l es) : PTs X es (tzt X.K cm TPF (dIf l)) := by
  match l, es, h with
  | [], [], .nil => exact ptsI pts_nil fun σ H Q ⟨ρ, F, lab, re, tk⟩ => tk.now re
  | [a], [e], .cons h _ .nil => exact pts_one h.t
  | _ :: _ :: _, _, .cons _ _ (.cons _ _ _) => exfalso; simp only [List.length_cons] at hl; omega
theorem setFree_of {e : Expr} {env : PySem.Env} (h : setFree e = true) : ∀ x, foldedSetIterable e env x = pure x := fun x => by
  cases e <;> first | rfl | cases h
theorem ownN_2 (N : List Str) (own : List Nat) : (ownN N own).map (·.2) = own := by
  unfold ownN
  rw [List.map_map]
  exact List.map_id own
theorem comp_rd (hm : T.Mono) {t : Z.T} {it : Env → R (List D × Env)} {cs : List Dn} {e : Dn} {own : List Nat} (hown : ∀ i ∈ slots t, i ∈ own) {σ : L2.St} {H : Hp} {Q : VK} (hq : tz K cm T (dComp e t it cs own) σ H Q) :
    tLc (tzi K cm T it) (gZ K cm t) (tzt K cm TPF (dIf cs)) (tz K cm TPF e.v) own σ H Q := by
  obtain ⟨ρ, F, lab, re, tk⟩ := hq
  refine ⟨ρ, F, lab, re, (tk.bnd hm).imp fun x F1 H1 lab1 tk1 re1 J hJ hlen D hD => ?_⟩
  have hcm : ∃ y, cmpL t own (dTurn cs e) x.1 (wipeE x.2 own) = .ok y := by
    cases er : cmpL t own (dTurn cs e) x.1 (wipeE x.2 own) with
    | ok y => exact ⟨y, rfl⟩
    | _ => rw [er] at tk1; exact absurd rfl tk1.1
  obtain ⟨⟨l, ρe⟩, ecm⟩ := hcm
  rw [ecm] at tk1
  have tk1 : Tk T σ F1 H1 lab1 (.ok (W.ol l, restE x.2 ρe own)) _ := tk1
  have fD := none_of_sub re1.sub hD
  have ne : ∀ {a o}, H1 a = some o → a ≠ D := fun ha => ne_of_none ha hD
  refine ⟨fun i m H => ∃ ρ F lab accD accV rest, m = x.1.length - i ∧ i ≤ x.1.length ∧ RE K cm F H lab (wipeE ρ own) (wipe σ own) ∧ Stp F1 H1 lab1 F H lab ∧ H D = some (.lst accV) ∧ F D = none ∧ lab D = none ∧
    Reps K cm F accD accV ∧ cmpL t own (dTurn cs e) (x.1.drop i) ρ = .ok (rest, ρe) ∧ accD ++ rest = l ∧ accD.length ≤ i, ⟨x.1.length, ?_⟩, ?_⟩
  · refine ⟨wipeE x.2 own, F1, fun a => if a = D then none else lab1 a, [], [], l, by simp, Nat.zero_le _, ?_, ⟨Sub.refl _, fun a o ha hf hl => ⟨by rw [upd_ne (ne ha)]; exact ha, hf, by simp only [if_neg (ne ha)]; exact hl⟩⟩, upd_same, fD, if_pos rfl, .nil, by simpa using ecm, rfl, Nat.zero_le _⟩
    have h1 := (re1.wipe own).wipe own
    rw [wipe_wipe] at h1
    exact h1.keep (Sub.refl _) (re1.sub.trans (Sub.new hD)) fun i a o j hl ha hf => ⟨by rw [upd_ne (ne ha)]; exact ha, hf, by simp only [if_neg (ne ha)]; exact hl⟩
  · rintro i m H2 ⟨ρ2, F2, lab2, accD, accV, rest, rfl, hi, re2, st2, hD2, fD2, lD2, ra, ec, el, hacc⟩
    by_cases hlt : i < x.1.length
    · right
      have hdrop : x.1.drop i = x.1[i] :: x.1.drop (i + 1) := List.drop_eq_getElem_cons hlt
      rw [hdrop] at ec
      unfold cmpL at ec
      obtain ⟨ρ3, e3, ec⟩ := bind_okE ec
      obtain ⟨⟨o4, ρ4⟩, e4, ec⟩ := bind_okE ec
      obtain ⟨⟨rest', ρ5⟩, e5, ec⟩ := bind_okE ec
      have ec1 : o4.toList ++ rest' = rest := congrArg (fun r => match r with | R.ok (a, _) => a | _ => []) ec
      have ec2 : ρ5 = ρe := congrArg (fun r => match r with | R.ok (_, a) => a | _ => []) ec
      rw [ec2] at e5
      subst ec1
      have hx : x.1[i]? = some x.1[i] := List.getElem?_eq_getElem hlt
      refine ⟨hJ.go i F2 H2 st2.ff re2.sub hlt, fun H' => ∃ ρ F lab accD accV rest, RE K cm F H' lab (wipeE ρ own) (wipe σ own) ∧ Stp F1 H1 lab1 F H' lab ∧ H' D = some (.lst accV) ∧ F D = none ∧ lab D = none ∧
        Reps K cm F accD accV ∧ cmpL t own (dTurn cs e) (x.1.drop (i + 1)) ρ = .ok (rest, ρe) ∧ accD ++ rest = l ∧ accD.length ≤ i + 1, fun H' h' => ?_, fun v H3 y3 => ?_⟩
      · obtain ⟨ρ, F, lab, accD, accV, rest, h1⟩ := h'
        exact ⟨x.1.length - (i + 1), by omega, ρ, F, lab, accD, accV, rest, rfl, hlt, h1⟩
      · obtain ⟨F3, n3⟩ := hJ.yld i _ F2 H2 v H3 st2.ff re2.sub hx y3
        obtain ⟨lab3, s3, re3, rw3⟩ := n3.step re2
        refine ⟨wipeE ρ2 own, ρ3, F3, lab3, _, re3, rw3, e3, fun σ4 lab4 s4 re4 off => ⟨by rw [off.wipe hown, wipe_wipe], ?_⟩⟩
        have hw : wipe σ4 own = wipe σ own := by rw [off.wipe hown, wipe_wipe]
        unfold dTurn at e4
        obtain ⟨⟨b, ρb⟩, eb, e4⟩ := bind_okE e4
        refine ⟨ρ3, F3, lab4, re4, Tk.of_ok eb fun F5 H5 lab5 s5 re5 => ?_⟩
        have sD := (s3.trans (s4.trans s5)).fr D _ hD2 fD2 lD2
        have st5 := st2.trans (s3.trans (s4.trans s5))
        have rr5 := ra.mono (s3.ff.trans (s4.ff.trans s5.ff))
        cases b with
        | false =>
          have e41 : none = o4 := congrArg (fun r => match r with | R.ok (a, _) => a | _ => none) e4
          have e42 : ρb = ρ4 := congrArg (fun r => match r with | R.ok (_, a) => a | _ => []) e4
          subst e41
          rw [← e42] at e5
          show ∃ ρ F lab accD accV rest, _
          refine ⟨ρb, F5, lab5, accD, accV, rest', ?_, st5, sD.1, sD.2.1, sD.2.2, rr5, e5, el, by omega⟩
          have := re5.wipe own
          rw [hw] at this
          exact this
        | true =>
          obtain ⟨⟨w, ρw⟩, ew, e4⟩ := bind_okE e4
          have e41 : some w.frz = o4 := congrArg (fun r => match r with | R.ok (a, _) => a | _ => none) e4
          have e42 : ρw = ρ4 := congrArg (fun r => match r with | R.ok (_, a) => a | _ => []) e4
          subst e41
          rw [← e42] at e5
          show tz K cm TPF e.v σ4 H5 _
          refine ⟨ρb, F5, lab5, re5, Tk.of_ok ew fun F6 H6 lab6 s6 re6 v6 rv6 => ?_⟩
          have sD6 := s6.fr D _ sD.1 sD.2.1 sD.2.2
          obtain ⟨F7, s7, re7, rv7⟩ := hand_frz re6 rv6
          have sD7 := s7.fr D _ sD6.1 sD6.2.1 sD6.2.2
          refine ⟨accV, sD6.1, ?_, ρw, F7, lab6, accD ++ [w.frz], accV ++ [v6], rest', ?_, ?_, upd_same, sD7.2.1, sD7.2.2, (rr5.mono (s6.ff.trans s7.ff)).append (.cons rv7 .nil), e5, by rw [List.append_assoc]; exact el, by simp; omega⟩
          · rw [← ra.length]; omega
          · have h1 := re7.wipe own
            rw [hw] at h1
            refine h1.keep (Sub.refl _) (fun a o ha => ?_) fun i a o j hl ha hf => ?_
            · have : a ≠ D := fun e => by rw [e, sD7.2.1] at ha; cases ha
              rw [upd_ne this]
              exact re7.sub a o ha
            · have : a ≠ D := fun e => by rw [e, sD7.2.2] at hl; cases hl
              exact ⟨by rw [upd_ne this]; exact ha, hf, hl⟩
          · have st7 := st5.trans (s6.trans s7)
            refine ⟨st7.ff, fun a o ha hf hl => ?_⟩
            obtain ⟨k1, k2, k3⟩ := st7.fr a o ha hf hl
            exact ⟨by rw [upd_ne (ne ha)]; exact k1, k2, k3⟩
    · left
      have e : i = x.1.length := by omega
      subst e
      refine ⟨hJ.stop F2 H2 st2.ff re2.sub, ?_⟩
      rw [List.drop_length] at ec
      unfold cmpL at ec
      cases ec
      rw [List.append_nil] at el
      subst el
      have sL : Stp F1 H1 lab1 F2 H2 (fun a => if a = D then some (0, 0) else lab2 a) := ⟨st2.ff, fun a o ha hf hl => by
        obtain ⟨k1, k2, k3⟩ := st2.fr a o ha hf hl
        exact ⟨k1, k2, by simp only [if_neg (ne ha)]; exact k3⟩⟩
      refine tk1.at_ sL ?_ _ ⟨D, accV, rfl, if_pos rfl, hD2, fD2, ra⟩
      refine RE.rest re1 (re2.keep (Sub.refl _) re2.sub fun i a o j hl ha hf => ⟨ha, hf, ?_⟩) st2.ff
      have : a ≠ D := fun e => by rw [e, lD2] at hl; cases hl
      simp only [if_neg this]; exact hl
theorem sd_comp (hm : T.Mono) (xo : XOk X C) (hca : C.ca = true) {t : Z.T} {it : Env → R (List D × Env)} {cs : List Dn} {e : Dn} {own : List Nat} {elt tg iter : Expr} {ifs : List Expr} {scope : Scope}
    (hi : PI X tg iter (tzi X.K cm T it)) (hb : blkC C.N C.sc scope (ownN C.N own) = true) (ht : ckT { C with sc := scope } t tg = true) (hown : ∀ i ∈ slots t, i ∈ own) (hl : ifs.length < 2) (hs : setFree iter = true)
    (hcs : ∀ (s : Shared) (H : Hp) (c' : Addr) (cl : List (Str × Addr)) (fp : List Addr), Sds (X.blk s H scope (compEnvC scope cl c' X.env) fp) cm TPF cs ifs)
    (he : ∀ (s : Shared) (H : Hp) (c' : Addr) (cl : List (Str × Addr)) (fp : List Addr), Sd (X.blk s H scope (compEnvC scope cl c' X.env) fp) cm TPF e elt) :
    Sd X cm T (mkD (dComp e t it cs own)) (.ListComp elt [⟨tg, iter, ifs, 0⟩] scope pos) := by
  have hlc := pe_lc (pos := pos) (g := gZ X.K cm t) (tt := tzt X.K cm TPF (dIf cs)) (te := tz X.K cm TPF e.v) (xo.calm hca) (xo.n ▸ xo.nd) hi (xo.blkOk hb) (fun s H C' cl fp => pg_Z (cm := cm) xo.blk t tg ht) (fun s H C' cl fp => dIf_pts hl (hcs s H C' cl fp)) (fun s H C' cl fp => (he s H C' cl fp).v) (setFree_of hs)
  rw [ownN_2] at hlc
  exact sd_mk hm (peI hlc fun σ H Q hq => comp_rd hm hown hq) rfl
/-- name = [..] on one line -/
theorem ps_compSet (hm : T.Mono) (xo : XOk X C) (hca : C.ca = true) {t : Z.T} {it : Env → R (List D × Env)} {cs : List Dn} {e : Dn} {own : List Nat} {elt tg iter : Expr} {ifs : List Expr} {scope : Scope} {i : Nat} {y : Str} {py spos : Pos}
    (hy : C.N[i]? = some y) (hyl : C.sc.names.lookup y = some .local) (hline : (py.line == pos.line) = true) (ha : (scope.names.any fun (n, k) => n == y && (k == .local || k == .cell)) = false)
    (hi : PI X tg iter (tzi X.K cm T it)) (hb : blkC C.N C.sc scope (ownN C.N own) = true) (ht : ckT { C with sc := scope } t tg = true) (hown : ∀ i ∈ slots t, i ∈ own) (hl : ifs.length < 2) (hs : setFree iter = true)
    (hcs : ∀ (s : Shared) (H : Hp) (c' : Addr) (cl : List (Str × Addr)) (fp : List Addr), Sds (X.blk s H scope (compEnvC scope cl c' X.env) fp) cm TPF cs ifs)
    (he : ∀ (s : Shared) (H : Hp) (c' : Addr) (cl : List (Str × Addr)) (fp : List Addr), Sd (X.blk s H scope (compEnvC scope cl c' X.env) fp) cm TPF e elt) :
    PS X (.Assign [.Name y py] (.ListComp elt [⟨tg, iter, ifs, 0⟩] scope pos) spos) (tAsg (tz X.K cm T (dComp e t it cs own)) (gName i)) := by
  refine ⟨fun pins s σ H D I h => ?_⟩
  have hlc := ps_setLc (pos := pos) (spos := spos) (py := py) (i := i) (y := y) (g := gZ X.K cm t) (tt := tzt X.K cm TPF (dIf cs)) (te := tz X.K cm TPF e.v) (xo.calm hca) (xo.n ▸ xo.nd) (by rw [xo.n]; exact hy) ((xo.sc _ _ hyl).1 (by decide))
    (sw_true I.ok.kind ((xo.sc _ _ hyl).1 (by decide)) hline ha) hi (xo.blkOk hb) (fun s H C' cl fp => pg_Z (cm := cm) xo.blk t tg ht) (fun s H C' cl fp => dIf_pts hl (hcs s H C' cl fp)) (fun s H C' cl fp => (he s H C' cl fp).v) (setFree_of hs)
  rw [ownN_2] at hlc
  exact hlc.run pins s σ H D I (comp_rd hm hown h)

/-! ### isinstance -/
theorem tyN_boot {t : Ty} {n : String} (h : tyN t = some n) : bootBuiltins (Str.ofString n) = some (.type n) := by
  cases t <;> cases h <;> kernel_rfl
def dTy : D → String
  | .non => "NoneType"
  | .bl _ => "bool"
  | .int _ => "int"
  | .str _ => "str"
  | .tup _ => "tuple"
  | .lst _ => "list"
  | .dic _ _ => "dict"
  | .ins _ _ => ""
theorem vw_ty {F H : Hp} {d : D} {v : V} (s : Sub F H) (h : Vw K cm F H d v) (hi : isIns d = false) : TyX K H v (.type (dTy d)) := by
  cases d with
  | non => cases h.non; exact .base .non
  | bl b => cases h.bl; exact .base (.bl b)
  | int i => cases h.int; exact .base (.int i)
  | str x => cases h.str; exact .base (.str x)
  | tup l =>
    obtain ⟨p, vs, rfl, hp, _⟩ := h.tup s
    exact .base (.tup (s _ _ hp))
  | lst l =>
    obtain ⟨p, vs, rfl, hp, _⟩ := h.lst s
    rcases hp with (hp | ⟨o, hp⟩) | ⟨its, n, hk, _⟩
    · exact .base (.lst hp)
    · exact .base (.frz hp)
    · exact .kList hk rfl
  | dic t l =>
    obtain ⟨p, rfl, hp⟩ := h.dic s
    cases t with
    | false => obtain ⟨m, e, _⟩ := hp; exact .base (.dK e)
    | true => obtain ⟨m, e, _⟩ := hp; exact .base (.dT e)
  | ins _ _ => cases hi
theorem kit_isa {t : Ty} {n : String} {d : D} (h : tyN t = some n) (hi : isIns d = false) : kitB (dTy d) n = some (isaD t d) := by
  cases t <;> cases h <;> cases d <;> first | (cases hi; done) | (simp only [dTy, isaD]; decide +kernel)
theorem kitAny_isa {d : D} (hi : isIns d = false) : ∀ {ts : List Ty} {ns : List String}, ts.map tyN = ns.map some → PySem.W.kitAny K (.type (dTy d)) (ns.map Value.type) = some (ts.any fun t => isaD t d)
  | [], [], _ => kitAny_nil
  | t :: ts, n :: ns, h => by
    simp only [List.map_cons, List.cons.injEq] at h
    have h1 := kit_isa h.1 hi
    have h2 := kitAny_isa hi h.2
    rw [List.map_cons, List.any_cons]
    refine kitAny_cons (kit_ty h1) (fun e => ?_) fun e => ?_
    · rw [e, Bool.false_or]; exact h2
    · rw [e, Bool.true_or]
  | [], _ :: _, h => by simp at h
  | _ :: _, [], h => by simp at h
theorem pe_ty1 (xo : XOk X C) {t : Ty} {e : Expr} (h : tyB1 C t e = true) : ∃ n, tyN t = some n ∧ PE X e (tC (.ty n)) ∧ noStarE e = true := by
  unfold tyB1 at h
  split at h
  · rename_i x p
    split at h
    · rename_i n en
      obtain ⟨b1, b2, b3, b4, b5⟩ := xo.blt h
      exact ⟨n, en, pe_bltn b1 b2 (by rw [b3]; exact tyN_boot en) rfl b5 b4, rfl⟩
    · cases h
  · cases h
theorem pa_tys (xo : XOk X C) : ∀ {ts : List Ty} {es : List Expr}, tyBs C ts es = true → ∃ ns : List String, ts.map tyN = ns.map some ∧ PA X es (fun _ H Q => Q (ns.map V.ty) H)
  | [], [], _ => ⟨[], rfl, paI pa_nil fun σ H Q q => q⟩
  | t :: ts, e :: es, h => by
    simp only [tyBs, Bool.and_eq_true] at h
    obtain ⟨n, e1, p1, n1⟩ := pe_ty1 xo h.1
    obtain ⟨ns, e2, p2⟩ := pa_tys xo h.2
    exact ⟨n :: ns, by simp [e1, e2], paI (pa_cons p1 p2 (star_cons n1)) fun σ H Q q => q⟩
  | [], _ :: _, h => by simp [tyBs] at h
  | _ :: _, [], h => by simp [tyBs] at h
theorem paired_tys : ∀ ns : List String, Paired ClsV (ns.map V.ty) (ns.map Value.type)
  | [] => .nil
  | n :: ns => .cons (.ty n) (paired_tys ns)
theorem dBi_isa {ts : List Ty} {ρ : Env} : dBi (.isa ts) [a] ρ = (a.o ρ).bind fun x => (look x.2 x.1).bind fun d => if isIns d then .bad else .ok (.sh (.bl (ts.any fun t => isaD t d)), x.2) := by
  unfold dBi dOs dOs
  cases a.o ρ with
  | ok x =>
    simp only [bind_ok]
    unfold looks looks
    cases look x.2 x.1 with
    | ok d =>
      simp only [bind_ok, biO]
      cases isIns d <;> rfl
    | _ => rfl
  | _ => rfl
theorem boot_isi : bootBuiltins (Str.ofString "isinstance") = some (.builtin "isinstance") := by kernel_rfl
theorem sd_isa (hm : T.Mono) (xo : XOk X C) {ts : List Ty} {y ty : Expr} {x : Str} {p : Pos} (hx : C.blt x "isinstance" = true) (n1 : noStarE y = true) (ht : tyB C ts ty = true) (ha : Sd X cm T a y) :
    Sd X cm T (mkD (dBi (.isa ts) [a])) (.Call (.Name x p) [y, ty] [] pos) := by
  obtain ⟨b1, b2, b3, b4, b5⟩ := xo.blt hx
  have two : noStarE ty = true := by
    cases ty <;> first | rfl | (cases ts with | nil => cases ht | cons t r => cases r <;> first | (simp [tyB, tyB1] at ht; done) | cases ht)
  have hst : starEach [y, ty] X.env = (false, eval y X.env) :: starEach [ty] X.env := star_cons n1
  have hpl : (backTo pos (starEach [ty] X.env)).any (·.1) = false := star_none fun e he => by simp at he; rw [he]; exact two
  have one : ∀ {t : Ty} {n : String}, ts = [t] → tyN t = some n → PE X ty (tC (.ty n)) → Sd X cm T (mkD (dBi (.isa ts) [a])) (.Call (.Name x p) [y, ty] [] pos) := fun {t n} et en hp => by
    subst et
    refine sd_mk hm (peI (pe_callB call_isi b1 b2 (by rw [b3]; exact boot_isi) (pa_cons ha.o (pa_cons hp pa_nil (star_cons two)) (star_cons n1)) b5 b4 hst hpl) fun σ H Q hq => ?_) rfl
    obtain ⟨ρ, F, lab, re, tk⟩ := hq
    rw [dBi_isa] at tk
    refine ⟨ρ, F, lab, re, (tk.bnd hm).imp fun z F1 H1 lab1 tk1 re1 v rv => ?_⟩
    obtain ⟨d, ed, tk2⟩ := tk1.pure look_noex
    cases hi : isIns d with
    | true => rw [hi] at tk2; exact absurd rfl tk2.1
    | false =>
      rw [hi] at tk2
      refine ⟨v, _, _, _, isaD t d, rfl, .ty n, vw_ty re1.sub (look_vw re1 rv ed) hi, kit_ty (kit_isa en hi), ?_⟩
      have e2 : ([t].any fun t => isaD t d) = isaD t d := by simp
      have := tk2.now re1 _ (.bl _)
      rw [e2] at this
      exact this
  have gen : tyB1 C (ts.headD .int) ty = true → ts.length = 1 → Sd X cm T (mkD (dBi (.isa ts) [a])) (.Call (.Name x p) [y, ty] [] pos) := fun h hl => by
    obtain ⟨t, et⟩ := len1 hl
    rw [et] at h
    obtain ⟨n, e1, p1, _⟩ := pe_ty1 xo h
    exact one et e1 p1
  by_cases htup : ∃ es k q, ty = .Tuple es k q
  · obtain ⟨es, k, q, rfl⟩ := htup
    have ht' : (decide (ts.length < 100) && tyBs C ts es) = true := ht
    simp only [Bool.and_eq_true, decide_eq_true_eq] at ht'
    obtain ⟨ns, e1, p1⟩ := pa_tys xo ht'.2
    refine sd_mk hm (peI (pe_callB call_isiT b1 b2 (by rw [b3]; exact boot_isi) (pa_cons ha.o (pa_cons (pe_tup p1) pa_nil (star_cons two)) (star_cons n1)) b5 b4 hst hpl) fun σ H Q hq => ?_) rfl
    obtain ⟨ρ, F, lab, re, tk⟩ := hq
    rw [dBi_isa] at tk
    refine ⟨ρ, F, lab, re, (tk.bnd hm).imp fun z F1 H1 lab1 tk1 re1 v rv => ⟨?_, fun tp htp => ?_⟩⟩
    · have e3 := congrArg List.length e1
      rw [List.length_map, List.length_map] at e3
      rw [List.length_map, ← e3, sizeLine_eq]
      omega
    · obtain ⟨d, ed, tk2⟩ := tk1.pure look_noex
      cases hi : isIns d with
      | true => rw [hi] at tk2; exact absurd rfl tk2.1
      | false =>
        rw [hi] at tk2
        have sub2 := re1.sub.trans (Sub.new (o := .tup (ns.map V.ty)) htp)
        refine ⟨v, tp, _, _, _, (ts.any fun t => isaD t d), rfl, upd_same, paired_tys ns, vw_ty (cm := cm) sub2 ?_ hi, kitAny_isa hi e1, ?_⟩
        · rcases look_vw re1 rv ed with h | ⟨p, vs, ds, e, e', hp, r⟩ | ⟨t, l, p, e, e', r⟩
          · exact .inl h
          · exact .inr (.inl ⟨p, vs, ds, e, e', Sub.new htp _ _ hp, r⟩)
          · refine .inr (.inr ⟨t, l, p, e, e', ?_⟩)
            obtain ⟨u, hu⟩ := r.some
            rw [Sub.new htp _ _ hu, ← hu]
            exact r
        · have st2 : Stp F1 H1 lab1 F1 (upd H1 tp (.tup (ns.map V.ty))) (fun b => if b = tp then none else lab1 b) := ⟨Sub.refl _, fun b o hb hf hl => by
            have hne := ne_of_none hb htp
            exact ⟨by rw [upd_ne hne]; exact hb, hf, by simp only [if_neg hne]; exact hl⟩⟩
          refine tk2.at_ st2 (re1.keep (Sub.refl _) sub2 fun i b o j hl hb hf => ?_) _ (.bl _)
          have hne := ne_of_none hb htp
          exact ⟨by rw [upd_ne hne]; exact hb, hf, by simp only [if_neg hne]; exact hl⟩
  · refine gen ?_ ?_
    · cases ty <;> first | exact absurd ⟨_, _, _, rfl⟩ htup | (cases ts with | nil => cases ht | cons t r => cases r <;> first | exact ht | cases ht)
    · cases ty <;> first | exact absurd ⟨_, _, _, rfl⟩ htup | (cases ts with | nil => cases ht | cons t r => cases r <;> first | rfl | cases ht)

/-! ### calls by keywords alone -/
inductive Sdk (X : Cx) (cm : String → Option Addr) (T : TP) : List Dn → List Keyword → Prop
  | nil : Sdk X cm T [] []
  | cons {a x e p l ks} : Sd X cm T a e → Sdk X cm T l ks → Sdk X cm T (a :: l) (⟨some x, e, p⟩ :: ks)
theorem pkI {ks : List Keyword} {t t' : TA} (h : PK X ks t) (i : ∀ σ H Q, t' σ H Q → t σ H Q) : PK X ks t' := ⟨fun pos pins s σ H Q I q => h.run pos pins s σ H Q I (i σ H Q q)⟩
theorem Sdk.as (hm : T.Mono) : ∀ {l : List Dn} {ks : List Keyword} (bs : List Bool), Sdk X cm T l ks → PK X ks (tza X.K cm T (dAs l bs))
  | _, _, bs, .nil => pkI pk_nil fun σ H Q ⟨ρ, F, lab, re, tk⟩ => tk.now re [] .nil
  | _, _, bs, .cons h r => by
    refine pkI (pk_cons (h.arg hm (bs.headD false)) (Sdk.as hm bs.tail r)) fun σ H Q hq => ?_
    obtain ⟨ρ, F, lab, re, tk⟩ := hq
    refine ⟨ρ, F, lab, re, (tk.bnd hm).imp fun x F1 H1 lab1 tk1 re1 v rv => ⟨x.2, F1, lab1, re1, ?_⟩⟩
    have tb := tk1.bnd hm
    exact ⟨tb.1, tb.2.1, fun y ey F2 H2 lab2 s2 re2 vs rs => (tb.2.2 y ey F2 H2 lab2 s2).now re2 _ (.cons (rv.mono s2.ff) rs)⟩
theorem ckKs_names {C : CkC} {env : PySem.Env} : ∀ {l : List E} {ns : List String} {ks : List Keyword}, ckKs C l ns ks = true → (keywordEach ks env).map (·.1) = ns.map fun n => some (Str.ofString n)
  | [], [], [], _ => rfl
  | a :: l, n :: ns, ⟨some x, v, p⟩ :: ks, h => by
    simp only [ckKs, Bool.and_eq_true, decide_eq_true_eq] at h
    show some x :: (keywordEach ks env).map (·.1) = _
    rw [ckKs_names h.2.2, h.1]
    rfl
  | [], [], _ :: _, h => by simp [ckKs] at h
  | [], _ :: _, _, h => by simp [ckKs] at h
  | _ :: _, [], _, h => by simp [ckKs] at h
  | _ :: _, _ :: _, [], h => by simp [ckKs] at h
  | _ :: _, _ :: _, ⟨none, _, _⟩ :: _, h => by simp [ckKs] at h
theorem kw_all {β : Type} : ∀ {ks : List (Option Str × β)} {ns : List String}, ks.map (·.1) = ns.map (fun n => some (Str.ofString n)) →
    ks.all (·.1.isSome) = true ∧ ks.filterMap (·.1) = ns.map Str.ofString ∧ ks.any (·.1.isNone) = false
  | [], [], _ => ⟨rfl, rfl, rfl⟩
  | (o, t) :: ks, n :: ns, h => by
    simp only [List.map_cons, List.cons.injEq] at h
    obtain ⟨h1, h2, h3⟩ := kw_all h.2
    obtain ⟨e, _⟩ := h
    subst e
    refine ⟨?_, ?_, ?_⟩
    · rw [List.all_cons, h1]; rfl
    · rw [List.filterMap_cons]; simp [h2]
    · rw [List.any_cons, h3]; rfl
  | [], _ :: _, h => by simp at h
  | _ :: _, [], h => by simp at h
theorem backKw_fst {pos : Pos} {ks : List (Option Str × Sem Value)} : (backToKw pos ks).map (·.1) = ks.map (·.1) := by
  unfold backToKw
  rw [List.map_map]
  rfl
theorem sd_callk (hm : T.Mono) (hx : TPx X cm T) (xo : XOk X C) (cl : Calls X cm k C.df C.kn C.g) {f : String} {l : List Dn} {ns : List String} {el : List E} {kws : List Keyword} {x : Str} {p : Pos} (ef : x = Str.ofString f) (hf : f ∈ C.df) (hg : gloB C.sc x = true) (hp : plainX x = true) (hn : ns = C.kn f ∧ 0 < ns.length)
    (hk : ckKs C el ns kws = true) (h : Sdk X cm T l kws) : Sd X cm T (mkD (dCall k f l)) (.Call (.Name x p) [] kws pos) := by
  obtain ⟨ad, fd, ps, lv, h1, h2, h3, h4, h5, h6, h7, h8⟩ := cl.run f hf
  subst ef
  obtain ⟨p1, p2, _⟩ := plainX_of hp
  obtain ⟨e1, kb⟩ := h8 (by rw [← hn.1]; exact hn.2)
  have nm := ckKs_names (env := X.env) hk
  have nm2 : (backToKw pos (keywordEach kws X.env)).map (·.1) = ns.map fun n => some (Str.ofString n) := by rw [backKw_fst]; exact nm
  obtain ⟨a1, a2, a3⟩ := kw_all nm2
  refine sd_mk hm (peI (pe_callGK (ks := ps) h3 h5 xo.gd (xo.gl hg) h1 h2 (fun s us => kb s us) (h.as hm (k.br f)) a1 (by rw [a2, e1, hn.1]) p1 ?_) fun σ H Q hq => ?_) rfl
  · rw [a3]; rfl
  · obtain ⟨ρ, F, lab, re, tk⟩ := hq
    refine ⟨ρ, F, lab, re, (tk.bnd hm).eqn.imp fun x F1 H1 lab1 ⟨ex, tk1⟩ re1 vs rs => ?_⟩
    exact call_sp hx h6 h7 (dAs_br ex) re1 rs tk1

/-! ### tuple, list of a range; a range from its end -/
theorem prg_Z (hm : T.Mono) {l : List Dn} {xs : List Expr} {p : Pos} (h : Sds X cm T l xs) (hl : 0 < xs.length ∧ xs.length < 3) (hg : Gl X "range") (hmg : X.mg "range" = none) :
    PRg X (.Call (.Name "range" p) xs [] pos) fun σ H Q => ∃ ρ F lab, RE X.K cm F H lab ρ σ ∧ Tk T σ F H lab (dVs l ρ) fun x F' H' lab' => RE X.K cm F' H' lab' x.2 σ →
      (∀ j, x.1 = [.int j] → Q 0 j H') ∧ (∀ i j, x.1 = [.int i, .int j] → Q i j H') ∧ ((∃ j, x.1 = [.int j]) ∨ ∃ i j, x.1 = [.int i, .int j]) := by
  match l, xs, h, hl with
  | [a], [e], .cons h1 n1 .nil, _ =>
    intro pins s σ H Q I hq
    refine prg_1 hg hmg (h1.f hm) (star_cons n1) pins s σ H Q I ?_
    obtain ⟨ρ, F, lab, re, tk⟩ := hq
    unfold dVs dVs at tk
    rw [bind_frz (m := a.v) (ρ := ρ) (g := fun d ρ' => (R.ok ([], ρ')).bind fun y => .ok (d :: y.1, y.2))] at tk
    refine ⟨ρ, F, lab, re, (tk.bnd hm).imp fun x F1 H1 lab1 tk1 re1 v rv => ?_⟩
    obtain ⟨q1, q2, q3⟩ := tk1.now re1
    rcases q3 with ⟨j, e3⟩ | ⟨i, j, e3⟩
    · have e3' : x.1 = .int j := by simpa using e3
      rw [e3'] at rv
      cases rv
      exact ⟨j, rfl, q1 j e3⟩
    · simp at e3
  | [a, b], [e, e'], .cons h1 n1 (.cons h2 n2 .nil), _ =>
    intro pins s σ H Q I hq
    refine prg_2 hg hmg (h1.f hm) (h2.f hm) (star_cons n1) (star_cons n2) (star_none fun e he => by simp at he; rw [he]; exact n2) pins s σ H Q I ?_
    obtain ⟨ρ, F, lab, re, tk⟩ := hq
    unfold dVs at tk
    rw [bind_frz (m := a.v) (ρ := ρ) (g := fun d ρ' => (dVs [b] ρ').bind fun y => .ok (d :: y.1, y.2))] at tk
    refine ⟨ρ, F, lab, re, (tk.bnd hm).imp fun x F1 H1 lab1 tk1 re1 v rv => ⟨x.2, F1, lab1, re1, ?_⟩⟩
    unfold dVs dVs at tk1
    have e0 : ((b.v x.2).bind fun z => (R.ok ([], z.2)).bind fun y => .ok (z.1.frz :: y.1, y.2)).bind (fun y => (R.ok (x.1 :: y.1, y.2) : R (List D × Env))) = (frzV b.v x.2).bind fun z => .ok ([x.1, z.1], z.2) := by
      unfold frzV
      cases b.v x.2 <;> rfl
    rw [e0] at tk1
    refine (tk1.bnd hm).stpT.imp fun y F2 H2 lab2 ⟨s2, tk2⟩ re2 w rw' => ?_
    obtain ⟨q1, q2, q3⟩ := tk2.now re2
    rcases q3 with ⟨j, e3⟩ | ⟨i, j, e3⟩
    · simp at e3
    · have e3' : x.1 = .int i ∧ y.1 = .int j := by simpa using e3
      rw [e3'.1] at rv
      rw [e3'.2] at rw'
      cases rv
      cases rw'
      exact ⟨i, j, rfl, rfl, q2 i j e3⟩
  | [], [], .nil, hl => simp at hl
  | _ :: _ :: _ :: _, _, .cons _ _ (.cons _ _ (.cons _ _ _)), hl => simp only [List.length_cons] at hl; omega

theorem bind_bind {α β γ : Type} {r : R α} {f : α → R β} {g : β → R γ} : (r.bind f).bind g = r.bind fun a => (f a).bind g := by
  cases r <;> rfl
theorem reps_range {F : Hp} {f : Nat → Int} {g : Nat → V} (h : ∀ i, g i = V.int (f i)) : ∀ n : Nat, Reps K cm F ((List.range n).map fun i => D.int (f i)) ((List.range n).map g)
  | 0 => .nil
  | n + 1 => by
    rw [List.range_succ, List.map_append, List.map_append]
    refine (reps_range h n).append ?_
    rw [List.map_cons, List.map_cons, h n]
    exact .cons (.int _) .nil
theorem reps_rg {F : Hp} {i j : Int} : Reps K cm F (rngL i 1 (j - i).toNat) (rgV i j) := by
  unfold rngL rgV
  exact reps_range (fun k => by rw [Int.mul_one]) _
theorem rg_ok1 {j : Int} (h : within j = true) (hl : j.toNat ≤ line) : RgOk 0 j := by
  obtain ⟨h1, h2⟩ := within_of h
  refine ⟨by omega, by omega, h1, h2, ?_⟩
  have : line = 2 ^ 24 := rfl
  omega
theorem rg_ok2 {i j : Int} (h : within i = true) (h' : within j = true) (hl : (j - i).toNat ≤ line) : RgOk i j := by
  obtain ⟨h1, h2⟩ := within_of h
  obtain ⟨h3, h4⟩ := within_of h'
  refine ⟨h1, h2, h3, h4, ?_⟩
  have : line = 2 ^ 24 := rfl
  omega
theorem sd_ofRng (hm : T.Mono) (xo : XOk X C) (hca : C.ca = true) {b : Bool} {l : List Dn} {xs : List Expr} {x y : Str} {p p2 p3 : Pos} (hx : C.blt x (if b then "tuple" else "list") = true) (hy : C.blt y "range" = true) (h : Sds X cm T l xs) (hl : 0 < xs.length ∧ xs.length < 3) :
    Sd X cm T (mkD (dOfI b (dIs rngO l))) (.Call (.Name x p) [.Call (.Name y p2) xs [] p3] [] pos) := by
  obtain ⟨b1, b2, b3, b4, b5⟩ := xo.blt hx
  obtain ⟨c1, c2, c3, c4, c5⟩ := xo.blt hy
  subst b3 c3
  have hlen : l.length = xs.length := by
    clear hl
    induction h with
    | nil => rfl
    | cons _ _ _ ih => simp [ih]
  have hr : ∀ (mk : List V → HO) (w : List D → W), (∀ {F1 H1 : Hp} {lab1 : Lab} {ρ1 : Env} {σ : L2.St} {ds : List D} {vs : List V} {q : Addr}, RE X.K cm F1 H1 lab1 ρ1 σ → H1 q = none → Reps X.K cm F1 ds vs → ∃ F2 lab2, Stp F1 H1 lab1 F2 (upd H1 q (mk vs)) lab2 ∧ RE X.K cm F2 (upd H1 q (mk vs)) lab2 ρ1 σ ∧ RelW X.K cm F2 (upd H1 q (mk vs)) lab2 0 (w ds) (.ref q)) →
      ∀ σ H Q, tz X.K cm T (fun ρ => (dIs rngO l ρ).bind fun x => .ok (w x.1, x.2)) σ H Q → ∃ ρ F lab, RE X.K cm F H lab ρ σ ∧ Tk T σ F H lab (dVs l ρ) fun x F' H' lab' => RE X.K cm F' H' lab' x.2 σ →
        (∀ j, x.1 = [.int j] → RgOk 0 j ∧ ∀ q, H' q = none → Q (.ref q) (upd H' q (mk (rgV 0 j)))) ∧ (∀ i j, x.1 = [.int i, .int j] → RgOk i j ∧ ∀ q, H' q = none → Q (.ref q) (upd H' q (mk (rgV i j)))) ∧ ((∃ j, x.1 = [.int j]) ∨ ∃ i j, x.1 = [.int i, .int j]) := by
    intro mk w hw σ H Q hq
    obtain ⟨ρ, F, lab, re, tk⟩ := hq
    have e0 : ((dIs rngO l ρ).bind fun x => (.ok (w x.1, x.2) : R (W × Env))) = (dVs l ρ).bind fun x => (ofO (rngO x.1)).bind fun d => .ok (w d, x.2) := by
      unfold dIs
      rw [bind_bind]
      congr 1
      funext x
      rw [bind_bind]
      rfl
    have tk : Tk T σ F H lab ((dIs rngO l ρ).bind fun x => .ok (w x.1, x.2)) _ := tk
    rw [e0] at tk
    refine ⟨ρ, F, lab, re, (tk.bnd hm).eqn.imp fun z F1 H1 lab1 ⟨ez, tk1⟩ re1 => ?_⟩
    obtain ⟨d, ed, tk2⟩ := tk1.pure ofO_noex
    obtain ⟨z1, z2⟩ := z
    have hz := dVs_len ez
    have fin : ∀ {i j : Int}, d = rngL i 1 (j - i).toNat → ∀ q, H1 q = none → Q (.ref q) (upd H1 q (mk (rgV i j))) := fun {i j} e q hq => by
      obtain ⟨F2, lab2, s2, re2, rw2⟩ := hw (ds := d) re1 hq (by rw [e]; exact reps_rg)
      exact tk2.at_ s2 re2 _ rw2
    have h3 : z1.length = 1 ∨ z1.length = 2 := by omega
    rcases h3 with h3 | h3
    · obtain ⟨a, rfl⟩ := len1 h3
      obtain ⟨j, rfl, w1, w2, rfl⟩ := rng_1 (ofO_eq ed)
      refine ⟨fun j' e => ?_, fun i' j' e => (by simp at e), .inl ⟨j, rfl⟩⟩
      cases e
      exact ⟨rg_ok1 w1 w2, fin (by rw [Int.sub_zero])⟩
    · obtain ⟨a, b, rfl⟩ := len2 h3
      obtain ⟨i, j, rfl, rfl, w1, w2, w3, rfl⟩ := rng_2 (ofO_eq ed)
      refine ⟨fun j' e => (by simp at e), fun i' j' e => ?_, .inr ⟨i, j, rfl⟩⟩
      cases e
      exact ⟨rg_ok2 w1 w2 w3, fin rfl⟩
  cases b with
  | true =>
    refine sd_mk hm (peI (pe_tupRg (xo.calm hca) b1 b2 (prg_Z hm h hl c1 c2) rfl) fun σ H Q hq => ?_) rfl
    exact hr HO.tup (fun d => .sh (.tup d)) (fun re1 hq r => by
      obtain ⟨lab', s', re', rw'⟩ := (New.tup re1.sub hq r).step re1
      exact ⟨_, lab', s', re', rw'⟩) σ H Q hq
  | false =>
    refine sd_mk hm (peI (pe_listRg (xo.calm hca) b1 b2 (prg_Z hm h hl c1 c2) rfl) fun σ H Q hq => ?_) rfl
    exact hr HO.lst W.ol (fun re1 hq r => by
      obtain ⟨lab', s', re', rw'⟩ := (New.lst re1.sub hq r).step re1
      exact ⟨_, lab', s', re', rw'⟩) σ H Q hq
theorem rngL_rev {a : Int} {n : Nat} : (rngL a 1 n).reverse = rngL (a + (n : Int) - 1) (-1) n := by
  apply List.ext_getElem?
  intro k
  by_cases hk : k < n
  · rw [List.getElem?_reverse (by rw [rngL_length]; exact hk), rngL_length]
    unfold rngL
    rw [List.getElem?_map, List.getElem?_map, List.getElem?_range hk, List.getElem?_range (by omega)]
    simp only [Option.map_some, Option.some.injEq, D.int.injEq]
    omega
  · rw [List.getElem?_eq_none (by rw [List.length_reverse, rngL_length]; omega), List.getElem?_eq_none (by rw [rngL_length]; omega)]
theorem pi_revrZ (hm : T.Mono) {tg : Expr} {l : List Dn} {xs : List Expr} {p p2 p3 : Pos} (h : Sds X cm T l xs) (hl : 0 < xs.length ∧ xs.length < 3) (g1 : Gl X "reversed") (m1 : X.mg "reversed" = none) (g2 : Gl X "range") (m2 : X.mg "range" = none) :
    PI X tg (.Call (.Name "reversed" p) [.Call (.Name "range" p2) xs [] p3] [] pos) (tzi X.K cm T (dIs revrO l)) := by
  have hlen : l.length = xs.length := by
    clear hl
    induction h with
    | nil => rfl
    | cons _ _ _ ih => simp [ih]
  refine piI (pi_revR g1 m1 (prg_Z hm h hl g2 m2) rfl) fun σ H R hq => ?_
  obtain ⟨ρ, F, lab, re, tk⟩ := hq
  refine ⟨ρ, F, lab, re, (tk.bnd hm).eqn.imp fun z F1 H1 lab1 ⟨ez, tk1⟩ re1 => ?_⟩
  obtain ⟨d, ed, tk2⟩ := tk1.pure ofO_noex
  obtain ⟨z1, z2⟩ := z
  have hz := dVs_len ez
  have ed2 : (rngO z1).map List.reverse = some d := ofO_eq ed
  simp only [Option.map_eq_some_iff] at ed2
  obtain ⟨d0, e1, e2⟩ := ed2
  have fin : ∀ {i j : Int}, d0 = rngL i 1 (j - i).toNat → (j - i).toNat ≤ line → R (Itc (i + (((j - i).toNat : Nat) : Int) - 1) (-1) (j - i).toNat) H1 := fun {i j} e hle => by
    refine tk2.now re1 _ ?_ ?_
    · show ItOk X.K cm _ F1 d
      rw [← e2, e, rngL_rev]
      exact itc_ok
    · show List.length d ≤ _
      rw [← e2, e, List.length_reverse, rngL_length, ← line_eq]; exact hle
  have h3 : z1.length = 1 ∨ z1.length = 2 := by omega
  rcases h3 with h3 | h3
  · obtain ⟨a, rfl⟩ := len1 h3
    obtain ⟨j, rfl, w1, w2, w3⟩ := rng_1 e1
    refine ⟨fun j' e => ?_, fun i' j' e => (by simp at e), .inl ⟨j, rfl⟩⟩
    cases e
    obtain ⟨k1, k2⟩ := within_of w1
    exact ⟨by omega, by omega, k1, k2, fin (by rw [Int.sub_zero]; exact w3) (by rw [Int.sub_zero]; exact w2)⟩
  · obtain ⟨a, b, rfl⟩ := len2 h3
    obtain ⟨i, j, rfl, rfl, w1, w2, w3, w4⟩ := rng_2 e1
    refine ⟨fun j' e => (by simp at e), fun i' j' e => ?_, .inr ⟨i, j, rfl⟩⟩
    cases e
    exact ⟨(within_of w1).1, (within_of w1).2, (within_of w2).1, (within_of w2).2, fin w4 w3⟩
/-- tuple(reversed(a list)) -/
theorem sd_tupRev (hm : T.Mono) (xo : XOk X C) (hca : C.ca = true) {e : Expr} {x y : Str} {p p2 p3 : Pos} (hx : C.blt x "tuple" = true) (hy : C.blt y "reversed" = true) (hn : noStarE e = true) (h : Sd X cm T a e) :
    Sd X cm T (mkD (dTupRev a)) (.Call (.Name x p) [.Call (.Name y p2) [e] [] p3] [] pos) := by
  obtain ⟨b1, b2, b3, b4, b5⟩ := xo.blt hx
  obtain ⟨c1, c2, c3, c4, c5⟩ := xo.blt hy
  subst b3 c3
  refine sd_mk hm (peI (RT.pe_tupRev (xo.calm hca) b1 b2 c1 c2 (h.f hm) (star_cons hn) rfl) fun σ H Q hq => ?_) rfl
  obtain ⟨ρ, F, lab, re, tk⟩ := hq
  have tk : Tk T σ F H lab ((a.v ρ).bind fun x => match x.1.frz with | .lst l => .ok (W.sh (.tup l.reverse), x.2) | _ => .bad) _ := tk
  rw [bind_frz (m := a.v) (ρ := ρ) (g := fun d ρ' => (match d with | .lst l => .ok (W.sh (.tup l.reverse), ρ') | _ => .bad : R (W × Env)))] at tk
  refine ⟨ρ, F, lab, re, (tk.bnd hm).imp fun z F1 H1 lab1 tk1 re1 v rv => ?_⟩
  obtain ⟨z1, z2⟩ := z
  cases rv with
  | lst hr rr =>
    refine ⟨_, _, rfl, (re1.sub.sqp hr).sql, fun q hq => ?_⟩
    obtain ⟨lab', s', re', rw'⟩ := (New.tup re1.sub hq rr.rev).step re1
    exact tk1.at_ s' re' _ rw'
  | _ => exact absurd rfl tk1.1
/-- xs[::-1] of a list -/
theorem sd_rvs (hm : T.Mono) {k0 : Nat} {p1 p2 p3 : Pos} (ha : Sd X cm T a e1) : Sd X cm T (mkD (dRvs a)) (.Subscript e1 (.Slice none none (some (.UnaryOp .USub (.Constant (.int 1) k0 p1) p2)) p3) pos) := by
  refine sd_mk hm (peI (pe_revL ha.o) fun σ H Q hq => ?_) rfl
  obtain ⟨ρ, F, lab, re, tk⟩ := hq
  refine ⟨ρ, F, lab, re, (tk.bnd hm).imp fun x F1 H1 lab1 tk1 re1 v rx => ?_⟩
  obtain ⟨p, ep, tk2⟩ := tk1.pure look_noex
  have vw := look_vw re1 rx ep
  cases p with
  | lst l =>
    obtain ⟨q, vs, rfl, hs, rr⟩ := vw.lst re1.sub
    refine ⟨q, vs, rfl, hs.sql, fun p' hp' => ?_⟩
    obtain ⟨lab', s', re', rw'⟩ := (New.lst re1.sub hp' rr.rev).step re1
    exact tk2.at_ s' re' _ rw'
  | _ => exact absurd rfl tk2.1
theorem idxO_noex {p : D} {l : List D} : ∀ c fs ρ, idxO p l ≠ .ex c fs ρ := by
  unfold idxO
  split
  · exact bind_noex ofO_noex fun _ => ok_noex
  · exact bad_noex
/-- xs.index(x) -/
theorem sd_idx (hm : T.Mono) {ap cp : Pos} (n1 : noStarE e2 = true) (hline : (ap.endLine == cp.line) = true) (hb0 : ∀ (f : Str) (env : PySem.Env) (m : Sem Value), attributeBase e1 f env m = m) (ha : Sd X cm T a e1) (hb : Sd X cm T b e2) : Sd X cm T (mkD (dIdx a b)) (.Call (.Attribute e1 "index" ap) [e2] [] cp) := by
  refine sd_mk hm (peI (pe_bm PySem.F.plainAttrs_list PySem.F.slot_list_index PySem.F.type_list_index mt_index (ha.f hm) (pa_cons (hb.f hm) pa_nil (star_cons n1)) (hb0 _ _ _) (by rw [star_cons n1]; rfl) hline (star_cons n1) rfl) fun σ H Q hq => ?_) rfl
  obtain ⟨ρ, F, lab, re, tk⟩ := hq
  have tk : Tk T σ F H lab ((a.v ρ).bind fun x => match x.1.frz with
    | .lst l => (b.v x.2).bind fun y => (idxO y.1.frz l).bind fun w => .ok (w, y.2)
    | _ => .bad) _ := tk
  rw [bind_frz (m := a.v) (ρ := ρ) (g := fun d ρ' => (match d with
    | .lst l => (b.v ρ').bind fun y => (idxO y.1.frz l).bind fun w => .ok (w, y.2)
    | _ => .bad : R (W × Env)))] at tk
  refine ⟨ρ, F, lab, re, (tk.bnd hm).imp fun z F1 H1 lab1 tk1 re1 v rv => ?_⟩
  obtain ⟨z1, z2⟩ := z
  cases rv with
  | lst hr rr =>
    rename_i p vs ds
    have tk1 : Tk T σ F1 H1 lab1 ((b.v z2).bind fun y => (idxO y.1.frz ds).bind fun w => .ok (w, y.2)) _ := tk1
    rw [bind_frz (m := b.v) (ρ := z2) (g := fun d ρ' => ((idxO d ds).bind fun w => .ok (w, ρ') : R (W × Env)))] at tk1
    refine ⟨.inl ⟨rfl, vs, (re1.sub.sqp hr).sql⟩, z2, F1, lab1, re1, ?_⟩
    have tb := tk1.bnd hm
    refine ⟨tb.1, tb.2.1, fun y ey F2 H2 lab2 s2 re2 u ru => ?_⟩
    obtain ⟨w, ew, tk3⟩ := (tb.2.2 y ey F2 H2 lab2 s2).pure idxO_noex
    unfold idxO at ew
    split at ew
    case isFalse => cases ew
    rename_i hf
    rw [Bool.and_eq_true] at hf
    cases ej : ((ds.map toV).findIdx? fun z => L2.eqV z (toV y.1)) with
    | none => rw [ej] at ew; cases ew
    | some j =>
      rw [ej] at ew
      cases ew
      obtain ⟨eu, fu⟩ := ru.flat hf.1
      obtain ⟨ev, fv⟩ := Reps.flat (rr.mono s2.ff) hf.2
      subst eu ev
      rw [List.findIdx?_eq_some_iff_getElem] at ej
      obtain ⟨hj, hj1, hj2⟩ := ej
      refine ⟨_, _, _, j, _, rfl, rfl, (re2.sub.sqp (s2.ff.sqp hr)).sql, fu, fv, List.getElem?_eq_getElem hj, hj1, fun m z' hmj hz => ?_, tk3.now re2 _ (.int _)⟩
      obtain ⟨hml, rfl⟩ := List.getElem?_eq_some_iff.mp hz
      simpa using hj2 m hmj
  | _ => exact absurd rfl tk1.1
end
end Z

set_option Elab.async false
set_option linter.all false
set_option maxRecDepth 100000
set_option maxHeartbeats 8000000
/-! Zf: the module's constants; instances: fields, methods, making; what is only looked at. -/
namespace Z
open PySem
open PySem.Spec
open PyProof.Rows
open L2
/-! ### names -/
theorem ofString_inj {a b : String} (h : Str.ofString a = Str.ofString b) : a = b := by
  rw [Str.ofString_eq_toList, Str.ofString_eq_toList] at h
  have h1 : (a.toList.map Char.toNat) = b.toList.map Char.toNat := by
    have := congrArg Str.cps h
    simpa using this
  have h2 : a.toList = b.toList := List.map_inj_right (fun x y e => Char.toNat_inj.mp e) |>.mp h1
  exact String.toList_inj.mp h2
section
variable {K : PySem.W.Frag} {cm : String → Option Addr} {F H F' H' : Hp} {lab : Lab}
theorem RepF.look : ∀ {fs : List (String × D)} {gs : List (Str × V)} {f : String}, RepF K cm F fs gs → (∀ d, lkF fs f = some d → ∃ v, gs.lookup (Str.ofString f) = some v ∧ Rep K cm F d v) ∧ (lkF fs f = none → gs.lookup (Str.ofString f) = none)
  | _, _, f, .nil => ⟨fun d e => (by cases e), fun _ => rfl⟩
  | _, _, f, .cons (n := n) (d := d0) (v := v0) h r => by
    obtain ⟨h1, h2⟩ := RepF.look (f := f) r
    by_cases e : n = f
    · subst e
      refine ⟨fun d e => ?_, fun e => ?_⟩
      · unfold lkF at e; rw [if_pos rfl] at e; cases e
        exact ⟨v0, by simp [List.lookup_cons], h⟩
      · unfold lkF at e; rw [if_pos rfl] at e; cases e
    · have hb : (Str.ofString f == Str.ofString n) = false := by simpa using fun z => e (ofString_inj z).symm
      refine ⟨fun d e' => ?_, fun e' => ?_⟩
      · unfold lkF at e'; rw [if_neg e] at e'
        obtain ⟨v, q1, q2⟩ := h1 d e'
        exact ⟨v, by rw [List.lookup_cons, hb]; exact q1, q2⟩
      · unfold lkF at e'; rw [if_neg e] at e'
        rw [List.lookup_cons, hb]; exact h2 e'
theorem RelFs.look {s : Nat} : ∀ {k : Nat} {fs : List (String × Fw)} {gs : List (Str × V)} {f : String}, RelFs K cm F H lab s k fs gs →
    (∀ w, lkF fs f = some w → ∃ v j, gs.lookup (Str.ofString f) = some v ∧ RelR K cm F H lab (s, j) w v) ∧ (lkF fs f = none → gs.lookup (Str.ofString f) = none)
  | _, [], [], f, _ => ⟨fun d e => (by cases e), fun _ => rfl⟩
  | k, (n, w0) :: r, (m, v0) :: q, f, h => by
    obtain ⟨rfl, hw, hr⟩ := h
    obtain ⟨h1, h2⟩ := RelFs.look (f := f) hr
    by_cases e : n = f
    · subst e
      refine ⟨fun d e => ?_, fun e => ?_⟩
      · unfold lkF at e; rw [if_pos rfl] at e; cases e
        exact ⟨v0, k + 1, by simp [List.lookup_cons], hw⟩
      · unfold lkF at e; rw [if_pos rfl] at e; cases e
    · have hb : (Str.ofString f == Str.ofString n) = false := by simpa using fun z => e (ofString_inj z).symm
      refine ⟨fun d e' => ?_, fun e' => ?_⟩
      · unfold lkF at e'; rw [if_neg e] at e'
        obtain ⟨v, j, q1, q2⟩ := h1 d e'
        exact ⟨v, j, by rw [List.lookup_cons, hb]; exact q1, q2⟩
      · unfold lkF at e'; rw [if_neg e] at e'
        rw [List.lookup_cons, hb]; exact h2 e'
  | _, [], _ :: _, _, h => h.elim
  | _, _ :: _, [], _, h => h.elim
/-! ### more stands, nothing changes -/
def Grow (F H F' H' : Hp) : Prop := Sub F F' ∧ Sub F' H' ∧ Sub H H' ∧ ∀ a o, H a = some o → F a = none → F' a = none
theorem Grow.refl (s : Sub F H) : Grow F H F H := ⟨Sub.refl F, s, Sub.refl H, fun _ _ _ h => h⟩
theorem Grow.trans {F1 H1 F2 H2 : Hp} (a : Grow F H F1 H1) (b : Grow F1 H1 F2 H2) : Grow F H F2 H2 :=
  ⟨a.1.trans b.1, b.2.1, a.2.2.1.trans b.2.2.1, fun x o h f => b.2.2.2 x o (a.2.2.1 x o h) (a.2.2.2 x o h f)⟩
theorem Grow.vw {d : D} {v : V} (g : Grow F H F' H') (h : Vw K cm F H d v) : Vw K cm F' H' d v := by
  rcases h with h | ⟨p, vs, ds, e1, e2, hp, r⟩ | ⟨t, l, p, e1, e2, r⟩
  · exact .inl (Rep.mono g.1 h)
  · exact .inr (.inl ⟨p, vs, ds, e1, e2, g.2.2.1 _ _ hp, r.mono g.1⟩)
  · obtain ⟨u, hu⟩ := r.some
    exact .inr (.inr ⟨t, l, p, e1, e2, by rw [g.2.2.1 _ _ hu, ← hu]; exact r.mono g.1⟩)
theorem Grow.step {ρ : Env} {σ : L2.St} (g : Grow F H F' H') (h : RE K cm F H lab ρ σ) : Stp F H lab F' H' lab ∧ RE K cm F' H' lab ρ σ :=
  ⟨⟨g.1, fun a o ha hf l => ⟨g.2.2.1 a o ha, g.2.2.2 a o ha hf, l⟩⟩, h.keep g.1 g.2.1 fun i a o j l ha hf => ⟨g.2.2.1 a o ha, g.2.2.2 a o ha hf, l⟩⟩
theorem New.grow {d : D} {v : V} (n : New K cm F H (.sh d) v F' H') : Grow F H F' H' ∧ Rep K cm F' d v := ⟨⟨n.1, n.2.1, n.2.2.1, n.2.2.2.1⟩, n.2.2.2.2⟩
end
/-- the reading of what is only looked at -/
def tPu (K : PySem.W.Frag) (cm : String → Option Addr) (g : GX) (e : E) : TE := fun σ H Q => ∃ ρ F lab, RE K cm F H lab ρ σ ∧ ∃ d, pu g e ρ = some d ∧ ∀ v F' H', Grow F H F' H' → Vw K cm F' H' d v → Q v H'
theorem attr_base {o : Expr} {f : Str} {env : PySem.Env} {m : Sem Value} (h : plainO o = true) : attributeBase o f env m = m := by
  cases o <;> try rfl
  rename_i f as kws p
  cases as with
  | nil => cases h
  | cons a as => cases f <;> rfl
section
variable {X : Cx} {cm : String → Option Addr} {T : TP} {C : CkC} {k : Cl}
theorem vw_slot {F H : Hp} {lab : Lab} {ρ : Env} {σ : L2.St} {i : Nat} {d : D} (re : RE X.K cm F H lab ρ σ) (e : vwW (gt ρ i) = some d) : ∃ v, σ[i]? = some (some v) ∧ Vw X.K cm F H d v := by
  cases ew : gt ρ i with
  | none => rw [ew] at e; cases e
  | some w =>
    rw [ew] at e
    obtain ⟨v, e1, r⟩ := re.at_ i w ew
    refine ⟨v, e1, ?_⟩
    cases w with
    | sh d' => cases e; exact .inl r
    | ol ds =>
      cases e
      obtain ⟨p, vs, rfl, _, hp, _, rr⟩ := r
      exact .inr (.inl ⟨p, vs, ds, rfl, rfl, hp, rr⟩)
    | od t l =>
      cases e
      obtain ⟨p, rfl, _, _, rr⟩ := r
      exact .inr (.inr ⟨t, l, p, rfl, rfl, rr⟩)
    | _ => cases e
/-- a slot's instance and its field -/
theorem fld_slot (cl : Calls X cm k C.df C.kn C.g) {F H : Hp} {lab : Lab} {ρ : Env} {σ : L2.St} {i : Nat} {f : String} {w : Fw} (re : RE X.K cm F H lab ρ σ) (e : fldW k.g (gt ρ i) f = some w) :
    ∃ v a A dx gs v', σ[i]? = some (some v) ∧ v = .ref a ∧ H a = some (.ins A dx gs) ∧ Cls X.K A ∧ NoAttr X.K A (Str.ofString f) ∧ gs.lookup (Str.ofString f) = some v' ∧ Vw X.K cm F H w.frz v' ∧ (∀ d, w = .sh d → Rep X.K cm F d v') := by
  cases ew : gt ρ i with
  | none => rw [ew] at e; cases e
  | some w0 =>
    rw [ew] at e
    obtain ⟨v, e1, r⟩ := re.at_ i w0 ew
    cases w0 with
    | sh d0 =>
      cases d0 with
      | ins c fs =>
        simp only [fldW] at e
        split at e
        case isFalse => cases e
        rename_i hat
        simp only [Option.map_eq_some_iff] at e
        obtain ⟨d, e2, rfl⟩ := e
        cases r with
        | @ins a _ A dx gs _ ha hc hr =>
          obtain ⟨v', l1, l2⟩ := hr.look.1 d e2
          obtain ⟨q1, q2⟩ := cl.atr c f A hat hc
          exact ⟨_, a, A, dx, gs, v', e1, rfl, re.sub _ _ ha, q1, q2, l1, .inl l2, fun d' e' => by cases e'; exact l2⟩
      | _ => cases e
    | oi c fs =>
      simp only [fldW] at e
      split at e
      case isFalse => cases e
      rename_i hat
      obtain ⟨p, A, dx, gs, rfl, lp, hp, fp, hc, hr⟩ := r
      obtain ⟨v', j, l1, l2⟩ := hr.look.1 w e
      obtain ⟨q1, q2⟩ := cl.atr c f A hat hc
      refine ⟨_, p, A, dx, gs, v', e1, rfl, hp, q1, q2, l1, ?_, fun d' e' => by subst e'; exact l2⟩
      cases w with
      | sh d => exact .inl l2
      | ol ds =>
        obtain ⟨p', vs, rfl, _, hp', _, rr⟩ := l2
        exact .inr (.inl ⟨p', vs, ds, rfl, rfl, hp', rr⟩)
      | od t l =>
        obtain ⟨p', rfl, _, _, rr⟩ := l2
        exact .inr (.inr ⟨t, l, p', rfl, rfl, rr⟩)
    | _ => cases e
theorem vw_ins {F H : Hp} {c : String} {fs : List (String × D)} {v : V} (h : Vw X.K cm F H (.ins c fs) v) : Rep X.K cm F (.ins c fs) v := by
  rcases h with h | ⟨_, _, _, e, _⟩ | ⟨_, _, _, e, _⟩
  · exact h
  · cases e
  · cases e
theorem fld_frz (cl : Calls X cm k C.df C.kn C.g) {F : Hp} {x : D} {v : V} {f : String} {d : D} (h : Rep X.K cm F x v) (e : fldD k.g x f = some d) :
    ∃ a A dx gs v', v = .ref a ∧ F a = some (.ins A dx gs) ∧ Cls X.K A ∧ NoAttr X.K A (Str.ofString f) ∧ gs.lookup (Str.ofString f) = some v' ∧ Rep X.K cm F d v' := by
  cases x with
  | ins c fs =>
    simp only [fldD] at e
    split at e
    case isFalse => cases e
    rename_i hat
    cases h with
    | @ins a _ A dx gs _ ha hc hr =>
      obtain ⟨v', l1, l2⟩ := hr.look.1 d e
      obtain ⟨q1, q2⟩ := cl.atr c f A hat hc
      exact ⟨a, A, dx, gs, v', rfl, ha, q1, q2, l1, l2⟩
  | _ => cases e
theorem fldD_vw {F H : Hp} {x : D} {v : V} {f : String} {d : D} (h : Vw X.K cm F H x v) (e : fldD k.g x f = some d) : Rep X.K cm F x v := by
  cases x with
  | ins c fs => exact vw_ins h
  | _ => cases e
theorem pe_absurd {e : Expr} {t : TE} (h : ∀ σ H Q, ¬ t σ H Q) : PE X e t := ⟨fun pins s σ H Q I q => absurd q (h σ H Q)⟩
theorem rOk_some {r : R W} {d : D} (h : rOk r = some d) : r = .ok (.sh d) := by
  cases r with
  | ok w => cases w <;> first | (cases h; rfl) | cases h
  | _ => cases h
theorem pu_ix (xo : XOk X C) {a b : E} {e1 e2 : Expr} {pos : Pos} (ha : PE X e1 (tPu X.K cm k.g a)) (hb : PE X e2 (tPu X.K cm k.g b)) (hs : PlainIx e2) {e : E} (he : ∀ ρ, pu k.g e ρ = (pu k.g a ρ).bind fun x => (pu k.g b ρ).bind fun y => rOk (ixO x y)) :
    PE X (.Subscript e1 e2 pos) (tPu X.K cm k.g e) := by
  refine peI (pe_ix (ix_Z (cm := cm) xo.un) ha hb hs) fun σ H Q h => ?_
  obtain ⟨ρ, F, lab, re, d, ed, q⟩ := h
  rw [he] at ed
  simp only [Option.bind_eq_some_iff] at ed
  obtain ⟨x, ex, y, ey, ew⟩ := ed
  have ew := rOk_some ew
  refine ⟨ρ, F, lab, re, x, ex, fun v1 F1 H1 g1 vw1 => ⟨ρ, F1, lab, (g1.step re).2, y, ey, fun v2 F2 H2 g2 vw2 => ?_⟩⟩
  refine ⟨F2, x, y, .sh d, g2.2.1, g2.vw vw1, vw2, ew, fun v F' H' n => ?_⟩
  obtain ⟨g3, r⟩ := n.grow
  exact q v F' H' ((g1.trans g2).trans g3) (.inl r)
theorem pu_ok (xo : XOk X C) (cl : Calls X cm k C.df C.kn C.g) : ∀ (e : E) (ex : Expr), ck C e ex = true → PE X ex (tPu X.K cm k.g e)
  | .var i, ex, h => by
    unfold ck at h; split at h <;> first | contradiction | skip
    rename_i heq; cases heq
    simp only [Bool.and_eq_true, decide_eq_true_eq] at h
    obtain ⟨p1, p2, _⟩ := plainX_of h.2
    refine peI (pe_var (by rw [xo.n]; exact h.1.1) (xo.vis h.1.2) p1 p2) fun σ H Q ⟨ρ, F, lab, re, d, ed, q⟩ => ?_
    obtain ⟨v, e1, vw⟩ := vw_slot re ed
    exact ⟨v, e1, q v F H (Grow.refl re.sub) vw⟩
  | .int i, ex, h => by
    unfold ck at h; split at h <;> first | contradiction | skip
    rename_i heq; cases heq
    simp only [decide_eq_true_eq] at h
    subst h
    exact peI pe_int fun σ H Q ⟨ρ, F, lab, re, d, ed, q⟩ => by
      cases ed
      exact q _ F H (Grow.refl re.sub) (.inl (.int _))
  | .str s, ex, h => by
    unfold ck at h; split at h <;> first | contradiction | skip
    rename_i heq; cases heq
    simp only [decide_eq_true_eq] at h
    subst h
    exact peI pe_str fun σ H Q ⟨ρ, F, lab, re, d, ed, q⟩ => by
      cases ed
      exact q _ F H (Grow.refl re.sub) (.inl (.str _))
  | .fld a f, ex, h => by
    unfold ck at h; split at h <;> first | contradiction | skip
    rename_i x g ap heq; cases heq
    simp only [Bool.and_eq_true, decide_eq_true_eq] at h
    obtain ⟨rfl, hp, h⟩ := h
    have gen : (∀ ρ, pu k.g (.fld a f) ρ = (pu k.g a ρ).bind fun x => fldD k.g x f) → PE X x (tPu X.K cm k.g a) → PE X (.Attribute x (Str.ofString f) ap) (tPu X.K cm k.g (.fld a f)) := fun he ih => by
      refine peI (pe_fld ih (attr_base hp)) fun σ H Q ⟨ρ, F, lab, re, d, ed, q⟩ => ?_
      rw [he] at ed
      simp only [Option.bind_eq_some_iff] at ed
      obtain ⟨y, ey, ed⟩ := ed
      refine ⟨ρ, F, lab, re, y, ey, fun v F' H' gr vw => ?_⟩
      obtain ⟨b, A, dx, gs, v', rfl, hb, q1, q2, l1, l2⟩ := fld_frz cl (fldD_vw vw ed) ed
      exact ⟨b, A, dx, gs, v', rfl, gr.2.1 _ _ hb, q1, q2, l1, q v' F' H' gr (.inl l2)⟩
    cases a with
    | var i =>
      unfold ck at h; split at h <;> first | contradiction | skip
      rename_i heq; cases heq
      simp only [Bool.and_eq_true, decide_eq_true_eq] at h
      obtain ⟨p1, p2, _⟩ := plainX_of h.2
      refine peI (pe_fld (pe_var (by rw [xo.n]; exact h.1.1) (xo.vis h.1.2) p1 p2) (attr_base rfl)) fun σ H Q ⟨ρ, F, lab, re, d, ed, q⟩ => ?_
      have ed : (fldW k.g (gt ρ i) f).map Fw.frz = some d := ed
      simp only [Option.map_eq_some_iff] at ed
      obtain ⟨w, ew, rfl⟩ := ed
      obtain ⟨v, b, A, dx, gs, v', e1, rfl, hb, q1, q2, l1, l2, _⟩ := fld_slot cl re ew
      exact ⟨_, e1, b, A, dx, gs, v', rfl, hb, q1, q2, l1, q v' F H (Grow.refl re.sub) l2⟩
    | _ => exact gen (fun ρ => rfl) (pu_ok xo cl _ x h)
  | .ix a b, ex, h => by
    unfold ck at h; split at h <;> first | contradiction | skip
    rename_i heq; cases heq
    simp only [Bool.and_eq_true] at h
    exact pu_ix xo (pu_ok xo cl a _ h.2.1) (pu_ok xo cl b _ h.2.2) (ix_plain h.1) fun ρ => rfl
  | .pix a b, ex, h => by
    unfold ck at h; split at h <;> first | contradiction | skip
    rename_i heq; cases heq
    simp only [Bool.and_eq_true] at h
    exact pu_ix xo (pu_ok xo cl a _ h.2.1) (pu_ok xo cl b _ h.2.2) (ix_plain h.1) fun ρ => rfl
  | .neg a, ex, h => by
    have ih := fun ex h => pu_ok xo cl a ex h
    cases a with
    | int i =>
      unfold ck at h; split at h <;> first | contradiction | skip
      rename_i heq; cases heq
      refine peI (pe_un un_neg (ih _ h)) fun σ H Q ⟨ρ, F, lab, re, d, ed, q⟩ => ?_
      cases ed
      exact ⟨ρ, F, lab, re, .int i, rfl, fun v F' H' gr vw => ⟨i, vw.int, q _ F' H' gr (.inl (.int _))⟩⟩
    | _ => exact pe_absurd fun σ H Q ⟨ρ, F, lab, re, d, ed, q⟩ => by cases ed
  | .bl _, ex, _ | .non, ex, _ | .bin _ _ _, ex, _ | .cmp _ _ _, ex, _ | .chn _ _ _ _ _, ex, _ | .not _, ex, _ | .and _, ex, _ | .or _, ex, _ | .ite _ _ _, ex, _ | .tup _, ex, _ | .lst _, ex, _ | .dic _, ex, _ | .sl _ _ _, ex, _ | .rvs _, ex, _
  | .calls _ _ _, ex, _ | .get2 _ _ _, ex, _ | .dicl _ _, ex, _ | .popF _ _, ex, _ | .isc _ _, ex, _ | .idx _ _, ex, _ | .methO _ _ _, ex, _ | .call _ _, ex, _ | .callk _ _ _, ex, _ | .mk _ _, ex, _ | .meth _ _ _, ex, _ | .bi _ _, ex, _ | .comp _ _ _ _ _, ex, _ | .ofI _ _, ex, _ | .tupRev _, ex, _ | .gint _ _, ex, _ | .gstr _ _, ex, _ | .pcmp _ _ _, ex, _ | .plen _, ex, _ | .lenI _, ex, _ =>
    pe_absurd fun σ H Q ⟨ρ, F, lab, re, d, ed, q⟩ => by cases ed
end
end Z

set_option Elab.async false
set_option linter.all false
set_option maxRecDepth 100000
set_option maxHeartbeats 8000000
/-! Zg: instances: fields as values, methods, making. -/
namespace Z
open PySem
open PySem.Spec
open PyProof.Rows
open L2
section
variable {X : Cx} {cm : String → Option Addr} {T : TP} {C : CkC} {k : Cl} {a : Dn} {pos : Pos}
theorem sd_gint (hm : T.Mono) (xo : XOk X C) {n : String} {i : Int} {x : Str} {p : Pos} (e : x = Str.ofString n) (hg : gloB C.sc x = true) (hp : plainX x = true) (h : (n, i) ∈ C.g.ci) : Sd X cm T (mkD (dC (.int i))) (.Name x p) := by
  obtain ⟨t, ht⟩ := xo.gc.1 _ h
  subst e
  exact sd_C hm (pe_glob (v := .int i) (xo.gl hg) ht ⟨t, rfl⟩ (plainX_of hp).1) (fun F => .int _) rfl
theorem sd_gstr (hm : T.Mono) (xo : XOk X C) {n : String} {i : Str} {x : Str} {p : Pos} (e : x = Str.ofString n) (hg : gloB C.sc x = true) (hp : plainX x = true) (h : (n, i) ∈ C.g.cs) : Sd X cm T (mkD (dC (.str i))) (.Name x p) := by
  obtain ⟨t, ht⟩ := xo.gc.2 _ h
  subst e
  exact sd_C hm (pe_glob (v := .str i) (xo.gl hg) ht ⟨t, rfl⟩ (plainX_of hp).1) (fun F => .str _) rfl
theorem fldS_some {o : Option Fw} {d : D} (h : fldS o = some d) : o = some (.sh d) := by
  cases o with
  | none => cases h
  | some w => cases w <;> first | (cases h; rfl) | cases h
theorem sd_fld (hm : T.Mono) (cl : Calls X cm k C.df C.kn C.g) {e : E} {ex : Expr} {f : String} {g : Str} (hg : g = Str.ofString f) (hp : plainO ex = true) (h : Sd X cm T (den k e) ex) (hv : ∀ i, e = .var i → PE X ex (tVar i)) :
    Sd X cm T (mkD (fldE k.g e (den k e) f)) (.Attribute ex g pos) := by
  subst hg
  have gen : PE X (.Attribute ex (Str.ofString f) pos) (tz X.K cm T (dFld k.g (den k e) f)) := by
    refine peI (pe_fld (h.f hm) (attr_base hp)) fun σ H Q hq => ?_
    obtain ⟨ρ, F, lab, re, tk⟩ := hq
    unfold dFld at tk
    rw [bind_frz (g := fun d ρ' => (ofO (fldD k.g d f)).bind fun d => .ok (W.sh d, ρ'))] at tk
    refine ⟨ρ, F, lab, re, (tk.bnd hm).imp fun x F1 H1 lab1 tk1 re1 v rv => ?_⟩
    obtain ⟨d, ed, tk2⟩ := tk1.pure ofO_noex
    cases hd : fldD k.g x.1 f with
    | none => rw [hd] at ed; cases ed
    | some d' =>
      rw [hd] at ed
      cases ed
      obtain ⟨b, A, dx, gs, v', rfl, hb, q1, q2, l1, l2⟩ := fld_frz cl rv hd
      exact ⟨b, A, dx, gs, v', rfl, re1.sub _ _ hb, q1, q2, l1, tk2.now re1 v' l2⟩
  refine sd_mk hm ?_ rfl
  cases e with
  | var i =>
    refine ⟨fun pins s σ H Q I hq => ?_⟩
    obtain ⟨ρ, F, lab, re, tk⟩ := hq
    have tk : Tk T σ F H lab ((ofO (if isXc (gt ρ i) then fldX k.g (gt ρ i) f else fldS (fldW k.g (gt ρ i) f))).bind fun d => .ok (W.sh d, ρ)) _ := tk
    by_cases hxc : isXc (gt ρ i) = true
    · rw [if_pos hxc] at tk
      obtain ⟨d, ed, tk2⟩ := tk.pure ofO_noex
      obtain ⟨c, fs, hw⟩ : ∃ c fs, gt ρ i = some (.xc c fs) := by
        cases hg : gt ρ i with
        | none => rw [hg] at hxc; cases hxc
        | some w => cases w <;> first | exact ⟨_, _, rfl⟩ | (rw [hg] at hxc; cases hxc)
      rw [hw] at ed
      cases hd : fldX k.g (some (.xc c fs)) f with
      | none => rw [hd] at ed; cases ed
      | some d' =>
        rw [hd] at ed
        cases ed
        have hd : (if k.g.exB c f = true then lkF fs f else none) = some d := hd
        split at hd
        case isFalse => cases hd
        rename_i hb
        obtain ⟨v, e1, r⟩ := re.at_ i _ hw
        obtain ⟨_, a0, dd, C0, gs, c1, c2, c3, rfl, hc, hF, hr⟩ := r
        obtain ⟨X0, oe, pn, eX, hz, hvs⟩ := cl.xcq a0 dd C0 c1 c2 c3
        obtain ⟨q1, q2⟩ := cl.xat c f C0 hb hc
        obtain ⟨v', l1, l2⟩ := hr.look.1 _ hd
        subst eX
        exact (pe_xf (X := X0) q1 q2 hz hvs (hv i rfl) (attr_base hp)).run pins s σ H Q I ⟨_, e1, rfl, rfl, dd, gs, v', rfl, re.sub _ _ hF, l1, tk2.now re v' l2⟩
    · rw [if_neg hxc] at tk
      refine (pe_fld (hv i rfl) (attr_base hp)).run pins s σ H Q I ?_
      obtain ⟨d, ed, tk2⟩ := tk.pure ofO_noex
      cases hd : fldS (fldW k.g (gt ρ i) f) with
      | none => rw [hd] at ed; cases ed
      | some d' =>
        rw [hd] at ed
        cases ed
        obtain ⟨v, b, A, dx, gs, v', e1, rfl, hb, q1, q2, l1, _, l2⟩ := fld_slot cl re (fldS_some hd)
        exact ⟨_, e1, b, A, dx, gs, v', rfl, hb, q1, q2, l1, tk2.now re v' (l2 _ rfl)⟩
  | _ => exact gen
/-- two things that are only looked at -/
theorem tz_pu2 {o : D → D → R W} (hx : ∀ p q c fs ρ, o p q ≠ .ex c fs ρ) {e1 e2 : E} {σ : L2.St} {H : Hp} {Q : VK}
    (h : tz X.K cm T (fun ρ => (ofO (pu k.g e1 ρ)).bind fun x => (ofO (pu k.g e2 ρ)).bind fun y => (o x y).bind fun w => .ok (w, ρ)) σ H Q) :
    tPu X.K cm k.g e1 σ H fun x H1 => tPu X.K cm k.g e2 σ H1 fun y H2 => rZ X.K cm o x y H2 Q := by
  obtain ⟨ρ, F, lab, re, tk⟩ := h
  obtain ⟨x, ex, tk⟩ := tk.pure ofO_noex
  obtain ⟨y, ey, tk⟩ := tk.pure ofO_noex
  obtain ⟨w, ew, tk⟩ := tk.pure (hx x y)
  have ex : pu k.g e1 ρ = some x := by cases h : pu k.g e1 ρ <;> rw [h] at ex <;> cases ex; rfl
  have ey : pu k.g e2 ρ = some y := by cases h : pu k.g e2 ρ <;> rw [h] at ey <;> cases ey; rfl
  refine ⟨ρ, F, lab, re, x, ex, fun v1 F1 H1 g1 vw1 => ⟨ρ, F1, lab, (g1.step re).2, y, ey, fun v2 F2 H2 g2 vw2 => ?_⟩⟩
  have g := g1.trans g2
  obtain ⟨s2, re2⟩ := g.step re
  refine ⟨F2, x, y, w, g2.2.1, g2.vw vw1, vw2, ew, fun v F' H' n => ?_⟩
  obtain ⟨lab', s', re', rw'⟩ := n.step re2
  exact tk.at_ (s2.trans s') re' v rw'
theorem sd_pix (hm : T.Mono) (xo : XOk X C) {e1 e2 : E} {x1 x2 : Expr} (ha : PE X x1 (tPu X.K cm k.g e1)) (hb : PE X x2 (tPu X.K cm k.g e2)) (hs : PlainIx x2) : Sd X cm T (mkD (dPix k.g e1 e2)) (.Subscript x1 x2 pos) :=
  sd_mk hm (peI (pe_ix (ix_Z (cm := cm) xo.un) ha hb hs) fun σ H Q h => tz_pu2 (fun p q => ixO_noex) h) rfl
theorem dPcmp_bl {o : Cop} {e1 e2 : E} {g : GX} : ∀ ρ w ρ', dPcmp g o e1 e2 ρ = .ok (w, ρ') → ∃ b, w = .sh (.bl b) := fun ρ w ρ' h => by
  unfold dPcmp at h
  obtain ⟨x, _, h⟩ := bind_okE h
  obtain ⟨y, _, h⟩ := bind_okE h
  obtain ⟨c, hc, h⟩ := bind_okE h
  cases h
  exact cmpO_bl hc
theorem sd_pcmp (hm : T.Mono) (xo : XOk X C) {o : Cop} {op : CmpOp} (ho : copB o op = true) {e1 e2 : E} {x1 x2 : Expr} (ha : PE X x1 (tPu X.K cm k.g e1)) (hb : PE X x2 (tPu X.K cm k.g e2)) (hk : behindInMarks op x2 = false) :
    Sd X cm T (mkD (dPcmp k.g o e1 e2)) (.Compare x1 [op] [x2] pos) := by
  rw [copB_of ho] at *
  refine sd_mkT hm (peI (pe_cmpR (op_cmpZ (cm := cm) xo.un o) ha hb hk) fun σ H Q h => tz_pu2 (fun p q => cmpO_noex) h) ?_
  exact ptI (pt_cmpR (op_cmpZ (cm := cm) xo.un o) ha hb hk) fun σ H Q h => tTest_of hm dPcmp_bl (fun σ H Q h => tz_pu2 (fun p q => cmpO_noex) h) h
theorem sd_plen (hm : T.Mono) (xo : XOk X C) (hca : C.ca = true) {e1 : E} {e : Expr} {x : Str} {p : Pos} (hx : C.blt x "len" = true) (ha : PE X e (tPu X.K cm k.g e1)) (hn : noStarE e = true) : Sd X cm T (mkD (dPlen k.g e1)) (.Call (.Name x p) [e] [] pos) := by
  obtain ⟨b1, b2, b3, b4, b5⟩ := xo.blt hx
  have hc := call_biZ (X := X) (cm := cm) xo.un xo.gd .len (fun _ => xo.calm hca) (fun ts h => by cases h)
  refine sd_mk hm (peI (pe_callB hc b1 b2 (by rw [b3]; kernel_rfl) (pa_cons ha pa_nil (star_cons hn)) b5 b4 (star_cons hn) rfl) fun σ H Q hq => ?_) rfl
  obtain ⟨ρ, F, lab, re, tk⟩ := hq
  have tk : Tk T σ F H lab ((ofO (pu k.g e1 ρ)).bind fun x => (biO .len [x]).bind fun w => .ok (w, ρ)) _ := tk
  obtain ⟨y, ey, tk⟩ := tk.pure ofO_noex
  obtain ⟨w, ew, tk⟩ := tk.pure biO_noex
  have ey : pu k.g e1 ρ = some y := by cases h : pu k.g e1 ρ <;> rw [h] at ey <;> cases ey; rfl
  refine ⟨ρ, F, lab, re, y, ey, fun v1 F1 H1 g1 vw1 => ?_⟩
  obtain ⟨s1, re1⟩ := g1.step re
  refine ⟨F1, [y], w, g1.2.1, .cons vw1 .nil, ew, fun v F' H' n => ?_⟩
  obtain ⟨lab', s', re', rw'⟩ := n.step re1
  exact tk.at_ (s1.trans s') re' v rw'
/-! ### methods -/
theorem meth_tree {o : Expr} {m : Str} {apos : Pos} {args : List Expr} {env : PySem.Env} (hp : plainO o = true) (hs : ∀ e ∈ args, noStarE e = true) (hl : args.length < 30) (hline : (apos.endLine == pos.line) = true) :
    eval (.Call (.Attribute o m apos) args [] pos) env = (do
      let ov ← eval o env
      standAt apos.atName
      let (f, first) ← holding [ov] (getMethod ov m (do return (← importBound o env).getD true))
      callWith pos f first (backTo pos (starEach args env)) (backToKw pos (keywordEach [] env))) := by
  have hall : ∀ (l : List Expr), (∀ e ∈ l, noStarE e = true) → (backTo pos (starEach l env)).all (!·.1) = true := by
    intro l
    induction l with
    | nil => intro _; rfl
    | cons e l ih =>
      intro h
      rw [star_cons (h e (by simp))]
      show (!false && (backTo pos (starEach l env)).all (!·.1)) = true
      rw [ih fun e' he => h e' (by simp [he])]; rfl
  have hform : methodCallForm (args.length + 0) (backTo pos (starEach args env)) (backToKw pos (keywordEach [] env)) = true := by
    show ((backTo pos (starEach args env)).all (!·.1) && true && decide (args.length + 0 + 0 < 30)) = true
    rw [hall args hs]
    simp; omega
  have e0 : eval (.Call (.Attribute o m apos) args [] pos) env = (do
      let ov ← attributeBase o m env (eval o env)
      standAt apos.atName
      methodCall o m apos pos env ov (args.length + 0) (backTo pos (starEach args env)) (backToKw pos (keywordEach [] env))) := by
    rfl
  rw [e0, attr_base hp]
  have e1 : ∀ ov, methodCall o m apos pos env ov (args.length + 0) (backTo pos (starEach args env)) (backToKw pos (keywordEach [] env)) = (do
      let (f, first) ← holding [ov] (getMethod ov m (do return (← importBound o env).getD true))
      callWith pos f first (backTo pos (starEach args env)) (backToKw pos (keywordEach [] env))) := by
    intro ov
    unfold methodCall calleeOf methodCallPos
    rw [hform]
    simp only [if_true, Bool.not_true, Bool.false_or, hline]
    rfl
  simp only [e1]
end
end Z

set_option Elab.async false
set_option linter.all false
set_option maxRecDepth 100000
set_option maxHeartbeats 8000000
/-! Zh: calls of methods, making instances. -/
namespace Z
open PySem
open PySem.Spec
open PyProof.Rows
open L2
section
variable {X : Cx} {cm : String → Option Addr} {T : TP} {C : CkC} {k : Cl} {a : Dn} {pos : Pos}
/-- a method's call: what it is called of, the arguments, then the promise of the def that the class has -/
def tMethG (X : Cx) (m : Str) (tr : TE) (t : List Bool → TA) : TE := fun σ H Q => tr σ H fun x H1 => ∃ (a A dx g : Addr) (gs : List (Str × V)) (lv : Nat) (fd : FuncData) (ps : List Str) (sp : Sp) (bs : List Bool), x = .ref a ∧ H1 a = some (.ins A dx gs) ∧ Cls X.K A ∧ Meth X.K A m g ∧ gs.lookup m = none ∧
  FnG X.prog X.w X.K X.mg X.base lv g fd ps sp ∧ Room lv X.A ∧ Binds X.K fd ps [] ∧ t bs σ H1 fun vs H2 => ∃ (Ex : XK) (W : WX), Takes X W ∧ (∀ cls d H, Ex cls d H → W cls d σ H) ∧ sp (x :: vs) H2 Q Ex
theorem pe_methG {o : Expr} {m : Str} {apos : Pos} {args : List Expr} {tr : TE} {t : List Bool → TA} (he : PE X o tr) (hgd : X.A.guards = some []) (ha : ∀ bs, PA X args (t bs)) (hp : plainO o = true) (hs : ∀ e ∈ args, noStarE e = true) (hl : args.length < 30) (hline : (apos.endLine == pos.line) = true) (ht0 : args = [] → ∀ bs σ H Q, t bs σ H Q → Q [] H) :
    PE X (.Call (.Attribute o m apos) args [] pos) (tMethG X m tr t) := by
  refine ⟨fun pins s σ H Q I h => ?_⟩
  refine PySem.W.methodCall_KW (pl := do return (← importBound o X.env).getD true) (thn (he.run pins s σ H _ I h) fun u s1 ⟨x, H1, I1, rx, b, A, dx, g, gs, lv, fd, ps, sp, bs, ex, eb, c, hm, l, F, hr, hb, q⟩ => ?_) (meth_tree hp hs hl hline)
  subst ex
  obtain rfl : u = Value.ref b := rx
  refine getmeth_ok I1 eb c hm l ?_
  cases args with
  | nil =>
    obtain ⟨Ex, W, tk, hW, q2⟩ := ht0 rfl bs _ _ _ q
    have hl : ([Value.ref b] ++ []).length = ps.length := by have := F.len _ _ _ _ q2; simpa using this
    refine PySem.W.callWith_K0 (first := [.ref b]) I1.kIn hm.kp (wpAny_call (codeAny_mono (runG F hr hgd (hb s1 [.ref b] I1.kIn hl) tk hW I1 (.cons (show RelV (V.ref b) (Value.ref b) from rfl) .nil) q2) fun r s' hq => ?_))
    cases r with
    | error e => exact hq
    | ok fl => cases fl <;> exact hq
  | cons e es =>
    refine PySem.W.callWith_K (first := [.ref b]) (h₀ := X.base) I.ok.mod.kin hm.kp (thn ((ha bs).run pos pins s1 σ H1 _ I1 q) fun us s2 ⟨vs, H2, I2, r, Ex, W, tk, hW, q2⟩ => ⟨I2.kIn, ?_⟩) (star_cons (hs e (by simp))) (star_none fun e' he' => hs e' (by simp [he']))
    have hl : (Value.ref b :: us ++ []).length = ps.length := by
      have h1 := F.len _ _ _ _ q2
      rw [List.append_nil, List.length_cons, ← r.length, ← h1, List.length_cons]
    have hb' := hb s2 (.ref b :: us) I2.kIn hl
    rw [List.append_nil] at hb'
    refine wpAny_call (codeAny_mono (runG F hr hgd hb' tk hW I2 (.cons (show RelV (V.ref b) (Value.ref b) from rfl) r) q2) fun r s' hq => ?_)
    cases r with
    | error e => exact hq
    | ok fl => cases fl <;> exact hq
theorem recv_at (cl : Calls X cm k C.df C.kn C.g) {F H : Hp} {lab : Lab} {ρ : Env} {σ : L2.St} {m : String} {r : Arg} {v : V} {c : String} (re : RE X.K cm F H lab ρ σ) (rv : RelA X.K cm F σ r v) (e : recvC ρ m r = some c) :
    ∃ b A dx gs, v = .ref b ∧ H b = some (.ins A dx gs) ∧ cm c = some A ∧ gs.lookup (Str.ofString m) = none := by
  cases r with
  | v d =>
    cases d with
    | ins c' fs =>
      simp only [recvC] at e
      split at e
      case isFalse => cases e
      rename_i hn
      cases e
      cases rv with
      | @ins b _ A dx gs _ hb hc hr => exact ⟨b, A, dx, gs, rfl, re.sub _ _ hb, hc, hr.look.2 (by simpa using hn)⟩
    | _ => cases e
  | r i =>
    simp only [recvC] at e
    split at e
    · rename_i c' fs ew
      split at e
      case isFalse => cases e
      rename_i hn
      cases e
      obtain ⟨v', e1, p, A, dx, gs, rfl, lp, hp, fp, hc, hr⟩ := re.at_ i _ ew
      have e2 : σ[i]? = some (some v) := rv
      rw [e2] at e1
      cases e1
      exact ⟨p, A, dx, gs, rfl, hp, hc, hr.look.2 (by simpa using hn)⟩
    · cases e
theorem sd_meth (hm : T.Mono) (hca : C.ca = true) (hx : TPx X cm T) (xo : XOk X C) (cl : Calls X cm k C.df C.kn C.g) {e : Expr} {m : String} {g : Str} {l : List Dn} {xs : List Expr} {apos : Pos} (hg : g = Str.ofString m) (hp : plainO e = true) (hline : (apos.endLine == pos.line) = true) (hl : xs.length < 30)
    (h : Sd X cm T a e) (hs : Sds X cm T l xs) (hn : ∀ e ∈ xs, noStarE e = true) : Sd X cm T (mkD (dMeth k a m l)) (.Call (.Attribute e g apos) xs [] pos) := by
  subst hg
  refine sd_mk hm (peI (pe_methG (t := fun bs => tza X.K cm T (dAs l bs)) h.r xo.gd (fun bs => Sds.as hm bs hs) hp hn hl hline (fun e0 bs σ H Q hq => ?_)) fun σ H Q hq => ?_) rfl
  · subst e0
    cases hs
    obtain ⟨ρ, F, lab, re, tk⟩ := hq
    have tk : Tk T σ F H lab (.ok (([] : List Arg), ρ)) _ := tk
    exact tk.now re [] .nil
  obtain ⟨ρ, F, lab, re, tk⟩ := hq
  refine ⟨ρ, F, lab, re, (tk.bnd hm).imp fun x F1 H1 lab1 tk1 re1 v rv => ?_⟩
  obtain ⟨f, ef, tk1⟩ := tk1.pure ofO_noex
  have ef : ((recvC x.2 m x.1).bind fun c => k.g.mtO c m) = some f := by
    cases hf : ((recvC x.2 m x.1).bind fun c => k.g.mtO c m) with
    | none => rw [hf] at ef; cases ef
    | some f' => rw [hf] at ef; cases ef; rfl
  simp only [Option.bind_eq_some_iff] at ef
  obtain ⟨c, ec, ef⟩ := ef
  split at tk1
  case isTrue => exact absurd rfl tk1.1
  rename_i hbr
  obtain ⟨b, A, dx, gs, rfl, hb, hc, hlk⟩ := recv_at cl re1 rv ec
  obtain ⟨ad, fd, ps, lv, h1, h2, h3, h4, h5, h6⟩ := cl.mtr (xo.calm hca) c m f ef
  obtain ⟨q1, q2⟩ := h1 A hc
  refine ⟨b, A, dx, ad, gs, lv, fd, ps, _, (k.br f).tail, rfl, hb, q1, q2, hlk, h2, h4, h3, x.2, F1, lab1, re1, (tk1.bnd hm).eqn.stpT.imp fun y F2 H2 lab2 ⟨s2, ey, tk2⟩ re2 vs rs => ?_⟩
  refine call_sp hx h5 h6 (fun i n ei => ?_) re2 (.cons (rv.mono s2.ff) rs) tk2
  cases i with
  | zero =>
    have : x.1 = .r n := by simpa using ei
    rw [this] at hbr
    simp only [isR, Bool.true_and, Bool.not_eq_true, Bool.not_eq_false'] at hbr
    cases hk : k.br f with
    | nil => rw [hk] at hbr; simp at hbr
    | cons b0 bs => rw [hk] at hbr; simp at hbr; subst hbr; rfl
  | succ i =>
    have := dAs_br ey i n (by simpa using ei)
    cases hk : k.br f with
    | nil => rw [hk] at this; simp at this
    | cons b0 bs => rw [hk] at this; simpa using this
/-! ### making -/
/-- a new instance without fields; then __init__'s promise -/
def tMkG (X : Cx) (A f : Addr) (t : TA) : TE := fun σ H Q => t σ H fun vs H1 => ∃ (lv : Nat) (fd : FuncData) (ps : List Str) (sp : Sp), FnG X.prog X.w X.K X.mg X.base lv f fd ps sp ∧ Room (lv + 1) X.A ∧ Binds X.K fd ps [] ∧ ∀ x dx, H1 x = none → H1 dx = none → dx ≠ x → ∃ (Ex : XK) (W : WX), Takes X W ∧ (∀ cls d H, Ex cls d H → W cls d σ H) ∧
  sp (.ref x :: vs) (upd (upd H1 dx (.own x)) x (.ins A dx [])) (fun v H2 => v = .non ∧ Q (.ref x) H2) Ex
theorem run_makeG {pins : List (Addr × Obj)} {σ : L2.St} {H : Hp} {s : Shared} {Q : VK} {us : List Value} {vs : List V} {A f : Addr} {lv : Nat} {fd : FuncData} {ps : List Str} {sp : Sp} (M : Mk X.K A f) (F : FnG X.prog X.w X.K X.mg X.base lv f fd ps sp) (hr : Room (lv + 1) X.A) (hgd : X.A.guards = some []) (hb : Binds X.K fd ps [])
    (I : Inv X pins σ H s) (r : Vals vs us)
    (h : ∀ x dx, H x = none → H dx = none → dx ≠ x → ∃ (Ex : XK) (W : WX), Takes X W ∧ (∀ cls d H, Ex cls d H → W cls d σ H) ∧ sp (.ref x :: vs) (upd (upd H dx (.own x)) x (.ins A dx [])) (fun v H2 => v = .non ∧ Q (.ref x) H2) Ex) :
    wpAny (model X.prog X.w) X.A (call (.ref A) us) (EP X pins σ Q) X.xe s := by
  obtain ⟨Ex, W, tk, hW, hq⟩ := h (s.heap.objs.size + 1) s.heap.objs.size (I.hok.fresh (Nat.le_succ _)) (I.hok.fresh (Nat.le_refl _)) (Nat.ne_of_lt (Nat.lt_succ_self _))
  have I2 := Inv.made (C := A) I
  have r2 : Vals (V.ref (s.heap.objs.size + 1) :: vs) (Value.ref (s.heap.objs.size + 1) :: us) := .cons rfl r
  have hl : (Value.ref (s.heap.objs.size + 1) :: us ++ []).length = ps.length := by
    have e := r2.length
    rw [F.len _ _ _ _ hq] at e
    rw [List.append_nil]
    exact e.symm
  have hb' := hb _ (Value.ref (s.heap.objs.size + 1) :: us) I2.kIn hl
  rw [List.append_nil] at hb'
  have hg2 : (X.A.under (.builtin "type.__call__" ⟨.ref A :: us, []⟩)).guards = some [] := by
    first | exact hgd | (simpa [Around.under, Code.envs, Code.isFrame, pushEnvs] using hgd)
  refine wpAny_call (make_map (f := f) I.kIn M.makes M.init (beq_iff_eq.mp M.fn) (codeAny_mono (F.run _ X.stack _ _ ⟨Value.ref (s.heap.objs.size + 1) :: us, []⟩ (Value.ref (s.heap.objs.size + 1) :: us) _ _ Ex (hr.make A us []) hg2
    (I2.env0.make A us []) hb' r2 hq) fun r s' hq' => ?_))
  cases r with
  | error e => exact tk e s' (XE.of_call I2 hW hq')
  | ok fl =>
    cases fl with
    | ret u =>
      obtain ⟨v, H', I3, rv, ev, q3⟩ := I2.after hq'
      subst ev
      exact ⟨rv, ⟨V.ref (s.heap.objs.size + 1), H', I3, rfl, q3⟩⟩
    | next => exact False.elim hq'
    | brk => exact False.elim hq'
    | cont => exact False.elim hq'
theorem pe_makeG {x : Str} {p : Pos} {xs : List Expr} {A f : Addr} {t : TA} (M : Mk X.K A f) (hgd : X.A.guards = some []) (hg : Gl X x) (hm : X.mg x = some (.ref A))
    (ha : PA X xs t) (hdb : (x == ("__debug__" : Str)) = false) (hs : ∀ e ∈ xs, noStarE e = true) (ht0 : xs = [] → ∀ σ H Q, t σ H Q → Q [] H) :
    PE X (.Call (.Name x p) xs [] pos) (tMkG X A f t) := by
  refine ⟨fun pins s σ H Q I h => ?_⟩
  refine wpAny_Call_Name_kw (ld_glob I hg hm ?_ hdb)
  cases xs with
  | nil =>
    obtain ⟨lv, fd, ps, sp, F, hr, hb, q⟩ := ht0 rfl _ _ _ h
    exact PySem.W.callWith_K0 I.kIn M.kp (run_makeG (us := []) M F hr hgd hb I .nil q)
  | cons e es =>
    refine PySem.W.callWith_K (h₀ := X.base) I.ok.mod.kin M.kp (thn (ha.run pos pins s σ H _ I h) fun us s1 ⟨vs, H1, I1, r, lv, fd, ps, sp, F, hr, hb, q⟩ => ⟨I1.kIn, ?_⟩) (star_cons (hs e (by simp))) (star_none fun e' he' => hs e' (by simp [he']))
    exact run_makeG M F hr hgd hb I1 r q
theorem Reps.get {K : PySem.W.Frag} {F : Hp} : ∀ {ds : List D} {vs : List V} {i : Nat} {d : D} {v : V}, Reps K cm F ds vs → ds[i]? = some d → vs[i]? = some v → Rep K cm F d v
  | _, _, i, d, v, .nil, e, _ => by simp at e
  | _, _, 0, d, v, .cons h _, e, e' => by simp at e e'; subst e e'; exact h
  | _, _, i + 1, d, v, .cons _ r, e, e' => Reps.get r (by simpa using e) (by simpa using e')
theorem sd_mkI (hm : T.Mono) (hca : C.ca = true) (hx : TPx X cm T) (xo : XOk X C) (cl : Calls X cm k C.df C.kn C.g) {c : String} {x : Str} {p : Pos} {l : List Dn} {xs : List Expr} (hc : (C.g.mkO c).isSome = true) (ec : x = Str.ofString c) (hg : gloB C.sc x = true) (hp : plainX x = true)
    (hs : Sds X cm T l xs) (hn : ∀ e ∈ xs, noStarE e = true) : Sd X cm T (mkD (dMk k c l)) (.Call (.Name x p) xs [] pos) := by
  subst ec
  obtain ⟨p1, p2, _⟩ := plainX_of hp
  rw [← cl.geq] at hc
  obtain ⟨f, ef⟩ := Option.isSome_iff_exists.mp hc
  obtain ⟨ad, A, h1, h2, h3, hrest⟩ := cl.mkr (xo.calm hca) c f ef
  refine sd_mk hm (peI (pe_makeG h3 xo.gd (xo.gl hg) h2 (Sds.vs hm hs) p1 hn (fun e0 σ H Q hq => ?_)) fun σ H Q hq => ?_) rfl
  · subst e0
    cases hs
    obtain ⟨ρ, F, lab, re, tk⟩ := hq
    have tk : Tk T σ F H lab (.ok (([] : List D), ρ)) _ := tk
    exact tk.now re [] .nil
  obtain ⟨ρ, F, lab, re, tk⟩ := hq
  refine ⟨ρ, F, lab, re, (tk.bnd hm).imp fun y F1 H1 lab1 tk1 re1 vs rs => ?_⟩
  rw [ef] at tk1
  have tk1 : Tk T σ F1 H1 lab1 (if (k.br f).headD false then mkO (k.ini f (.oi c [] :: y.1.map W.sh)) y.2 else .bad) _ := tk1
  split at tk1
  case isFalse => exact absurd rfl tk1.1
  rename_i hbr
  have hbr0 : (k.br f)[0]? = some true := by
    cases hk : k.br f with
    | nil => rw [hk] at hbr; simp at hbr
    | cons b0 bs => rw [hk] at hbr; simp at hbr; subst hbr; rfl
  have hnb : k.ini f (.oi c [] :: y.1.map W.sh) ≠ .bad := fun e => by rw [e] at tk1; exact tk1.1 rfl
  obtain ⟨fd, ps, lv, h4, h5, h6, h7, h8⟩ := hrest ⟨_, hnb⟩
  refine ⟨lv, fd, ps, _, h4, h6, h5, fun q dx hq hdx hne => ?_⟩
  have hFq : F1 q = none := none_of_sub re1.sub hq
  have hnp := h7 _ hnb
  let Hn : Hp := upd (upd H1 dx (.own q)) q (.ins A dx [])
  have nq : ∀ {b o}, H1 b = some o → Hn b = some o := fun {b o} e => by
    show upd (upd H1 dx (.own q)) q (.ins A dx []) b = some o
    rw [upd_ne (ne_of_none e hq), upd_ne (ne_of_none e hdx)]; exact e
  have subn : Sub F1 Hn := fun b o e => nq (re1.sub b o e)
  let labc : Lab := fun b => if b = q then some (1, 0) else none
  have hlen : y.1.length = vs.length := rs.length
  have hin : ∀ (i : Nat) (w : W) (v : V), (W.oi c [] :: y.1.map W.sh)[i]? = some w → (V.ref q :: vs)[i]? = some v → RelW X.K cm F1 Hn labc (i + 1) w v := fun i w v ew ev => by
    cases i with
    | zero =>
      simp at ew ev
      subst ew ev
      exact ⟨q, A, dx, [], rfl, if_pos rfl, upd_same, hFq, h1, trivial⟩
    | succ i =>
      rw [List.getElem?_cons_succ, List.getElem?_map] at ew
      rw [List.getElem?_cons_succ] at ev
      cases ed : y.1[i]? with
      | none => rw [ed] at ew; cases ew
      | some d =>
        rw [ed] at ew
        cases ew
        exact Reps.get rs ed ev
  have kept : ∀ {F' H' : Hp} {lab' : Lab}, Stp F1 Hn labc F' H' lab' → ∀ b o, H1 b = some o → F1 b = none → H' b = some o ∧ F' b = none ∧ lab' b = none := fun st b o hb hf =>
    st.fr b o (nq hb) hf (if_neg (ne_of_none hb hq))
  cases er : k.ini f (.oi c [] :: y.1.map W.sh) with
  | bad => exact absurd er hnb
  | ex c' fs =>
    rw [er] at tk1
    have tk1 : Tk T σ F1 H1 lab1 (R.ex c' fs y.2) _ := tk1
    have hT := hx σ F1 H1 lab1 c' fs y.2 (tk1.2.1 c' fs y.2 rfl) re1
    refine ⟨fun cls d H' => ExW X.K cm σ F1 H1 lab1 c' fs y.2 cls d σ H', _, hT, fun _ _ _ h => h, by rw [← hnp]; simp [hlen], _, F1, labc, subn, by simp [hlen], hin, hnb, fun w outs e => (by rw [er] at e; cases e), fun c2 fs2 e CC dd gs F' H' lab' s' st' hC hd hr => ?_⟩
    rw [er] at e
    cases e
    refine ⟨CC, dd, gs, F', lab1, rfl, hC, rfl, hd, hr, ⟨st'.ff, fun b o hb hf l => ?_⟩, re1.keep st'.ff s' (lab' := lab1) fun i b o j l hb hf => ?_, rfl⟩
    · obtain ⟨k1, k2, k3⟩ := kept st' b o hb hf
      exact ⟨k1, k2, l⟩
    · obtain ⟨k1, k2, k3⟩ := kept st' b o hb hf
      exact ⟨k1, k2, l⟩
  | ok w outs =>
    rw [er] at tk1
    refine ⟨fun _ _ _ => False, fun _ _ _ _ => False, Takes.no, fun _ _ _ h => h, by rw [← hnp]; simp [hlen], _, F1, labc, subn, by simp [hlen], hin, hnb, fun w' outs' e v F' H' lab' s' st' rw' ro => ?_, fun c' fs' e => (by rw [er] at e; cases e)⟩
    rw [er] at e
    cases e
    have hw : ∃ w0 os, w = .sh .non ∧ outs = w0 :: os ∧ ∀ c fs, w0 ≠ .xc c fs := by
      have h0 := tk1.1
      cases w with
      | sh d =>
        cases d with
        | non =>
          cases outs with
          | nil => exact absurd rfl h0
          | cons w0 os => exact ⟨w0, os, rfl, rfl, fun c fs e => by subst e; exact h0 rfl⟩
        | _ => exact absurd rfl h0
      | _ => exact absurd rfl h0
    obtain ⟨w0, os, rfl, rfl, hnx⟩ := hw
    have ek : mkO (RF.ok (.sh .non) (w0 :: os)) y.2 = R.ok (w0, y.2) := by cases w0 <;> first | rfl | exact absurd rfl (hnx _ _)
    have tk1 : Tk T σ F1 H1 lab1 (mkO (RF.ok (.sh .non) (w0 :: os)) y.2) _ := tk1
    rw [ek] at tk1
    refine ⟨by cases rw'; rfl, ?_⟩
    let lb : Lab := fun b => match H1 b, F1 b with
      | some _, none => lab1 b
      | _, _ => match lab' b with
        | some (1, j) => some (0, j)
        | _ => none
    have lbk : ∀ b o, H1 b = some o → F1 b = none → lb b = lab1 b := fun b o hb hf => by simp only [lb, hb, hf]
    have sS : Stp F1 H1 lab1 F' H' lb := ⟨st'.ff, fun b o hb hf l => by
      obtain ⟨k1, k2, k3⟩ := kept st' b o hb hf
      exact ⟨k1, k2, by rw [lbk b o hb hf]; exact l⟩⟩
    have rE := re1.keep st'.ff s' (lab' := lb) fun i b o j l hb hf => by
      obtain ⟨k1, k2, k3⟩ := kept st' b o hb hf
      exact ⟨k1, k2, by rw [lbk b o hb hf]; exact l⟩
    refine tk1.at_ sS rE (.ref q) (RelW.relab (fun b j o l hb hf => ?_) (ro 0 w0 (.ref q) rfl hbr0 rfl) (.inr hnx))
    have hno : ¬ ∃ o, H1 b = some o ∧ F1 b = none := fun ⟨o, h1, h2⟩ => by
      have := (kept st' b o h1 h2).2.2
      rw [l] at this
      cases this
    show (match H1 b, F1 b with
      | some _, none => lab1 b
      | _, _ => match lab' b with
        | some (1, j) => some (0, j)
        | _ => none) = some (0, j)
    cases h1 : H1 b with
    | none => simp only [l]
    | some o =>
      cases h2 : F1 b with
      | none => exact absurd ⟨o, h1, h2⟩ hno
      | some _ => simp only [l]
/-! ### len of an instance -/
theorem call_lenO (hgd : X.A.guards = some []) : CallR X (.builtin "len") (fun xs H Q => ∃ (b A dx g : Addr) (gs : List (Str × V)) (lv : Nat) (fd : FuncData) (ps : List Str) (sp : Sp), xs = [.ref b] ∧ H b = some (.ins A dx gs) ∧ Meth X.K A "__len__" g ∧ FnG X.prog X.w X.K X.mg X.base lv g fd ps sp ∧ Room (lv + 1) X.A ∧ Binds X.K fd ps [] ∧
    sp [.ref b] H (fun v H' => ∃ n : Int, v = .int n ∧ 0 ≤ n ∧ n < 2 ^ 63 ∧ Q (.int n) H') fun _ _ _ => False) := by
  intro pins s σ H xs us Q I r h
  obtain ⟨b, A, dx, g, gs, lv, fd, ps, sp, rfl, hb, hm, F, hr, hbd, q⟩ := h
  obtain ⟨u, rfl, ru⟩ := vals1 r
  obtain rfl : u = Value.ref b := ru
  obtain ⟨mA, O, _, _, _, _⟩ := ins_get I.hok hb
  obtain ⟨od, J, _⟩ := O.look
  obtain ⟨m, fr⟩ := I.fr
  have hl : ([Value.ref b] ++ []).length = ps.length := by have := F.len _ _ _ _ q; simpa using this
  have hg2 : X.A.in1.guards = some [] := by first | exact hgd | (simpa [Around.in1] using hgd)
  refine PySem.W.len_K fr I.ok.mod.kin J hm.at_ hm.fn (wpAny_call (codeAny_mono (F.run X.A.in1 X.stack s H ⟨[.ref b], []⟩ [.ref b] [.ref b] _ _ hr.in1 hg2 I.env0.in1 (hbd s [.ref b] I.kIn hl) (.cons (show RelV (V.ref b) (Value.ref b) from rfl) .nil) q) fun r s' hq => ?_))
  cases r with
  | error e =>
    exfalso
    obtain ⟨_, _, _, _, _, _, _, _, _, _, _, _, z⟩ := hq
    exact z
  | ok fl =>
    cases fl with
    | ret u =>
      obtain ⟨v, H', I3, rv, n, ev, h0, h1, q3⟩ := I.after hq
      subst ev
      obtain ⟨t, rfl⟩ := (show ∃ t, u = Value.int n t from rv)
      exact ⟨⟨h0, h1⟩, .int n, H', I3.tok _, ⟨_, rfl⟩, q3⟩
    | next => exact False.elim hq
    | brk => exact False.elim hq
    | cont => exact False.elim hq
theorem sd_lenI (hm : T.Mono) (hca : C.ca = true) (xo : XOk X C) (cl : Calls X cm k C.df C.kn C.g) {e : Expr} {x : Str} {p : Pos} (hx : C.blt x "len" = true) (h : Sd X cm T a e) (hn : noStarE e = true) : Sd X cm T (mkD (dLenI k a)) (.Call (.Name x p) [e] [] pos) := by
  obtain ⟨b1, b2, b3, b4, b5⟩ := xo.blt hx
  refine sd_mk hm (peI (pe_callB (call_lenO xo.gd) b1 b2 (by rw [b3]; kernel_rfl) (pa_cons h.r pa_nil (star_cons hn)) b5 b4 (star_cons hn) rfl) fun σ H Q hq => ?_) rfl
  obtain ⟨ρ, F, lab, re, tk⟩ := hq
  refine ⟨ρ, F, lab, re, (tk.bnd hm).imp fun x F1 H1 lab1 tk1 re1 v rv => ?_⟩
  obtain ⟨f, ef, tk1⟩ := tk1.pure ofO_noex
  have ef := ofO_eq ef
  simp only [Option.bind_eq_some_iff] at ef
  obtain ⟨c, ec, ef⟩ := ef
  split at tk1
  case isTrue => exact absurd rfl tk1.1
  rename_i hbr
  obtain ⟨b, A, dx, gs, rfl, hb, hc, hlk⟩ := recv_at cl re1 rv ec
  have hok : ∃ n ρ', callO k.low f [x.1] x.2 = .ok (.sh (.int n), ρ') ∧ 0 ≤ n ∧ n < 4611686018427387904 := by
    have h0 := tk1.1
    unfold lenO at h0
    split at h0
    · rename_i n ρ' e
      split at h0
      · rename_i hn
        exact ⟨n, ρ', e, hn.1, hn.2⟩
      · exact absurd rfl h0
    · exact absurd rfl h0
  obtain ⟨n, ρ', ecall, hn0, hn1⟩ := hok
  have hnb : ∃ ws, k.ini f ws ≠ .bad := by
    unfold callO at ecall
    split at ecall
    · obtain ⟨ws, _, ecall⟩ := bind_okE ecall
      refine ⟨ws, fun eb => ?_⟩
      have : k.low.c f ws = .bad := eb
      rw [this] at ecall
      cases ecall
    · cases ecall
  obtain ⟨ad, fd, ps, lv, h1, h2, h3, h4, h5, h6⟩ := cl.mtl (xo.calm hca) c "__len__" f ef hnb
  obtain ⟨q1, q2⟩ := h1 A hc
  rw [ecall] at tk1
  have tk1 : Tk T σ F1 H1 lab1 (if 0 ≤ n ∧ n < 4611686018427387904 then .ok (W.sh (.int n), ρ') else .bad) _ := tk1
  rw [if_pos ⟨hn0, hn1⟩] at tk1
  refine ⟨b, A, dx, ad, gs, lv, fd, ps, _, rfl, hb, q2, h2, h4, h3, ?_⟩
  refine call_sp_ok (k := k.low) (T := T) h5 h6 (as := [x.1]) (fun i n' ei => ?_) ⟨_, ecall⟩ re1 (.cons rv .nil) ?_
  · cases i with
    | zero =>
      have : x.1 = .r n' := by simpa using ei
      rw [this] at hbr
      simp only [isR, Bool.true_and, Bool.not_eq_true, Bool.not_eq_false'] at hbr
      show (k.br f)[0]? = some true
      cases hk : k.br f with
      | nil => rw [hk] at hbr; simp at hbr
      | cons b0 bs => rw [hk] at hbr; simp at hbr; subst hbr; rfl
    | succ i => simp at ei
  · rw [ecall]
    refine ⟨fun z => (by cases z), fun _ _ _ z => (by cases z), fun y ey F' H' lab' st re' v' rv' => ?_⟩
    cases ey
    cases rv'
    exact ⟨n, rfl, hn0, by omega, tk1.at_ st re' _ (.int n)⟩
end
end Z

set_option Elab.async false
set_option linter.all false
set_option maxRecDepth 100000
set_option maxHeartbeats 8000000
/-! Zx: isinstance with a class of the program. -/
namespace Z
open PySem
open PySem.Spec
open PyProof.Rows
open L2
section
variable {X : Cx} {K : PySem.W.Frag} {cm : String → Option Addr} {T : TP} {C : CkC} {a : Dn} {k : Cl} {pos : Pos}
theorem dTy_in (d : D) (h : isIns d = false) : dTy d ∈ tyNs := by
  cases d <;> first | (simp [dTy, tyNs]; done) | cases h
/-- a class's name is read -/
theorem pe_cls (xo : XOk X C) {c : String} {z : Str} {u : Value} {pz : Pos} (hz : (if c = "ValueError" then C.blt z "ValueError" else gloB C.sc z && plainX z) = true) (ez : z = Str.ofString c) (n : NmC X c u) : ∃ v, ClsV v u ∧ PE X (.Name z pz) (tC v) := by
  subst ez
  rcases n with ⟨A, rfl, hA⟩ | ⟨rfl, rfl, hn⟩
  · refine ⟨.ref A, .own A, ?_⟩
    split at hz
    · rename_i e
      subst e
      obtain ⟨b1, b2, b3, b4, b5⟩ := xo.blt hz
      rw [hA] at b2
      cases b2
    · simp only [Bool.and_eq_true] at hz
      exact pe_glob (v := .ref A) (xo.gl hz.1) hA rfl (plainX_of hz.2).1
  · rw [if_pos rfl] at hz
    obtain ⟨b1, b2, b3, b4, b5⟩ := xo.blt hz
    exact ⟨.ty "ValueError", .ty _, pe_bltn b1 b2 (by kernel_rfl) rfl b5 b4⟩
theorem iscD_ty {F H : Hp} {g : GX} {c : String} {u : Value} {d : D} {v : V} {b : Bool} (cq : ClQ X cm g c u) (sf : Sub F H) (hv : Vw X.K cm F H d v) (e : iscD g d c = some b) : ∃ t, TyX X.K H v t ∧ PySem.W.kitOne X.K t u = some b := by
  have plain : isIns d = false → (if g.isd.contains c = true then some false else none) = some b → ∃ t, TyX X.K H v t ∧ PySem.W.kitOne X.K t u = some b := fun hi h => by
    split at h
    · rename_i hc
      cases h
      exact ⟨_, vw_ty sf hv hi, cq.isd hc _ (dTy_in d hi)⟩
    · cases h
  cases d with
  | ins c' fs =>
    have e : g.isx.lookup (c', c) = some b := e
    rcases hv with r | ⟨p, vs, ds, e1, e2, _⟩ | ⟨t, l, p, e1, e2, _⟩
    · cases r with
      | ins h q r =>
        obtain ⟨i1, i2⟩ := cq.isx c' b _ e q
        exact ⟨_, .base (.ins (sf _ _ h) i1.cl i1.q1 i1.q2 i1.q3 i1.q4), i2⟩
    · cases e1
    · cases e1
  | _ => exact plain rfl e
theorem sd_isc (hm : T.Mono) (xo : XOk X C) (cl : Calls X cm k C.df C.kn C.g) {ea : E} {y : Expr} {z x : Str} {c : String} {p pz : Pos} (hx : C.blt x "isinstance" = true) (n1 : noStarE y = true) (hc : clsB C c z = true) (ha : Sd X cm T (den k ea) y)
    (hvar : ∀ i, ea = .var i → PE X y (tVar i)) : Sd X cm T (mkD (dIsc k.g ea (den k ea) c)) (.Call (.Name x p) [y, .Name z pz] [] pos) := by
  obtain ⟨b1, b2, b3, b4, b5⟩ := xo.blt hx
  simp only [clsB, Bool.and_eq_true, decide_eq_true_eq] at hc
  obtain ⟨hc1, hc2, hc3⟩ := hc
  have hcm : c ∈ k.g.cls := by rw [cl.geq]; simpa using hc1
  obtain ⟨u, cq⟩ := cl.clq c hcm
  obtain ⟨vu, hvu, hp⟩ := pe_cls xo (pz := pz) hc3 hc2 cq.nm
  have two : noStarE (.Name z pz) = true := rfl
  have hst : starEach [y, .Name z pz] X.env = (false, eval y X.env) :: starEach [.Name z pz] X.env := star_cons n1
  have hpl : (backTo pos (starEach [.Name z pz] X.env)).any (·.1) = false := star_none fun e he => by simp at he; rw [he]; exact two
  have gen : PE X (.Call (.Name x p) [y, .Name z pz] [] pos) (tz X.K cm T fun ρ => ((den k ea).o ρ).bind fun x => (look x.2 x.1).bind fun d => (ofO (iscD k.g d c)).bind fun b => .ok (.sh (.bl b), x.2)) := by
    refine peI (pe_callB call_isi b1 b2 (by rw [b3]; exact boot_isi) (pa_cons ha.o (pa_cons hp pa_nil (star_cons two)) hst) b5 b4 hst hpl) fun σ H Q hq => ?_
    obtain ⟨ρ, F, lab, re, tk⟩ := hq
    refine ⟨ρ, F, lab, re, (tk.bnd hm).imp fun x F1 H1 lab1 tk1 re1 v rv => ?_⟩
    obtain ⟨d, ed, tk2⟩ := tk1.pure look_noex
    obtain ⟨b, eb, tk3⟩ := tk2.pure ofO_noex
    have eb : iscD k.g d c = some b := by cases h : iscD k.g d c <;> rw [h] at eb <;> cases eb; rfl
    obtain ⟨t, h1, h2⟩ := iscD_ty cq re1.sub (look_vw re1 rv ed) eb
    exact ⟨v, vu, t, u, b, rfl, hvu, h1, h2, tk3.now re1 _ (.bl b)⟩
  refine sd_mk hm ?_ rfl
  cases ea with
  | var i =>
    refine ⟨fun pins s σ H Q I hq => ?_⟩
    obtain ⟨ρ, F, lab, re, tk⟩ := hq
    have tk : Tk T σ F H lab (if isXc (gt ρ i) then (ofO (iscX k.g (gt ρ i) c)).bind fun b => R.ok (W.sh (.bl b), ρ) else ((den k (.var i)).o ρ).bind fun x => (look x.2 x.1).bind fun d => (ofO (iscD k.g d c)).bind fun b => R.ok (W.sh (.bl b), x.2)) _ := tk
    by_cases hxc : isXc (gt ρ i) = true
    · rw [if_pos hxc] at tk
      obtain ⟨b, eb, tk2⟩ := tk.pure ofO_noex
      have eb : iscX k.g (gt ρ i) c = some b := by cases h : iscX k.g (gt ρ i) c <;> rw [h] at eb <;> cases eb; rfl
      obtain ⟨c', fs, hw⟩ : ∃ c' fs, gt ρ i = some (.xc c' fs) := by
        cases hg : gt ρ i with
        | none => rw [hg] at hxc; cases hxc
        | some w => cases w <;> first | exact ⟨_, _, rfl⟩ | (rw [hg] at hxc; cases hxc)
      rw [hw] at eb
      have eb : k.g.esb.lookup (c', c) = some b := eb
      obtain ⟨v, e1, r⟩ := re.at_ i _ hw
      obtain ⟨_, a0, dd, C0, gs, c1, c2, c3, rfl, hcc, hF, hr⟩ := r
      obtain ⟨X0, oe, pn, eX, hz, hvs⟩ := cl.xcq a0 dd C0 c1 c2 c3
      obtain ⟨q1, _, q3⟩ := cq.esb c' b C0 eb hcc
      subst eX
      refine (pe_callB (call_isX (X := X0) q1 hz hvs) b1 b2 (by rw [b3]; exact boot_isi) (pa_cons (hvar i rfl) (pa_cons hp pa_nil (star_cons two)) hst) b5 b4 hst hpl).run pins s σ H Q I ?_
      exact ⟨_, e1, vu, u, gs, b, rfl, hvu, re.sub _ _ hF, q3, tk2.now re _ (.bl b)⟩
    · rw [if_neg hxc] at tk
      exact gen.run pins s σ H Q I ⟨ρ, F, lab, re, tk⟩
  | _ => exact gen
end
end Z

set_option Elab.async false
set_option linter.all false
set_option maxRecDepth 100000
set_option maxHeartbeats 8000000
/-! Zb: C(..).m(..), C an own class whose instances a method changes. -/
namespace Z
open PySem
open PySem.Spec
open PyProof.Rows
open L2
section
variable {X : Cx} {cm : String → Option Addr} {T : TP} {C : CkC} {k : Cl} {a : Dn} {pos : Pos}
def tPa (K : PySem.W.Frag) (cm : String → Option Addr) (l : List E) : TA := fun σ H Q => ∃ ρ F lab ds, RE K cm F H lab ρ σ ∧ pureDs l ρ = some ds ∧ ∀ vs, Reps K cm F ds vs → Q vs H
def tPe (K : PySem.W.Frag) (cm : String → Option Addr) (e : E) : TE := fun σ H Q => ∃ ρ F lab d, RE K cm F H lab ρ σ ∧ pureD e ρ = some d ∧ ∀ v, Rep K cm F d v → Q v H
theorem pe_pure (xo : XOk X C) : ∀ {e : E} {x : Expr}, ckPu C e x = true → PE X x (tPe X.K cm e) ∧ noStarE x = true := fun {e x} h => by
  unfold ckPu at h
  split at h
  · rename_i i n p
    simp only [Bool.and_eq_true, decide_eq_true_eq] at h
    obtain ⟨q1, q2, _⟩ := plainX_of h.2.2
    refine ⟨peI (pe_var (by rw [xo.n]; exact h.1) (xo.vis h.2.1) q1 q2) fun σ H Q hq => ?_, rfl⟩
    obtain ⟨ρ, F, lab, d, re, ed, hq⟩ := hq
    have ed : (match gt ρ i with
      | some (.sh d) => some d
      | _ => none) = some d := ed
    split at ed
    · rename_i d' eg
      cases ed
      obtain ⟨v, ev, r⟩ := re.at_ i _ eg
      exact ⟨v, ev, hq v r⟩
    · cases ed
  · rename_i i j k' p
    simp only [decide_eq_true_eq] at h
    subst h
    refine ⟨peI pe_int fun σ H Q hq => ?_, rfl⟩
    obtain ⟨ρ, F, lab, d, re, ed, hq⟩ := hq
    cases ed
    exact hq _ (.int _)
  · cases h
theorem pa_pure (xo : XOk X C) : ∀ {l : List E} {xs : List Expr}, ckPus C l xs = true → PA X xs (tPa X.K cm l) ∧ ∀ e ∈ xs, noStarE e = true
  | [], [], _ => ⟨paI pa_nil fun σ H Q ⟨ρ, F, lab, ds, re, eds, hq⟩ => by cases eds; exact hq [] .nil, fun e he => by cases he⟩
  | a :: l, x :: xs, h => by
    rw [ckPus, Bool.and_eq_true] at h
    obtain ⟨h1, n1⟩ := pe_pure (cm := cm) xo h.1
    obtain ⟨h2, n2⟩ := pa_pure xo h.2
    refine ⟨paI (pa_cons h1 h2 (star_cons n1)) fun σ H Q hq => ?_, fun e he => ?_⟩
    · obtain ⟨ρ, F, lab, ds, re, eds, hq⟩ := hq
      unfold pureDs at eds
      split at eds
      · rename_i d ds' e1 e2
        cases eds
        exact ⟨ρ, F, lab, d, re, e1, fun v rv => ⟨ρ, F, lab, ds', re, e2, fun vs rvs => hq _ (.cons rv rvs)⟩⟩
      · cases eds
    · rcases List.mem_cons.mp he with rfl | he
      · exact n1
      · exact n2 e he
  | [], _ :: _, h => by cases h
  | _ :: _, [], h => by cases h
def labO (lab : Lab) : Lab := fun a => match lab a with
  | some (0, j) => some (1, j)
  | _ => none
def labP (F H : Hp) (lab labc : Lab) : Lab := fun a => match H a, F a, labO lab a with
  | some _, none, none => lab a
  | _, _, _ => match labc a with
    | some (0, j) => some (0, j)
    | _ => none
theorem call_own {k : Cl} {f : String} {np : Nat} (hx : TPx X cm T) (hlen : ∀ ws, k.c f ws ≠ .bad → ws.length = np)
    {F1 H1 : Hp} {lab1 : Lab} {σ : L2.St} {ρ : Env} {w0 : W} {v0 : V} {ds : List D} {vs : List V} {Q : VK} (hw0 : ∀ c fs, w0 ≠ .xc c fs)
    (re1 : RE X.K cm F1 H1 lab1 ρ σ) (rv : RelW X.K cm F1 H1 lab1 0 w0 v0) (rs : Reps X.K cm F1 ds vs) (tk : Tk T σ F1 H1 lab1 (callOw k f w0 ds ρ) fun x F' H' lab' => RE X.K cm F' H' lab' x.2 σ → ∀ v, RelW X.K cm F' H' lab' 0 x.1 v → Q v H') :
    ∃ (Ex : XK) (W : WX), Takes X W ∧ (∀ cls d H, Ex cls d H → W cls d σ H) ∧ spZ X.K cm np (k.br f) (k.c f) (v0 :: vs) H1 Q Ex := by
  unfold callOw at tk
  have hnb : k.c f (w0 :: ds.map W.sh) ≠ .bad := fun e => by
    rw [e] at tk
    exact tk.1 rfl
  have hnp := hlen _ hnb
  have hl := rs.length
  have hvl : (v0 :: vs).length = np := by rw [← hnp]; simp [hl]
  have hin : ∀ (i : Nat) (w : W) (v : V), (w0 :: ds.map W.sh)[i]? = some w → (v0 :: vs)[i]? = some v → RelW X.K cm F1 H1 (labO lab1) (i + 1) w v := fun i w v ew ev => by
    cases i with
    | zero =>
      simp at ew ev
      subst ew ev
      exact rv.relab (fun a j o l ha hf => by simp only [labO, l]) (.inr hw0)
    | succ i =>
      simp only [List.getElem?_cons_succ, List.getElem?_map, Option.map_eq_some_iff] at ew ev
      obtain ⟨d, ed, rfl⟩ := ew
      exact rs.get ed ev
  have lw : (w0 :: ds.map W.sh).length = (v0 :: vs).length := by simp [hl]
  cases er : k.c f (w0 :: ds.map W.sh) with
  | bad => exact absurd er hnb
  | ex c fs =>
    rw [er] at tk
    have hT := hx σ F1 H1 lab1 c fs ρ (tk.2.1 c fs ρ rfl) re1
    refine ⟨fun cls d H' => ExW X.K cm σ F1 H1 lab1 c fs ρ cls d σ H', _, hT, fun _ _ _ h => h, hvl, w0 :: ds.map W.sh, F1, labO lab1, re1.sub, lw, hin, hnb, fun w outs e => (by rw [er] at e; cases e), fun c' fs' e C dd gs F' H' lab' s' st' hC hd hr => ?_⟩
    rw [er] at e
    cases e
    let lb : Lab := labP F1 H1 lab1 lab'
    have kept : ∀ a o, H1 a = some o → F1 a = none → labO lab1 a = none → H' a = some o ∧ F' a = none ∧ lb a = lab1 a := fun a o ha hf hn => by
      obtain ⟨k1, k2, k3⟩ := st'.fr a o ha hf hn
      exact ⟨k1, k2, by simp only [lb, labP, ha, hf, hn]⟩
    have sS : Stp F1 H1 lab1 F' H' lb := ⟨st'.ff, fun a o ha hf l => by
      obtain ⟨k1, k2, k3⟩ := kept a o ha hf (by simp only [labO, l])
      exact ⟨k1, k2, by rw [k3]; exact l⟩⟩
    have rE := re1.keep st'.ff s' (lab' := lb) fun i a o j l ha hf => by
      obtain ⟨k1, k2, k3⟩ := kept a o ha hf (by simp only [labO, l])
      exact ⟨k1, k2, by rw [k3]; exact l⟩
    exact ⟨C, dd, gs, F', lb, rfl, hC, rfl, hd, hr, sS, rE, rfl⟩
  | ok w outs =>
    rw [er] at tk
    refine ⟨fun _ _ _ => False, fun _ _ _ _ => False, Takes.no, fun _ _ _ h => h, hvl, w0 :: ds.map W.sh, F1, labO lab1, re1.sub, lw, hin, hnb, fun w' outs' e v F' H' lab' s' st' rw' ro => ?_, fun c' fs' e => (by rw [er] at e; cases e)⟩
    rw [er] at e
    cases e
    let lb : Lab := labP F1 H1 lab1 lab'
    have kept : ∀ a o, H1 a = some o → F1 a = none → labO lab1 a = none → H' a = some o ∧ F' a = none ∧ lab' a = none ∧ lb a = lab1 a := fun a o ha hf hn => by
      obtain ⟨k1, k2, k3⟩ := st'.fr a o ha hf hn
      exact ⟨k1, k2, k3, by simp only [lb, labP, ha, hf, hn]⟩
    have given : ∀ a j, lab' a = some (0, j) → lb a = some (0, j) := fun a j l => by
      have : ¬ (∃ o, H1 a = some o ∧ F1 a = none ∧ labO lab1 a = none) := fun ⟨o, ha, hf, hn⟩ => by
        have := (kept a o ha hf hn).2.2.1
        rw [l] at this; cases this
      simp only [lb, labP]
      cases ha : H1 a with
      | none => simp only [l]
      | some o =>
        cases hf : F1 a with
        | some _ => simp only [l]
        | none =>
          cases hn : labO lab1 a with
          | some _ => simp only [l]
          | none => exact absurd ⟨o, ha, hf, hn⟩ this
    have sS : Stp F1 H1 lab1 F' H' lb := ⟨st'.ff, fun a o ha hf l => by
      obtain ⟨k1, k2, _, k3⟩ := kept a o ha hf (by simp only [labO, l])
      exact ⟨k1, k2, by rw [k3]; exact l⟩⟩
    refine tk.at_ sS ?_ v (rw'.relab fun a j o l ha hf => given a j l)
    exact re1.keep st'.ff s' (lab' := lb) fun i a o j l ha hf => by
      obtain ⟨k1, k2, _, k3⟩ := kept a o ha hf (by simp only [labO, l])
      exact ⟨k1, k2, by rw [k3]; exact l⟩
theorem sd_methO (hm : T.Mono) (hca : C.ca = true) (hx : TPx X cm T) (xo : XOk X C) (cl : Calls X cm k C.df C.kn C.g) {e : Expr} {m : String} {g : Str} {l : List E} {xs : List Expr} {apos : Pos} (hg : g = Str.ofString m) (hp : plainO e = true) (hline : (apos.endLine == pos.line) = true) (hl : xs.length < 30)
    (h : Sd X cm T a e) (hs : ckPus C l xs = true) : Sd X cm T (mkD (dMethO k a m l)) (.Call (.Attribute e g apos) xs [] pos) := by
  subst hg
  obtain ⟨h2, hn⟩ := pa_pure (cm := cm) xo hs
  refine sd_mk hm (peI (pe_methG (t := fun bs => tPa X.K cm l) h.v xo.gd (fun bs => h2) hp hn hl hline (fun e0 bs σ H Q hq => ?_)) fun σ H Q hq => ?_) rfl
  · subst e0
    obtain ⟨ρ, F, lab, ds, re, eds, hq⟩ := hq
    cases l with
    | nil => cases eds; exact hq [] .nil
    | cons a l => simp [ckPus] at hs
  obtain ⟨ρ, F, lab, re, tk⟩ := hq
  refine ⟨ρ, F, lab, re, (tk.bnd hm).imp fun x F1 H1 lab1 tk1 re1 v rv => ?_⟩
  obtain ⟨x1, x2⟩ := x
  cases x1 with
  | oi c fs =>
    obtain ⟨f, ef, tk1⟩ := tk1.pure ofO_noex
    obtain ⟨ds, eds, tk1⟩ := tk1.pure ofO_noex
    have ef : (if (lkF fs m).isNone then k.g.mtO c m else none) = some f := ofO_eq ef
    have eds : pureDs l x2 = some ds := ofO_eq eds
    split at ef
    case isFalse => cases ef
    rename_i hno
    obtain ⟨p, A, dx, gs, rfl, lp, hp, fp, hc, hr⟩ := id rv
    obtain ⟨ad, fd, ps, lv, h1, h2, h3, h4, h5, h6⟩ := cl.mtr (xo.calm hca) c m f ef
    obtain ⟨q1, q2⟩ := h1 A hc
    refine ⟨p, A, dx, ad, gs, lv, fd, ps, _, [], rfl, hp, q1, q2, hr.look.2 (by simpa using hno), h2, h4, h3, x2, F1, lab1, ds, re1, eds, fun vs rs => ?_⟩
    exact call_own hx h5 (fun _ _ z => by cases z) re1 rv rs tk1
  | _ => exact absurd rfl tk1.1
end
end Z

set_option Elab.async false
set_option linter.all false
set_option maxRecDepth 100000
set_option maxHeartbeats 8000000
/-! Zd: fields of a name's own instance; calls with defaults; get with a default; written dicts; a field's list loses its first item. -/
namespace Z
open PySem
open PySem.Spec
open PyProof.Rows
open L2
section
variable {K : PySem.W.Frag} {cm : String → Option Addr}
/-- the place of a field -/
def posF {α : Type} : List (String × α) → String → Nat
  | [], _ => 0
  | (n, _) :: r, f => if n = f then 0 else posF r f + 1
theorem RelFs.put {F H : Hp} {lab : Lab} {s : Nat} {w : Fw} {v : V} {f : String} : ∀ {k : Nat} {fs : List (String × Fw)} {gs : List (Str × V)}, RelFs K cm F H lab s k fs gs → RelR K cm F H lab (s, k + posF fs f + 1) w v → RelFs K cm F H lab s k (putW fs f w) (putF (Str.ofString f) v gs)
  | k, [], [], _, h => ⟨rfl, h, trivial⟩
  | k, (n, w0) :: r, (m, v0) :: q, hr, h => by
    obtain ⟨rfl, hw, hq⟩ := hr
    by_cases e : n = f
    · subst e
      unfold putW putF
      rw [if_pos rfl, if_pos rfl]
      unfold posF at h
      rw [if_pos rfl] at h
      exact ⟨rfl, h, hq⟩
    · have hb : ¬ Str.ofString n = Str.ofString f := fun z => e (ofString_inj z)
      have hb2 : ¬ Str.ofString f = Str.ofString n := fun z => e (ofString_inj z).symm
      unfold putW putF
      unfold posF at h
      rw [if_neg e] at h
      rw [if_neg e]
      first | rw [if_neg hb] | rw [if_neg hb2]
      refine ⟨rfl, hw, RelFs.put hq ?_⟩
      have e2 : k + (posF r f + 1) + 1 = k + 1 + posF r f + 1 := by omega
      rw [e2] at h
      exact h
  | _, [], _ :: _, h, _ => h.elim
  | _, _ :: _, [], h, _ => h.elim
/-- what has another label stands -/
theorem RelR.upd {F H : Hp} {lab : Lab} {s j : Nat} {w : Fw} {v : V} {p : Addr} {o : HO} {b : Nat × Nat} (hp : lab p = some b) (hb : b ≠ (s, j)) (h : RelR K cm F H lab (s, j) w v) : RelR K cm F (L2.upd H p o) lab (s, j) w v := by
  cases w with
  | sh d => exact h
  | ol ds =>
    obtain ⟨q, vs, e, l, hq, fq, r⟩ := h
    have : q ≠ p := fun z => hb (by rw [z, hp] at l; exact Option.some.inj l)
    exact ⟨q, vs, e, l, by rw [upd_ne this]; exact hq, fq, r⟩
  | od t l =>
    obtain ⟨q, e, lb, fq, r⟩ := h
    have : q ≠ p := fun z => hb (by rw [z, hp] at lb; exact Option.some.inj lb)
    exact ⟨q, e, lb, fq, by rw [upd_ne this]; exact r⟩
theorem RelFs.upd {F H : Hp} {lab : Lab} {s : Nat} {p : Addr} {o : HO} {b : Nat × Nat} (hp : lab p = some b) : ∀ {k : Nat} {fs : List (String × Fw)} {gs : List (Str × V)}, (∀ j, k < j → b ≠ (s, j)) → RelFs K cm F H lab s k fs gs → RelFs K cm F (L2.upd H p o) lab s k fs gs
  | _, [], [], _, _ => trivial
  | k, (n, w) :: r, (m, v) :: q, hb, h => ⟨h.1, h.2.1.upd hp (hb _ (by omega)), RelFs.upd hp (fun j hj => hb j (by omega)) h.2.2⟩
  | _, [], _ :: _, _, h => h.elim
  | _, _ :: _, [], _, h => h.elim
variable {ρ : Env} {σ : L2.St}
/-- what is in hand becomes a field's -/
theorem hand_field {F H : Hp} {lab : Lab} {w : W} {v : V} {i j : Nat} (h : RE K cm F H lab ρ σ) (r : RelW K cm F H lab 0 w v) : ∃ F2 lab2, Stp F H lab F2 H lab2 ∧ RE K cm F2 H lab2 ρ σ ∧ RelR K cm F2 H lab2 (i + 1, j) w.fw v ∧ Sub F F2 := by
  have own : ∀ q b, lab q = some (0, b) → Stp F H lab F H (fun a => if a = q then some (i + 1, j) else lab a) ∧ RE K cm F H (fun a => if a = q then some (i + 1, j) else lab a) ρ σ := fun q b hq =>
    ⟨⟨Sub.refl F, fun a o ha hf hl => ⟨ha, hf, by
      have : a ≠ q := fun e => by rw [e, hq] at hl; cases hl
      show (if a = q then some (i + 1, j) else lab a) = none
      rw [if_neg this]; exact hl⟩⟩, h.keep (Sub.refl F) h.sub fun s a o jj hl ha hf => ⟨ha, hf, by
      have : a ≠ q := fun e => by rw [e, hq] at hl; cases hl
      show (if a = q then some (i + 1, j) else lab a) = _
      rw [if_neg this]; exact hl⟩⟩
  have frz : ∃ F2, Stp F H lab F2 H lab ∧ RE K cm F2 H lab ρ σ ∧ Rep K cm F2 w.frz v := hand_frz h r
  cases w with
  | sh d => exact ⟨F, lab, Stp.refl _ _ _, h, r, Sub.refl F⟩
  | ol ds =>
    obtain ⟨q, vs, rfl, l, hq, fq, rr⟩ := r
    obtain ⟨s1, re1⟩ := own q 0 l
    exact ⟨F, _, s1, re1, ⟨q, vs, rfl, if_pos rfl, hq, fq, rr⟩, Sub.refl F⟩
  | od t l =>
    obtain ⟨q, rfl, lq, fq, rr⟩ := r
    obtain ⟨s1, re1⟩ := own q 0 lq
    exact ⟨F, _, s1, re1, ⟨q, rfl, if_pos rfl, fq, rr⟩, Sub.refl F⟩
  | oi c fs =>
    obtain ⟨F2, s2, re2, r2⟩ := frz
    exact ⟨F2, lab, s2, re2, r2, s2.ff⟩
  | xc _ _ => exact absurd rfl r.1
theorem RelFs.putU {F H : Hp} {lab : Lab} {s : Nat} {w : Fw} {v : V} {f : String} {p : Addr} {o : HO} : ∀ {k : Nat} {fs : List (String × Fw)} {gs : List (Str × V)}, RelFs K cm F H lab s k fs gs → lab p = some (s, k + posF fs f + 1) → RelR K cm F (L2.upd H p o) lab (s, k + posF fs f + 1) w v → RelFs K cm F (L2.upd H p o) lab s k (putW fs f w) (putF (Str.ofString f) v gs)
  | k, [], [], _, _, h => ⟨rfl, h, trivial⟩
  | k, (n, w0) :: r, (m, v0) :: q, hr, hl, h => by
    obtain ⟨rfl, hw, hq⟩ := hr
    by_cases e : n = f
    · subst e
      unfold putW putF
      rw [if_pos rfl, if_pos rfl]
      unfold posF at h hl
      rw [if_pos rfl] at h hl
      exact ⟨rfl, h, hq.upd hl fun j hj e => by have h9 := congrArg Prod.snd e; simp only at h9; omega⟩
    · have hb : ¬ Str.ofString n = Str.ofString f := fun z => e (ofString_inj z)
      have hb2 : ¬ Str.ofString f = Str.ofString n := fun z => e (ofString_inj z).symm
      unfold putW putF
      unfold posF at h hl
      rw [if_neg e] at h hl
      rw [if_neg e]
      first | rw [if_neg hb] | rw [if_neg hb2]
      refine ⟨rfl, hw.upd hl (fun e => by have h9 := congrArg Prod.snd e; simp only at h9; omega), RelFs.putU hq ?_ ?_⟩
      · have e2 : k + (posF r f + 1) + 1 = k + 1 + posF r f + 1 := by omega
        rw [e2] at hl
        exact hl
      · have e2 : k + (posF r f + 1) + 1 = k + 1 + posF r f + 1 := by omega
        rw [e2] at h
        exact h
  | _, [], _ :: _, h, _, _ => h.elim
  | _, _ :: _, [], h, _, _ => h.elim
theorem RelFs.lookP {F H : Hp} {lab : Lab} {s : Nat} : ∀ {k : Nat} {fs : List (String × Fw)} {gs : List (Str × V)} {f : String} {w : Fw}, RelFs K cm F H lab s k fs gs → lkF fs f = some w → ∃ v, gs.lookup (Str.ofString f) = some v ∧ RelR K cm F H lab (s, k + posF fs f + 1) w v
  | _, [], [], f, w, _, e => by cases e
  | k, (n, w0) :: r, (m, v0) :: q, f, w, h, e => by
    obtain ⟨rfl, hw, hr⟩ := h
    by_cases en : n = f
    · subst en
      unfold lkF at e; rw [if_pos rfl] at e; cases e
      refine ⟨v0, by simp [List.lookup_cons], ?_⟩
      unfold posF; rw [if_pos rfl]; exact hw
    · have hb : (Str.ofString f == Str.ofString n) = false := by simpa using fun z => en (ofString_inj z).symm
      unfold lkF at e; rw [if_neg en] at e
      obtain ⟨v, h1, h2⟩ := RelFs.lookP hr e
      refine ⟨v, by rw [List.lookup_cons, hb]; exact h1, ?_⟩
      unfold posF; rw [if_neg en]
      have e2 : k + (posF r f + 1) + 1 = k + 1 + posF r f + 1 := by omega
      rw [e2]; exact h2
  | _, [], _ :: _, _, _, h, _ => h.elim
  | _, _ :: _, [], _, _, h, _ => h.elim
theorem putF_same {f : Str} {v : V} : ∀ {gs : List (Str × V)}, gs.lookup f = some v → putF f v gs = gs
  | [], e => by cases e
  | (m, x) :: r, e => by
    by_cases h : f = m
    · subst h
      simp [List.lookup_cons] at e
      subst e
      unfold putF
      simp
    · have hb : (f == m) = false := by simpa using h
      rw [List.lookup_cons, hb] at e
      unfold putF
      first | rw [if_neg h] | rw [if_neg (Ne.symm h)]
      rw [putF_same e]
theorem RE.rewriteF {F H : Hp} {lab : Lab} {i j : Nat} {p : Addr} {o : HO} {w : W} {v0 : V} (re : RE K cm F H lab ρ σ) (hp : lab p = some (i + 1, j)) (hs : σ[i]? = some (some v0)) (fp : F p = none)
    (r : RelW K cm F (L2.upd H p o) lab (i + 1) w v0) : Stp F H lab F (L2.upd H p o) lab ∧ RE K cm F (L2.upd H p o) lab (st ρ i (some w)) σ := by
  have st1 : Stp F H lab F (L2.upd H p o) lab := ⟨Sub.refl F, fun a u ha hf hl => by
    have : a ≠ p := fun e => by rw [e, hp] at hl; cases hl
    exact ⟨by rw [upd_ne this]; exact ha, hf, hl⟩⟩
  refine ⟨st1, ?_⟩
  have sub : Sub F (L2.upd H p o) := fun a u e => by
    have : a ≠ p := fun e' => by rw [e', fp] at e; cases e
    rw [upd_ne this]; exact re.sub a u e
  have h0 : RE K cm F (L2.upd H p o) lab (st ρ i none) σ := by
    refine ⟨sub, by rw [st_length]; exact re.len, fun j' x ex => ?_⟩
    by_cases hj : j' = i
    · subst hj
      have hl := gt_lt ex
      rw [st_length] at hl
      rw [gt_st_same hl] at ex
      cases ex
    · rw [gt_st_ne hj] at ex
      obtain ⟨v, e1, q⟩ := re.at_ j' x ex
      refine ⟨v, e1, q.keep (Sub.refl F) fun a u jj hl ha hf => ?_⟩
      have : a ≠ p := fun e => by
        rw [e, hp] at hl
        have := congrArg Prod.fst (Option.some.inj hl)
        exact hj (by simpa using this.symm)
      exact ⟨by rw [upd_ne this]; exact ha, hf, hl⟩
  have h1 := h0.put hs r
  rw [st_st] at h1
  exact h1
theorem vw_key {F H : Hp} {t : Bool} {q : D} {kk : List Key} {v : V} (h : Vw K cm F H q v) (e : keyD t q = some kk) : Rep K cm F q v := by
  rcases h with h | ⟨_, _, _, rfl, _⟩ | ⟨_, _, _, rfl, _⟩
  · exact h
  · cases t <;> cases e
  · cases t <;> cases e
theorem putW_len {fs : List (String × Fw)} {f : String} {w : Fw} : (putW fs f w).length ≤ fs.length + 1 := by
  induction fs with
  | nil => simp [putW]
  | cons a r ih =>
    obtain ⟨n, w0⟩ := a
    unfold putW
    split
    · simp
    · simp only [List.length_cons]; omega
theorem RelFs.len {F H : Hp} {lab : Lab} {s : Nat} : ∀ {k : Nat} {fs : List (String × Fw)} {gs : List (Str × V)}, RelFs K cm F H lab s k fs gs → fs.length = gs.length
  | _, [], [], _ => rfl
  | _, (n, w) :: r, (m, v) :: q, h => by rw [List.length_cons, List.length_cons, RelFs.len h.2.2]
  | _, [], _ :: _, h => h.elim
  | _, _ :: _, [], h => h.elim
end
/-! ### calls with defaults -/
theorem dAs_len : ∀ {l : List Dn} {bs : List Bool} {ρ ρ' : Env} {as : List Arg}, dAs l bs ρ = .ok (as, ρ') → as.length = l.length
  | [], bs, ρ, ρ', as, h => by unfold dAs at h; cases h; rfl
  | a :: l, bs, ρ, ρ', as, h => by
    unfold dAs at h
    obtain ⟨x, ex, h⟩ := bind_okE h
    obtain ⟨y, ey, h⟩ := bind_okE h
    cases h
    have := dAs_len (l := l) (as := y.1) (ρ' := y.2) ey
    rw [List.length_cons, List.length_cons, this]
theorem rep_flat {K : PySem.W.Frag} {cm : String → Option Addr} {F : Hp} {d : D} (h : flatD d = true) : Rep K cm F d (toV d) := by
  cases d <;> first | exact .non | exact .bl _ | exact .int _ | exact .str _ | cases h
theorem RelAs.merge {K : PySem.W.Frag} {cm : String → Option Addr} {F : Hp} {σ : L2.St} : ∀ {dv : List (Option D)} {as : List Arg} {vs : List V}, (defsOf dv).all flatD = true → RelAs K cm F σ as vs → RelAs K cm F σ (mergeG dv as ((defsOf dv).map Arg.v)) (mergeG dv vs ((defsOf dv).map toV))
  | [], _, _, _, _ => .nil
  | none :: r, _, _, hf, .nil => .nil
  | none :: r, _, _, hf, .cons h hs => .cons h (RelAs.merge (dv := r) hf hs)
  | some d :: r, as, vs, hf, hs => by
    have hf' : (d :: defsOf r).all flatD = true := hf
    rw [List.all_cons, Bool.and_eq_true] at hf'
    exact .cons (rep_flat hf'.1) (RelAs.merge (dv := r) hf'.2 hs)
theorem merge_br : ∀ {dv : List (Option D)} {as : List Arg} {br : List Bool}, (∀ (i n : Nat), as[i]? = some (Arg.r n) → (givB dv br)[i]? = some true) → ∀ (i n : Nat), (mergeG dv as ((defsOf dv).map Arg.v))[i]? = some (Arg.r n) → br[i]? = some true
  | [], as, br, h, i, n, e => by simp [mergeG] at e
  | none :: r, [], br, h, i, n, e => by simp [mergeG] at e
  | none :: r, a :: as, br, h, i, n, e => by
    cases i with
    | zero =>
      have e : a = Arg.r n := by simpa [mergeG] using e
      have h0 := h 0 n (by rw [e]; rfl)
      have h0 : some (br.headD false) = some true := h0
      cases br with
      | nil => cases h0
      | cons b br => simpa using h0
    | succ i =>
      have e : (mergeG r as ((defsOf r).map Arg.v))[i]? = some (Arg.r n) := e
      have := merge_br (dv := r) (as := as) (br := br.tail) (fun j m hj => h (j + 1) m hj) i n e
      cases br with
      | nil => simp at this
      | cons b br => exact this
  | some d :: r, as, br, h, i, n, e => by
    cases i with
    | zero => cases e
    | succ i =>
      have e : (mergeG r as ((defsOf r).map Arg.v))[i]? = some (Arg.r n) := e
      have := merge_br (dv := r) (as := as) (br := br.tail) h i n e
      cases br with
      | nil => simp at this
      | cons b br => exact this
section
variable {X : Cx} {cm : String → Option Addr} {T : TP} {C : CkC} {a b c : Dn} {e1 e2 e3 : Expr} {pos : Pos} {k : Cl}
theorem RelAs.app {K : PySem.W.Frag} {F : Hp} {σ : L2.St} : ∀ {as as' : List Arg} {vs vs' : List V}, RelAs K cm F σ as vs → RelAs K cm F σ as' vs' → RelAs K cm F σ (as ++ as') (vs ++ vs')
  | _, _, _, _, .nil, h => h
  | _, _, _, _, .cons a r, h => .cons a (RelAs.app r h)
theorem RelAs.up {K : PySem.W.Frag} {F F' : Hp} {σ : L2.St} (s : Sub F F') : ∀ {as : List Arg} {vs : List V}, RelAs K cm F σ as vs → RelAs K cm F' σ as vs
  | _, _, .nil => .nil
  | _, _, .cons a r => .cons (a.mono s) (RelAs.up s r)
theorem sd_calls (hm : T.Mono) (hx : TPx X cm T) (xo : XOk X C) (cl : Calls X cm k C.df C.kn C.g) (hca : C.ca = true) {sk f : String} {s : Sh} {l kl : List Dn} {xs : List Expr} {kws : List Keyword} {el : List E} {x : Str} {p : Pos} (hs : C.g.shp.lookup sk = some (f, s))
    (ef : x = Str.ofString f) (hg : gloB C.sc x = true) (hp : plainX x = true) (hl : xs.length = s.n ∧ 0 < s.n ∧ l.length = s.n) (h : Sds X cm T l xs) (hn : ∀ e ∈ xs, noStarE e = true) (hk : ckKs C el s.ks kws = true) (hkl : kl.length = s.ks.length) (hkw : Sdk X cm T kl kws) :
    Sd X cm T (mkD (dCallS k sk l kl)) (.Call (.Name x p) xs kws pos) := by
  have hs' : k.g.shp.lookup sk = some (f, s) := by rw [cl.geq]; exact hs
  obtain ⟨ad, fd, ps, lv, h1, h2, h3, hB, h5, h6, h7⟩ := cl.shq (xo.calm hca) sk f s hs'
  subst ef
  obtain ⟨p1, p2, _⟩ := plainX_of hp
  have nm := ckKs_names (env := X.env) hk
  have nm2 : (backToKw pos (keywordEach kws X.env)).map (·.1) = s.ks.map fun n => some (Str.ofString n) := by rw [backKw_fst]; exact nm
  obtain ⟨a1, a2, a3⟩ := kw_all nm2
  obtain ⟨_, _, hfl, _⟩ := hB.ex
  refine sd_mk hm ?_ rfl
  cases h with
  | nil => exact absurd hl.2.1 (by have := hl.1; simp at this; omega)
  | cons h0 n0 r =>
    rename_i a0 e0 l0 es
    have hpl : ((backTo pos (starEach (e0 :: es) X.env)).any (·.1) || (backToKw pos (keywordEach kws X.env)).any (·.1.isNone)) = false := by
      rw [a3, star_none hn]; rfl
    refine peI (pe_callS h3 h5 xo.gd (xo.gl hg) h1 h2 hB (Sds.as hm (givB s.dv (k.br f)) (.cons h0 n0 r)) (hkw.as hm ((givB s.dv (k.br f)).drop (a0 :: l0).length)) a1 a2 p1 (star_cons n0) hpl) fun σ H Q hq => ?_
    obtain ⟨ρ, F, lab, re, tk⟩ := hq
    have e : dCallS k sk (a0 :: l0) kl ρ = (dAs (a0 :: l0) (givB s.dv (k.br f)) ρ).bind fun x => (dAs kl ((givB s.dv (k.br f)).drop (a0 :: l0).length) x.2).bind fun y => callO k f (mergeG s.dv (x.1 ++ y.1) ((defsOf s.dv).map Arg.v)) y.2 := by
      unfold dCallS
      rw [hs']
    rw [e] at tk
    refine ⟨ρ, F, lab, re, (tk.bnd hm).eqn.imp fun x F1 H1 lab1 ⟨ex, tk1⟩ re1 vs rs => ⟨x.2, F1, lab1, re1, ?_⟩⟩
    have tb := tk1.bnd hm
    refine ⟨tb.1, tb.2.1, fun y ey F2 H2 lab2 s2 re2 zs rz => ⟨?_, ?_, ?_⟩⟩
    · rw [← rs.at.1, dAs_len ex]; exact hl.2.2
    · rw [← rz.at.1, dAs_len ey]; exact hkl
    · refine call_sp hx h6 h7 (merge_br fun i n hi => ?_) re2 (RelAs.merge hfl ((rs.up s2.ff).app rz)) (tb.2.2 y ey F2 H2 lab2 s2)
      by_cases hlt : i < x.1.length
      · rw [List.getElem?_append_left hlt] at hi
        exact dAs_br ex i n hi
      · rw [List.getElem?_append_right (by omega)] at hi
        have := dAs_br ey _ n hi
        rw [List.getElem?_drop, dAs_len ex] at this
        rwa [show (a0 :: l0).length + (i - (a0 :: l0).length) = i by rw [dAs_len ex] at hlt; omega] at this
/-! ### d.get(x, e) -/
theorem getO_noex {p x d : D} : ∀ c fs ρ, getO p x d ≠ .ex c fs ρ := by
  unfold getO
  split
  · exact bind_noex ofO_noex fun _ => ok_noex
  · exact bad_noex
theorem DicAt.isD {K : PySem.W.Frag} {F H : Hp} {t : Bool} {l : List (D × D)} {p : Addr} (h : DicAt K cm F t l (H p)) : IsD H p := by
  cases t with
  | false => obtain ⟨m, e, _⟩ := h; exact .inl ⟨m, .inl e⟩
  | true => obtain ⟨m, e, _⟩ := h; exact .inr ⟨m, .inl e⟩
theorem sd_get2 (hm : T.Mono) (xo : XOk X C) {ap cp : Pos} (n1 : noStarE e2 = true) (n2 : noStarE e3 = true) (hline : (ap.endLine == cp.line) = true) (hb0 : ∀ (f : Str) (env : PySem.Env) (m : Sem Value), attributeBase e1 f env m = m)
    (ha : Sd X cm T a e1) (hb : Sd X cm T b e2) (hc : Sd X cm T c e3) : Sd X cm T (mkD (dGet2 a b c)) (.Call (.Attribute e1 "get" ap) [e2, e3] [] cp) := by
  have hu : X.A.units + 1 < cLine := by have := xo.un; omega
  have m : M2 X e1 "get" ap e2 e3 cp := ⟨hb0 _ _ _, by rw [star_cons n1, star_cons n2]; rfl, hline, by rw [star_cons n1, star_cons n2]; rfl⟩
  refine sd_mk hm (peI (pe_dget2 hu ha.o (hb.f hm) (hc.f hm) m) fun σ H Q hq => ?_) rfl
  obtain ⟨ρ, F, lab, re, tk⟩ := hq
  have tk : Tk T σ F H lab ((a.o ρ).bind fun x => (look x.2 x.1).bind fun p0 => if isDic p0 then (b.v x.2).bind fun y => (c.v y.2).bind fun z => (look z.2 x.1).bind fun p => (getO p y.1.frz z.1.frz).bind fun w => .ok (w, z.2) else .bad) _ := tk
  refine ⟨ρ, F, lab, re, (tk.bnd hm).imp fun x F1 H1 lab1 tk1 re1 v rv => ?_⟩
  obtain ⟨p0, e0, tk2⟩ := tk1.pure look_noex
  split at tk2
  case isFalse => exact absurd rfl tk2.1
  rename_i hdic
  obtain ⟨t, l, rfl⟩ : ∃ t l, p0 = .dic t l := by cases p0 <;> first | exact ⟨_, _, rfl⟩ | cases hdic
  obtain ⟨p, rfl, hd⟩ := (look_vw re1 rv e0).dic re1.sub
  refine ⟨p, rfl, hd.isD, x.2, F1, lab1, re1, ?_⟩
  rw [bind_frz (m := b.v) (g := fun d ρ' => (c.v ρ').bind fun z => (look z.2 x.1).bind fun q => (getO q d z.1.frz).bind fun w => R.ok (w, z.2))] at tk2
  have tb := tk2.bnd hm
  refine ⟨tb.1, tb.2.1, fun y ey F2 H2 lab2 s2 re2 vy ry => ?_⟩
  have tk3 : Tk T σ F2 H2 lab2 ((c.v y.2).bind fun z => (look z.2 x.1).bind fun q => (getO q y.1 z.1.frz).bind fun w => R.ok (w, z.2)) _ := tb.2.2 y ey F2 H2 lab2 s2
  rw [bind_frz (m := c.v) (g := fun d ρ' => (look ρ' x.1).bind fun q => (getO q y.1 d).bind fun w => R.ok (w, ρ'))] at tk3
  refine ⟨y.2, F2, lab2, re2, ?_⟩
  have tc := tk3.bnd hm
  refine ⟨tc.1, tc.2.1, fun z ez F3 H3 lab3 s3 re3 vz rz => ?_⟩
  have tk4 : Tk T σ F3 H3 lab3 ((look z.2 x.1).bind fun q => (getO q y.1 z.1).bind fun w => R.ok (w, z.2)) _ := tc.2.2 z ez F3 H3 lab3 s3
  obtain ⟨q, eq, tk5⟩ := tk4.pure look_noex
  obtain ⟨w, ew, tk6⟩ := tk5.pure getO_noex
  unfold getO at ew
  split at ew
  case h_2 => cases ew
  rename_i t' l'
  obtain ⟨p', e', hd'⟩ := (look_vw re3 ((rv.mono s2.ff).mono s3.ff) eq).dic re3.sub
  cases e'
  cases ek : keyD t' y.1 with
  | none => rw [ek] at ew; cases ew
  | some kk =>
    rw [ek] at ew
    cases ew
    obtain ⟨o, g1, g2, g3⟩ := dicAt_get re3.sub hd' (ry.mono s3.ff) ek
    refine ⟨o, g1, ?_⟩
    cases eg : dget t' kk l' with
    | none =>
      rw [eg] at tk6
      rw [g3 eg]
      exact tk6.now re3 _ rz
    | some b' =>
      obtain ⟨v', e1, r1⟩ := g2 b' eg
      rw [eg] at tk6
      rw [e1]
      exact tk6.now re3 _ r1
/-! ### a dict that is written -/
def trsOf (X : Cx) (cm : String → Option Addr) (T : TP) (ks : List Str) (l : List Dn) : List (TE × TE) := (ks.zip l).map fun z => (tC (.str z.1), tzv X.K cm T (frzV z.2.v))
theorem pairs_ok (hm : T.Mono) : ∀ {ks : List Str} {l : List Dn} {σ : L2.St} {H : Hp} {Q : List (V × V) → Hp → Prop} {ρ : Env} {F : Hp} {lab : Lab}, ks.length = l.length → RE X.K cm F H lab ρ σ →
    Tk T σ F H lab (dVs l ρ) (fun x F' H' lab' => RE X.K cm F' H' lab' x.2 σ → ∀ vs, Reps X.K cm F' x.1 vs → Q ((ks.map V.str).zip vs) H') → tPairs (trsOf X cm T ks l) σ H Q
  | [], [], σ, H, Q, ρ, F, lab, _, re, tk => tk.now re [] .nil
  | [], _ :: _, _, _, _, _, _, _, hl, _, _ => by simp at hl
  | _ :: _, [], _, _, _, _, _, _, hl, _, _ => by simp at hl
  | s :: ks, a :: l, σ, H, Q, ρ, F, lab, hl, re, tk => by
    have tk : Tk T σ F H lab ((a.v ρ).bind fun x => (dVs l x.2).bind fun y => .ok (x.1.frz :: y.1, y.2)) _ := tk
    rw [bind_frz (m := a.v) (g := fun d ρ' => (dVs l ρ').bind fun y => R.ok (d :: y.1, y.2))] at tk
    refine ⟨ρ, F, lab, re, (tk.bnd hm).imp fun x F1 H1 lab1 tk1 re1 v rv => ?_⟩
    refine pairs_ok hm (ks := ks) (l := l) (by simpa using hl) re1 ?_
    have tb := tk1.bnd hm
    exact ⟨tb.1, tb.2.1, fun y ey F2 H2 lab2 s2 re2 vs rvs => (tb.2.2 y ey F2 H2 lab2 s2).now re2 (v :: vs) (.cons (rv.mono s2.ff) rvs)⟩
theorem merge_nodup : ∀ {ks : List Str} {vs : List V} {acc : List (L2.Key × V)}, ks.Nodup → (∀ s ∈ ks, valV acc (.inr s) = none) → mergeK acc ((ks.map Sum.inr).zip vs) = acc ++ (ks.map Sum.inr).zip vs
  | [], vs, acc, _, _ => by simp [mergeK]
  | s :: ks, [], acc, _, _ => by simp [mergeK]
  | s :: ks, v :: vs, acc, hn, h => by
    rw [List.nodup_cons] at hn
    have e : mergeK acc (((s :: ks).map Sum.inr).zip (v :: vs)) = mergeK (putK acc (.inr s) v) ((ks.map Sum.inr).zip vs) := rfl
    rw [e, putK_new v (h s (by simp)), merge_nodup hn.2]
    · simp
    · intro s' hs'
      have hne : ¬ (Sum.inr s : L2.Key) = Sum.inr s' := fun e => hn.1 (by cases e; exact hs')
      rw [valV_snoc _ _ _ _ (h s (by simp)), if_neg (fun e => hne e.symm)]
      exact h s' (by simp [hs'])
theorem repK_zip {K : PySem.W.Frag} {F : Hp} : ∀ {ks : List Str} {ds : List D} {vs : List V}, Reps K cm F ds vs → RepK K cm F ((ks.map D.str).zip ds) ((ks.map Sum.inr).zip vs)
  | [], _, _, _ => .nil
  | s :: ks, _, _, .nil => .nil
  | s :: ks, _, _, .cons h r => .cons rfl h (repK_zip r)
theorem sd_dicl (hm : T.Mono) {ks : List Str} {l : List Dn} {keys : List (Option Expr)} {vals : List Expr} (h : PPs X pos keys vals (trsOf X cm T ks l)) (hall : keys.all (·.isSome) = true) (hl : keys.length = vals.length) (hk : keys.length = ks.length) (hkl : ks.length = l.length) (h15 : 0 < keys.length ∧ keys.length < 16) :
    Sd X cm T (mkD (dDicl ks l)) (.Dict keys vals pos) := by
  have h0 : keys ≠ [] := fun e => by rw [e] at h15; exact absurd h15.1 (by simp)
  refine sd_mk hm (peI (pe_disp h hall hl h0 (by omega)) fun σ H Q hq p hp => ?_) rfl
  obtain ⟨ρ, F, lab, re, tk⟩ := hq
  have tk : Tk T σ F H lab ((dVs l ρ).bind fun x => if ks.length = x.1.length ∧ ks.Nodup ∧ 0 < ks.length ∧ ks.length ≤ 15 then R.ok (W.od false ((ks.map D.str).zip x.1), x.2) else .bad) _ := tk
  have hnl : ∀ a o, H a = some o → a ≠ p := fun a o e => ne_of_none e hp
  let lab1 : Lab := fun a => if a = p then none else lab a
  have fp : F p = none := by
    cases e : F p with
    | none => rfl
    | some o => have := re.sub p o e; rw [hp] at this; cases this
  have st1 : Stp F H lab F (upd H p (.dK [])) lab1 := ⟨Sub.refl F, fun a o ha hf hl => by
    have := hnl a o ha
    exact ⟨by rw [upd_ne this]; exact ha, hf, by show (if a = p then none else lab a) = none; rw [if_neg this]; exact hl⟩⟩
  have sub1 : Sub F (upd H p (.dK [])) := fun a o e => by
    have := hnl a o (re.sub a o e)
    rw [upd_ne this]; exact re.sub a o e
  have re1 : RE X.K cm F (upd H p (.dK [])) lab1 ρ σ := re.keep (Sub.refl F) sub1 fun i a o j hl ha hf => by
    have := hnl a o ha
    exact ⟨by rw [upd_ne this]; exact ha, hf, by show (if a = p then none else lab a) = _; rw [if_neg this]; exact hl⟩
  have tb := tk.bnd hm
  have tb1 := tb.step hm st1
  refine pairs_ok hm (ks := ks) (l := l) hkl re1 ⟨tb1.1, tb1.2.1, fun x ex F2 H2 lab2 s2 re2 vs rs => ?_⟩
  obtain ⟨g1, g2, g3⟩ := s2.fr p _ upd_same fp (if_pos rfl)
  have tk2 := tb.2.2 x ex
  have hc : ks.length = x.1.length ∧ ks.Nodup ∧ 0 < ks.length ∧ ks.length ≤ 15 := by
    have h2 := (tb.2.2 x ex F H lab (Stp.refl _ _ _)).1
    by_cases hq : ks.length = x.1.length ∧ ks.Nodup ∧ 0 < ks.length ∧ ks.length ≤ 15
    · exact hq
    · rw [if_neg hq] at h2; exact absurd rfl h2
  refine ⟨g1, (ks.map Sum.inr).zip vs, ?_, by rw [List.length_zip, List.length_map]; omega, ?_⟩
  · have : ∀ (ks : List Str) (vs : List V), (ks.map V.str).zip vs = ((ks.map (Sum.inr : Str → L2.Key)).zip vs).map fun kv => (kV kv.1, kv.2) := by
      intro ks
      induction ks with
      | nil => intro vs; rfl
      | cons s ks ih =>
        intro vs
        cases vs with
        | nil => rfl
        | cons v vs => simp only [List.map_cons, List.zip_cons_cons, ih]; rfl
    exact this ks vs
  rw [merge_nodup hc.2.1 (fun _ _ => rfl), List.nil_append]
  let lab3 : Lab := fun a => if a = p then some (0, 0) else lab2 a
  have st3 : Stp F H lab F2 (upd H2 p (.dK ((ks.map Sum.inr).zip vs))) lab3 := ⟨s2.ff, fun a o ha hf hl => by
    have hne := hnl a o ha
    obtain ⟨q1, q2, q3⟩ := (st1.trans s2).fr a o ha hf hl
    exact ⟨by rw [upd_ne hne]; exact q1, q2, by show (if a = p then some (0, 0) else lab2 a) = none; rw [if_neg hne]; exact q3⟩⟩
  have re3 : RE X.K cm F2 (upd H2 p (.dK ((ks.map Sum.inr).zip vs))) lab3 x.2 σ := re2.keep (Sub.refl F2) (fun a o e => by
    have : a ≠ p := fun z => by rw [z, g2] at e; cases e
    rw [upd_ne this]; exact re2.sub a o e) fun i a o j hl ha hf => by
    have : a ≠ p := fun z => by rw [z, g3] at hl; cases hl
    exact ⟨by rw [upd_ne this]; exact ha, hf, by show (if a = p then some (0, 0) else lab2 a) = _; rw [if_neg this]; exact hl⟩
  have tk3 : Tk T σ F2 (upd H2 p (.dK ((ks.map Sum.inr).zip vs))) lab3 (if ks.length = x.1.length ∧ ks.Nodup ∧ 0 < ks.length ∧ ks.length ≤ 15 then R.ok (W.od false ((ks.map D.str).zip x.1), x.2) else .bad) _ := tb.2.2 x ex F2 _ lab3 st3
  rw [if_pos hc] at tk3
  exact tk3.now re3 _ ⟨p, rfl, if_pos rfl, g2, _, upd_same, repK_zip rs⟩
/-! ### a field's own list loses its first item -/
theorem sd_popF (hm : T.Mono) (xo : XOk X C) (cl : Calls X cm k C.df C.kn C.g) {i : Nat} {f : String} {y g : Str} {p1 p2 ap cp pk : Pos} {kk : Nat} (hg : g = Str.ofString f) (hN : C.N[i]? = some y) (hvis : visB C.sc y = true) (hpl : plainX y = true) (hline : (ap.endLine == cp.line) = true) :
    Sd X cm T (mkD (dPopF k.g i f)) (.Call (.Attribute (.Attribute (.Name y p1) g p2) "pop" ap) [.Constant (.int 0) kk pk] [] cp) := by
  subst hg
  obtain ⟨q1, q2, _⟩ := plainX_of hpl
  have hv : PE X (.Name y p1) (tVar i) := pe_var (by rw [xo.n]; exact hN) (xo.vis hvis) q1 q2
  refine sd_mk hm (peI (pe_bm PySem.F.plainAttrs_list PySem.F.slot_list_pop PySem.F.type_list_pop mt_popAt (pe_fld (f := Str.ofString f) (pos := p2) hv (attr_base rfl)) (pa_cons pe_int pa_nil (star_cons rfl)) (attr_base rfl) rfl hline (star_cons rfl) rfl) fun σ H Q hq => ?_) rfl
  obtain ⟨ρ, F, lab, re, tk⟩ := hq
  have tk : Tk T σ F H lab (popW k.g i f (gt ρ i) ρ) _ := tk
  unfold popW at tk
  split at tk
  case h_2 => exact absurd rfl tk.1
  rename_i c fs eg
  split at tk
  case isFalse => exact absurd rfl tk.1
  rename_i hat
  split at tk
  case h_2 => exact absurd rfl tk.1
  rename_i d l hlk
  obtain ⟨v0, e1, p0, A, dx, gs, rfl, lp0, hp0, fp0, hcm, hr⟩ := re.at_ i _ eg
  obtain ⟨k1, k2⟩ := cl.atr c f A hat hcm
  obtain ⟨v', l1, p, vs, rfl, lp, hp, fp, rr⟩ := hr.lookP hlk
  cases rr with
  | cons rd rl =>
    rename_i v1 vs1
    refine ⟨_, e1, p0, A, dx, gs, .ref p, rfl, hp0, k1, k2, l1, .inl ⟨rfl, _, .inl (.inl hp)⟩, p, _, 0, 0, v1, rfl, rfl, hp, by decide, by decide, by simp [seqIndex?], rfl, ?_⟩
    have hne : p0 ≠ p := fun e => by
      rw [← e, lp0] at lp
      have := congrArg Prod.snd (Option.some.inj lp)
      simp at this
    have hall : RelFs X.K cm F (L2.upd H p (.lst ((v1 :: vs1).eraseIdx 0))) lab (i + 1) 0 (putW fs f (.ol l)) (putF (Str.ofString f) (.ref p) gs) :=
      RelFs.putU hr lp ⟨p, _, rfl, lp, upd_same, fp, rl⟩
    rw [putF_same l1] at hall
    obtain ⟨s3, re3⟩ := re.rewriteF (w := .oi c (putW fs f (.ol l))) (v0 := .ref p0) lp e1 fp ⟨p0, A, dx, gs, rfl, lp0, by rw [upd_ne hne]; exact hp0, fp0, hcm, hall⟩
    exact tk.at_ s3 re3 _ rd
end
end Z

set_option Elab.async false
set_option linter.all false
set_option maxRecDepth 100000
set_option maxHeartbeats 8000000
/-! Z13: every expression. -/
namespace Z
open PySem
open PySem.Spec
open PyProof.Rows
open L2
section
variable {cm : String → Option Addr} {k : Cl}
theorem pe_ckvar {X : Cx} {C : CkC} (xo : XOk X C) {i : Nat} {ex : Expr} (h : ck C (.var i) ex = true) : PE X ex (tVar i) := by
  unfold ck at h; split at h <;> first | contradiction | skip
  rename_i heq; cases heq
  simp only [Bool.and_eq_true, decide_eq_true_eq] at h
  obtain ⟨p1, p2, _⟩ := plainX_of h.2
  exact pe_var (by rw [xo.n]; exact h.1.1) (xo.vis h.1.2) p1 p2
theorem TPF.tpx {X : Cx} : TPx X cm TPF := fun _ _ _ _ _ _ _ h _ => h.elim
theorem dens_len (k : Cl) : ∀ l : List E, (dens k l).length = l.length
  | [] => rfl
  | a :: l => by show (den k a :: dens k l).length = _; rw [List.length_cons, List.length_cons, dens_len k l]
theorem sndks_len {C : CkC} : ∀ (l : List E) (ns : List String) (ks : List Keyword), ckKs C l ns ks = true → l.length = ns.length
  | [], ns, ks, h => by unfold ckKs at h; split at h <;> first | contradiction | rfl
  | a :: l, ns, ks, h => by
    unfold ckKs at h; split at h <;> first | contradiction | skip
    rename_i heq
    cases heq
    simp only [Bool.and_eq_true] at h
    rw [List.length_cons, List.length_cons, sndks_len l _ _ h.2.2]
mutual
theorem snd : ∀ (a : E) {X : Cx} {C : CkC} {T : TP} (hm : T.Mono) (hx : TPx X cm T) (xo : XOk X C) (cl : Calls X cm k C.df C.kn C.g) (e : Expr), ck C a e = true → Sd X cm T (den k a) e
  | .var i, X, C, T, hm, hx, xo, cl, e, h => by
    unfold ck at h; split at h <;> first | contradiction | skip
    rename_i heq; cases heq
    simp only [Bool.and_eq_true, decide_eq_true_eq] at h
    exact sd_var hm xo h.1.1 h.1.2 h.2
  | .int i, X, C, T, hm, hx, xo, cl, e, h => by
    unfold ck at h; split at h <;> first | contradiction | skip
    rename_i heq; cases heq
    simp only [decide_eq_true_eq] at h
    subst h
    exact sd_C hm pe_int (fun F => .int _) rfl
  | .str s, X, C, T, hm, hx, xo, cl, e, h => by
    unfold ck at h; split at h <;> first | contradiction | skip
    rename_i heq; cases heq
    simp only [decide_eq_true_eq] at h
    subst h
    exact sd_C hm pe_str (fun F => .str _) rfl
  | .bl b, X, C, T, hm, hx, xo, cl, e, h => by
    unfold ck at h; split at h <;> first | contradiction | skip
    rename_i heq; cases heq
    simp only [decide_eq_true_eq] at h
    subst h
    exact sd_C hm pe_bl (fun F => .bl _) rfl
  | .non, X, C, T, hm, hx, xo, cl, e, h => by
    unfold ck at h; split at h <;> first | contradiction | skip
    rename_i heq; cases heq
    exact sd_C hm pe_non (fun F => .non) rfl
  | .bin o a b, X, C, T, hm, hx, xo, cl, e, h => by
    unfold ck at h; split at h <;> first | contradiction | skip
    rename_i heq; cases heq
    simp only [Bool.and_eq_true] at h
    exact sd_bin hm h.1 (snd a hm hx xo cl _ h.2.1) (snd b hm hx xo cl _ h.2.2)
  | .cmp o a b, X, C, T, hm, hx, xo, cl, e, h => by
    unfold ck at h; split at h <;> first | contradiction | skip
    rename_i heq; cases heq
    simp only [Bool.and_eq_true, Bool.not_eq_true'] at h
    exact sd_cmp hm xo h.1 (snd a hm hx xo cl _ h.2.2.1) (snd b hm hx xo cl _ h.2.2.2) h.2.1
  | .chn o o' a b c, X, C, T, hm, hx, xo, cl, e, h => by
    unfold ck at h; split at h <;> first | contradiction | skip
    rename_i heq; cases heq
    simp only [Bool.and_eq_true, Bool.not_eq_true'] at h
    exact sd_chn hm xo h.1 h.2.1 (snd a hm hx xo cl _ h.2.2.2.1) (snd b hm hx xo cl _ h.2.2.2.2.1) (snd c hm hx xo cl _ h.2.2.2.2.2) h.2.2.1
  | .neg a, X, C, T, hm, hx, xo, cl, e, h => by
    unfold ck at h; split at h <;> first | contradiction | skip
    rename_i heq; cases heq
    exact sd_neg hm (snd a hm hx xo cl _ h)
  | .not a, X, C, T, hm, hx, xo, cl, e, h => by
    unfold ck at h; split at h <;> first | contradiction | skip
    rename_i heq; cases heq
    exact sd_not hm (snd a hm hx xo cl _ h)
  | .and l, X, C, T, hm, hx, xo, cl, e, h => by
    unfold ck at h; split at h <;> first | contradiction | skip
    rename_i heq; cases heq
    simp only [Bool.and_eq_true, Bool.not_eq_true'] at h
    obtain ⟨h1, h2⟩ := sds_and (pos := ‹Pos›) hm (snds l hm hx xo cl _ h.2) (by rintro rfl; cases h.1)
    exact sd_mkT hm h1 h2.pt
  | .or l, X, C, T, hm, hx, xo, cl, e, h => by
    unfold ck at h; split at h <;> first | contradiction | skip
    rename_i heq; cases heq
    simp only [Bool.and_eq_true, Bool.not_eq_true'] at h
    obtain ⟨h1, h2⟩ := sds_or (pos := ‹Pos›) hm (snds l hm hx xo cl _ h.2) (by rintro rfl; cases h.1)
    exact sd_mkT hm h1 h2.pt
  | .ite t a b, X, C, T, hm, hx, xo, cl, e, h => by
    unfold ck at h; split at h <;> first | contradiction | skip
    rename_i heq; cases heq
    simp only [Bool.and_eq_true] at h
    exact sd_ite hm (snd t hm hx xo cl _ h.1) (snd a hm hx xo cl _ h.2.1) (snd b hm hx xo cl _ h.2.2)
  | .tup l, X, C, T, hm, hx, xo, cl, e, h => by
    unfold ck at h; split at h <;> first | contradiction | skip
    rename_i heq; cases heq
    exact sd_tup hm (snds l hm hx xo cl _ h)
  | .lst l, X, C, T, hm, hx, xo, cl, e, h => by
    unfold ck at h; split at h <;> first | contradiction | skip
    rename_i heq; cases heq
    exact sd_lst hm (snds l hm hx xo cl _ h)
  | .dic t, X, C, T, hm, hx, xo, cl, e, h => by
    unfold ck at h; split at h <;> first | contradiction | skip
    rename_i heq; cases heq
    exact sd_dic hm
  | .ix a i, X, C, T, hm, hx, xo, cl, e, h => by
    unfold ck at h; split at h <;> first | contradiction | skip
    rename_i heq; cases heq
    simp only [Bool.and_eq_true] at h
    exact sd_ix hm xo (snd a hm hx xo cl _ h.2.1) (snd i hm hx xo cl _ h.2.2) (ix_plain h.1)
  | .sl a lo hi, X, C, T, hm, hx, xo, cl, e, h => by
    unfold ck at h; split at h <;> first | contradiction | skip
    rename_i heq; cases heq
    simp only [Bool.and_eq_true] at h
    refine sd_sl hm (snd a hm hx xo cl _ h.1) ?_ ?_
    · have h1 := h.2.1
      unfold ckP at h1
      split at h1
      · cases lo <;> first | exact .none | cases h1
      · rename_i x
        simp only [Bool.and_eq_true, Bool.not_eq_true'] at h1
        have : optD lo (den k lo) = some (den k lo) := by cases lo <;> first | rfl | (cases h1.1; done)
        rw [this]
        exact .some (snd lo hm hx xo cl _ h1.2)
    · have h1 := h.2.2
      unfold ckP at h1
      split at h1
      · cases hi <;> first | exact .none | cases h1
      · rename_i x
        simp only [Bool.and_eq_true, Bool.not_eq_true'] at h1
        have : optD hi (den k hi) = some (den k hi) := by cases hi <;> first | rfl | (cases h1.1; done)
        rw [this]
        exact .some (snd hi hm hx xo cl _ h1.2)
  | .call f l, X, C, T, hm, hx, xo, cl, e, h => by
    unfold ck at h; split at h <;> first | contradiction | skip
    rename_i heq; cases heq
    simp only [Bool.and_eq_true, decide_eq_true_eq] at h
    exact sd_call hm hx xo cl h.1 h.2.1 h.2.2.1 h.2.2.2.1 (snds l hm hx xo cl _ h.2.2.2.2) (cks_star h.2.2.2.2)
  | .bi b l, X, C, T, hm, hx, xo, cl, e, h => by
    unfold ck at h; split at h <;> first | contradiction | skip
    · rename_i heq; cases heq
      simp only [Bool.and_eq_true] at h
      have hs := snds _ hm hx xo cl [_] (show cks C [_] [_] = true by simp only [cks, Bool.and_eq_true]; exact ⟨h.2.1, h.2.2.2, trivial⟩)
      cases hs with
      | cons h1 n1 r =>
        cases r
        exact sd_isa hm xo h.1 h.2.1 h.2.2.1 h1
    · rename_i heq; cases heq
      simp only [Bool.and_eq_true] at h
      have hs := cks_star h.2.2.2
      refine sd_bi hm xo (fun ts e => by subst e; cases h.1) (fun z => by
        rcases Bool.or_eq_true_iff.mp h.2.2.1 with q | q
        · exact q
        · cases b <;> first | exact absurd rfl z | cases q) h.2.1 (snds l hm hx xo cl _ h.2.2.2) (hs _ (by simp)) fun e he => hs e (by simp [he])
  | .comp e t it cs own, X, C, T, hm, hx, xo, cl, ex, h => by
    unfold ck at h; split at h <;> first | contradiction | skip
    rename_i elt tg iter ifs scope pos heq; cases heq
    simp only [Bool.and_eq_true, List.all_eq_true, decide_eq_true_eq] at h
    obtain ⟨h1, h2, h3, h4, h5, h6, h7, h8, h9⟩ := h
    exact sd_comp hm xo h1 (sndI it hm hx xo cl _ _ h2) h3 h4 (fun i hi => by simpa using h5 i hi) h7 h9
      (fun s H c' cl' fp => snds cs (C := { C with sc := scope }) TPF.mono TPF.tpx xo.blk (cl.blk (xo.calm h1)) _ h6) (fun s H c' cl' fp => snd e (C := { C with sc := scope }) TPF.mono TPF.tpx xo.blk (cl.blk (xo.calm h1)) _ h8)
  | .fld a f, X, C, T, hm, hx, xo, cl, e, h => by
    unfold ck at h; split at h <;> first | contradiction | skip
    rename_i heq; cases heq
    simp only [Bool.and_eq_true, decide_eq_true_eq] at h
    exact sd_fld hm cl h.1 h.2.1 (snd a hm hx xo cl _ h.2.2) fun i e => by subst e; exact pe_ckvar xo h.2.2
  | .gint n i, X, C, T, hm, hx, xo, cl, e, h => by
    unfold ck at h; split at h <;> first | contradiction | skip
    rename_i heq; cases heq
    simp only [Bool.and_eq_true, decide_eq_true_eq] at h
    exact sd_gint hm xo h.1 h.2.1 h.2.2.1 h.2.2.2
  | .gstr n i, X, C, T, hm, hx, xo, cl, e, h => by
    unfold ck at h; split at h <;> first | contradiction | skip
    rename_i heq; cases heq
    simp only [Bool.and_eq_true, decide_eq_true_eq] at h
    exact sd_gstr hm xo h.1 h.2.1 h.2.2.1 h.2.2.2
  | .pix a i, X, C, T, hm, hx, xo, cl, e, h => by
    unfold ck at h; split at h <;> first | contradiction | skip
    rename_i heq; cases heq
    simp only [Bool.and_eq_true] at h
    exact sd_pix hm xo (pu_ok xo cl a _ h.2.1) (pu_ok xo cl i _ h.2.2) (ix_plain h.1)
  | .pcmp o a b, X, C, T, hm, hx, xo, cl, e, h => by
    unfold ck at h; split at h <;> first | contradiction | skip
    rename_i heq; cases heq
    simp only [Bool.and_eq_true, Bool.not_eq_true'] at h
    exact sd_pcmp hm xo h.1 (pu_ok xo cl a _ h.2.2.1) (pu_ok xo cl b _ h.2.2.2) h.2.1
  | .plen a, X, C, T, hm, hx, xo, cl, e, h => by
    unfold ck at h; split at h <;> first | contradiction | skip
    rename_i heq; cases heq
    simp only [Bool.and_eq_true] at h
    exact sd_plen hm xo h.1 h.2.1 (pu_ok xo cl a _ h.2.2.2) h.2.2.1
  | .callk f l ks, X, C, T, hm, hx, xo, cl, e, h => by
    unfold ck at h; split at h <;> first | contradiction | skip
    rename_i heq; cases heq
    simp only [Bool.and_eq_true, decide_eq_true_eq] at h
    exact sd_callk hm hx xo cl h.1 h.2.1 h.2.2.1 h.2.2.2.1 h.2.2.2.2.1 h.2.2.2.2.2 (sndks l hm hx xo cl _ _ h.2.2.2.2.2)
  | .lenI a, X, C, T, hm, hx, xo, cl, e, h => by
    unfold ck at h; split at h <;> first | contradiction | skip
    rename_i heq; cases heq
    simp only [Bool.and_eq_true] at h
    exact sd_lenI hm h.1 xo cl h.2.1 (snd a hm hx xo cl _ h.2.2.2) h.2.2.1
  | .isc a c, X, C, T, hm, hx, xo, cl, e, h => by
    unfold ck at h; split at h <;> first | contradiction | skip
    rename_i heq; cases heq
    simp only [Bool.and_eq_true] at h
    refine sd_isc hm xo cl h.1 h.2.1 h.2.2.1 (snd a hm hx xo cl _ h.2.2.2) fun i ei => ?_
    subst ei
    exact pe_ckvar xo h.2.2.2
  | .mk c l, X, C, T, hm, hx, xo, cl, e, h => by
    unfold ck at h; split at h <;> first | contradiction | skip
    rename_i heq; cases heq
    simp only [Bool.and_eq_true, decide_eq_true_eq] at h
    exact sd_mkI hm h.1 hx xo cl h.2.1 h.2.2.1 h.2.2.2.1 h.2.2.2.2.1 (snds l hm hx xo cl _ h.2.2.2.2.2) (cks_star h.2.2.2.2.2)
  | .meth a m l, X, C, T, hm, hx, xo, cl, e, h => by
    unfold ck at h; split at h <;> first | contradiction | skip
    rename_i heq; cases heq
    simp only [Bool.and_eq_true, decide_eq_true_eq] at h
    exact sd_meth hm h.1 hx xo cl h.2.1 h.2.2.1 h.2.2.2.1 h.2.2.2.2.1 (snd a hm hx xo cl _ h.2.2.2.2.2.1) (snds l hm hx xo cl _ h.2.2.2.2.2.2) (cks_star h.2.2.2.2.2.2)
  | .ofI b it, X, C, T, hm, hx, xo, cl, e, h => by
    unfold ck at h; split at h <;> first | contradiction | skip
    rename_i heq; cases heq
    simp only [Bool.and_eq_true, decide_eq_true_eq] at h
    exact sd_ofRng hm xo h.1 h.2.1 h.2.2.1 (snds _ hm hx xo cl _ h.2.2.2.2) h.2.2.2.1
  | .tupRev a, X, C, T, hm, hx, xo, cl, e, h => by
    unfold ck at h; split at h <;> first | contradiction | skip
    rename_i heq; cases heq
    simp only [Bool.and_eq_true] at h
    exact sd_tupRev hm xo h.1 h.2.1 h.2.2.1 h.2.2.2.1 (snd a hm hx xo cl _ h.2.2.2.2)
  | .rvs a, X, C, T, hm, hx, xo, cl, e, h => by
    unfold ck at h; split at h <;> first | contradiction | skip
    rename_i heq; cases heq
    exact sd_rvs hm (snd a hm hx xo cl _ h)
  | .methO a m l, X, C, T, hm, hx, xo, cl, e, h => by
    unfold ck at h; split at h <;> first | contradiction | skip
    rename_i heq; cases heq
    simp only [Bool.and_eq_true, decide_eq_true_eq] at h
    exact sd_methO hm h.1 hx xo cl h.2.1 h.2.2.1 h.2.2.2.1 h.2.2.2.2.1 (snd a hm hx xo cl _ h.2.2.2.2.2.1) h.2.2.2.2.2.2
  | .idx a x, X, C, T, hm, hx, xo, cl, e, h => by
    unfold ck at h; split at h <;> first | contradiction | skip
    rename_i heq; cases heq
    simp only [Bool.and_eq_true, decide_eq_true_eq] at h
    obtain ⟨h1, h2, h3, h4, h5, h6⟩ := h
    subst h1
    exact sd_idx hm h2 h3 (fun f env m => attr_base h4) (snd a hm hx xo cl _ h5) (snd x hm hx xo cl _ h6)
  | .calls sk l kl, X, C, T, hm, hx, xo, cl, e, h => by
    unfold ck at h; split at h <;> first | contradiction | skip
    rename_i heq; cases heq
    split at h
    case h_2 => simp at h
    rename_i f s hs
    simp only [Bool.and_eq_true, decide_eq_true_eq] at h
    obtain ⟨h0, h1, h2, h3, h4, h5, h6⟩ := h
    have hlen := sndks_len kl _ _ h6
    exact sd_calls hm hx xo cl h0 hs h1 h2 h3 (by rw [dens_len]; exact h4) (snds l hm hx xo cl _ h5) (cks_star h5) h6 (by rw [dens_len]; exact hlen) (sndks kl hm hx xo cl _ _ h6)
  | .get2 a b c, X, C, T, hm, hx, xo, cl, e, h => by
    unfold ck at h; split at h <;> first | contradiction | skip
    rename_i heq; cases heq
    simp only [Bool.and_eq_true, decide_eq_true_eq] at h
    obtain ⟨h1, h2, h3, h4, h5, h6, h7, h8⟩ := h
    subst h1
    exact sd_get2 hm xo h2 h3 h4 (fun f env m => attr_base h5) (snd a hm hx xo cl _ h6) (snd b hm hx xo cl _ h7) (snd c hm hx xo cl _ h8)
  | .dicl ks l, X, C, T, hm, hx, xo, cl, e, h => by
    unfold ck at h; split at h <;> first | contradiction | skip
    rename_i heq; cases heq
    simp only [Bool.and_eq_true, decide_eq_true_eq] at h
    obtain ⟨g1, g2, g3, g4, g5⟩ := sndds (pos := ‹Pos›) l hm hx xo cl _ _ _ h.2
    exact sd_dicl hm g5 g1 g2 g3 g4 h.1
  | .popF i f, X, C, T, hm, hx, xo, cl, e, h => by
    unfold ck at h; split at h <;> first | contradiction | skip
    rename_i heq; cases heq
    simp only [Bool.and_eq_true, decide_eq_true_eq] at h
    obtain ⟨h0, h1, h2, h3, h4, h5, h6⟩ := h
    subst h1
    exact sd_popF hm xo cl h2 h3 h4 h5 h6
theorem sndds : ∀ (l : List E) {X : Cx} {C : CkC} {T : TP} {pos : Pos} (hm : T.Mono) (hx : TPx X cm T) (xo : XOk X C) (cl : Calls X cm k C.df C.kn C.g) (ks : List Str) (keys : List (Option Expr)) (vals : List Expr), ckDs C ks l keys vals = true →
    keys.all (·.isSome) = true ∧ keys.length = vals.length ∧ keys.length = ks.length ∧ ks.length = (dens k l).length ∧ PPs X pos keys vals (trsOf X cm T ks (dens k l))
  | [], X, C, T, pos, hm, hx, xo, cl, ks, keys, vals, h => by
    unfold ckDs at h; split at h <;> first | contradiction | skip
    exact ⟨rfl, rfl, rfl, rfl, pps_nil⟩
  | a :: l, X, C, T, pos, hm, hx, xo, cl, ks, keys, vals, h => by
    unfold ckDs at h; split at h <;> first | contradiction | skip
    rename_i heq
    cases heq
    simp only [Bool.and_eq_true, decide_eq_true_eq] at h
    obtain ⟨h1, h2, h3⟩ := h
    subst h1
    obtain ⟨g1, g2, g3, g4, g5⟩ := sndds (pos := pos) l hm hx xo cl _ _ _ h3
    refine ⟨by simpa using g1, by rw [List.length_cons, List.length_cons, g2], by rw [List.length_cons, List.length_cons, g3], by rw [List.length_cons, g4]; rfl, pps_cons pe_str ((snd a hm hx xo cl _ h2).f hm) g5⟩
theorem snds : ∀ (l : List E) {X : Cx} {C : CkC} {T : TP} (hm : T.Mono) (hx : TPx X cm T) (xo : XOk X C) (cl : Calls X cm k C.df C.kn C.g) (es : List Expr), cks C l es = true → Sds X cm T (dens k l) es
  | [], X, C, T, hm, hx, xo, cl, es, h => by
    unfold cks at h; split at h <;> first | contradiction | skip
    exact .nil
  | a :: l, X, C, T, hm, hx, xo, cl, es, h => by
    unfold cks at h; split at h <;> first | contradiction | skip
    rename_i heq
    cases heq
    simp only [Bool.and_eq_true] at h
    exact .cons (snd a hm hx xo cl _ h.2.1) h.1 (snds l hm hx xo cl _ h.2.2)
theorem sndks : ∀ (l : List E) {X : Cx} {C : CkC} {T : TP} (hm : T.Mono) (hx : TPx X cm T) (xo : XOk X C) (cl : Calls X cm k C.df C.kn C.g) (ns : List String) (ks : List Keyword), ckKs C l ns ks = true → Sdk X cm T (dens k l) ks
  | [], X, C, T, hm, hx, xo, cl, ns, ks, h => by
    unfold ckKs at h; split at h <;> first | contradiction | skip
    exact .nil
  | a :: l, X, C, T, hm, hx, xo, cl, ns, ks, h => by
    unfold ckKs at h; split at h <;> first | contradiction | skip
    rename_i heq
    cases heq
    simp only [Bool.and_eq_true] at h
    exact .cons (snd a hm hx xo cl _ h.2.1) (sndks l hm hx xo cl _ _ h.2.2)
theorem sndI : ∀ (it : I) {X : Cx} {C : CkC} {T : TP} (hm : T.Mono) (hx : TPx X cm T) (xo : XOk X C) (cl : Calls X cm k C.df C.kn C.g) (tg e : Expr), ckI C it tg e = true → PI X tg e (tzi X.K cm T (denI k it))
  | .e a, X, C, T, hm, hx, xo, cl, tg, e, h => by
    unfold ckI at h
    exact pi_e hm (snd a hm hx xo cl _ h)
  | .rng l, X, C, T, hm, hx, xo, cl, tg, e, h => by
    unfold ckI at h; split at h <;> first | contradiction | skip
    rename_i l' x p xs pos heq
    cases heq
    simp only [Bool.and_eq_true, decide_eq_true_eq] at h
    obtain ⟨b1, b2, b3, b4, b5⟩ := xo.blt h.1
    subst b3
    have hs := snds l hm hx xo cl _ h.2.2
    match l, xs, h.2.1, hs with
    | [], xs, hl, hs => cases hs; simp at hl
    | _ :: _ :: _ :: _ :: _, xs, hl, hs => cases hs with | cons _ _ r => cases r with | cons _ _ r => cases r with | cons _ _ r => cases r with | cons _ _ r => simp only [List.length_cons] at hl; omega
    | [a], [e1], _, hs => exact pi_rng1 hm hs (by cases hs; assumption) b1 b2
    | [a, b], [e1, e2], _, hs => exact pi_rng2 hm hs (by cases hs; assumption) (by cases hs with | cons _ _ r => cases r; assumption) b1 b2
    | [a, b, c], [e1, e2, e3], _, hs => exact pi_rng3 hm hs (by cases hs; assumption) (by cases hs with | cons _ _ r => cases r; assumption) (by cases hs with | cons _ _ r => cases r with | cons _ _ r => cases r; assumption) b1 b2
  | .zip a b, X, C, T, hm, hx, xo, cl, tg, e, h => by
    unfold ckI at h; split at h <;> first | contradiction | skip
    rename_i heq
    cases heq
    simp only [Bool.and_eq_true] at h
    obtain ⟨b1, b2, b3, b4, b5⟩ := xo.blt h.1
    subst b3
    exact pi_zip' hm (.cons (snd a hm hx xo cl _ h.2.2.2.1) h.2.1 (.cons (snd b hm hx xo cl _ h.2.2.2.2) h.2.2.1 .nil)) h.2.1 h.2.2.1 b1 b2
  | .enum a, X, C, T, hm, hx, xo, cl, tg, e, h => by
    unfold ckI at h; split at h <;> first | contradiction | skip
    rename_i heq
    cases heq
    simp only [Bool.and_eq_true] at h
    obtain ⟨b1, b2, b3, b4, b5⟩ := xo.blt h.1
    subst b3
    exact pi_enum' hm (.cons (snd a hm hx xo cl _ h.2.2) h.2.1 .nil) h.2.1 b1 b2
  | .rev a, X, C, T, hm, hx, xo, cl, tg, e, h => by
    unfold ckI at h; split at h <;> first | contradiction | skip
    rename_i heq
    cases heq
    simp only [Bool.and_eq_true] at h
    obtain ⟨b1, b2, b3, b4, b5⟩ := xo.blt h.1
    subst b3
    exact pi_rev hm (snd a hm hx xo cl _ h.2.2) h.2.1 b1 b2
  | .revr l, X, C, T, hm, hx, xo, cl, tg, e, h => by
    unfold ckI at h; split at h <;> first | contradiction | skip
    rename_i heq
    cases heq
    simp only [Bool.and_eq_true, decide_eq_true_eq] at h
    obtain ⟨b1, b2, b3, b4, b5⟩ := xo.blt h.1
    obtain ⟨c1, c2, c3, c4, c5⟩ := xo.blt h.2.1
    subst b3 c3
    exact pi_revrZ hm (snds l hm hx xo cl _ h.2.2.2) h.2.2.1 b1 b2 c1 c2
end
end
end Z

set_option Elab.async false
set_option linter.all false
set_option maxRecDepth 100000
set_option maxHeartbeats 8000000
/-! Z14: statements. -/
namespace Z
open PySem
open PySem.Spec
open PyProof.Rows
open L2

/-! ### the checker -/
def offP (P vs : List Nat) : Bool := vs.all fun i => !P.contains i
def swOk (C : CkC) (y : Str) (py : Pos) : Expr → Bool
  | .ListComp _ _ scope pos => decide (C.sc.names.lookup y = some .cell) || (decide (C.sc.names.lookup y = some .local) && (!(py.line == pos.line) || (C.ca && !(scope.names.any fun (n, k) => n == y && (k == .local || k == .cell)))))
  | .SetComp _ _ _ _ => false
  | .DictComp _ _ _ _ _ => false
  | _ => true
def noComp : Expr → Bool
  | .ListComp _ _ _ _ => false
  | .SetComp _ _ _ _ => false
  | .DictComp _ _ _ _ _ => false
  | _ => true
def tupOk : Expr → Bool
  | .Tuple vs _ _ => vs.all (foldedForSure 8)
  | _ => true
def isT : T → Bool
  | .t _ => true
  | _ => false
def nmB (C : CkC) (i : Nat) (x : Str) : Bool := decide (C.N[i]? = some x) && (visB C.sc x && plainX x)
def locN (C : CkC) (P : List Nat) (i : Nat) (x : Str) : Bool := decide (C.N[i]? = some x) && (locB C.sc x && !P.contains i)
def lclN (C : CkC) (P : List Nat) (i : Nat) (x : Str) : Bool := decide (C.N[i]? = some x) && (decide (C.sc.names.lookup x = some .local) && !P.contains i)
def augB : Bop → Bool
  | .add => true
  | .sub => true
  | _ => false
def bang (n : String) : Bool := n == "!a" || (n == "!d" || n == "!c")
def bangG (g : GX) : Bool := (g.at_.all fun p => !bang p.1) && ((g.exa.all fun p => !bang p.1) && ((g.isx.all fun p => !bang p.1.1) && g.esb.all fun p => !bang p.1.1))
mutual
def ckS (C : CkC) (P : List Nat) : S → Stmt → Bool
  | .asg t e, .Assign [tg] v _ => isT t && (ckT C t tg && (offP P (slots t) && (tupOk v && ck C e v)))
  | .asgo i e, .Assign [.Name y py] v _ => locN C P i y && (swOk C y py v && ck C e v)
  | .par i j a b, .Assign [.Tuple [.Name x px, .Name y py] _ _] (.Tuple [v, w] _ _) _ => C.ca && (lclN C P i x && (lclN C P j y && (!decide (x = y) && ((px.line == py.line) && (!([v, w].all (foldedForSure 8)) && (!([v, w].all (constantsAlone 8)) &&
      (noStarE v && (noStarE w && (ck C a v && ck C b w)))))))))
  | .par3 i j l a b c, .Assign [.Tuple [.Name x px, .Name y py, .Name z pz] _ _] (.Tuple [v, w, u] _ _) _ => C.ca && (lclN C P i x && (lclN C P j y && (lclN C P l z && (!decide (x = y) && (!decide (x = z) && (!decide (y = z) && ((px.line == py.line) && ((px.line == pz.line) &&
      (!([v, w, u].all (foldedForSure 8)) && (!([v, w, u].all (constantsAlone 8)) && (noStarE v && (noStarE w && (noStarE u && (ck C a v && (ck C b w && ck C c u)))))))))))))))
  | .swp i x y a b, .Assign [.Tuple [.Subscript (.Name u _) ix _, .Subscript (.Name u' _) jx _] _ _] (.Tuple [v, w] _ _) _ => C.ca && (nmB C i u && (decide (u = u') && (ixE ix && (ixE jx && (noStarE v && (noStarE w && (ck C x ix && (ck C y jx && (ck C a v && ck C b w)))))))))
  | .seti i x e, .Assign [.Subscript (.Name y _) ix _] v _ => nmB C i y && (ixE ix && (ck C x ix && ck C e v))
  | .aug i o e, .AugAssign (.Name y _) op v _ => locN C P i y && (bopB o op && ck C e v)
  | .ext i e, .Expr (.Call (.Attribute (.Name y _) m ap) [v] [] cp) _ => decide (m = ("extend" : Str)) && (nmB C i y && (noStarE v && ((ap.endLine == cp.line) && ck C e v)))
  | .app i e, .Expr (.Call (.Attribute (.Name y _) m ap) [v] [] cp) _ => decide (m = ("append" : Str)) && (nmB C i y && (noStarE v && ((ap.endLine == cp.line) && ck C e v)))
  | .setf i f e, .Assign [.Attribute (.Name y _) g _] v _ => decide (g = Str.ofString f) && (nmB C i y && ck C e v)
  | .setif i f x e, .Assign [.Subscript (.Attribute (.Name y _) g _) ix _] v _ => decide (g = Str.ofString f) && (nmB C i y && (ixE ix && (ck C x ix && ck C e v)))
  | .augf i o f e, .AugAssign (.Attribute (.Name y _) g _) op v _ => decide (g = Str.ofString f) && (nmB C i y && (augB o && (bopB o op && ck C e v)))
  | .dead, _ => true
  | .rse c ns l, .Raise (some (.Call (.Name x _) (e :: es) [] _)) none _ => C.ca && (decide (C.g.exa.lookup c = some ns) && (decide (x = Str.ofString c) && (gloB C.sc x && (plainX x && cks C l (e :: es)))))
  | .trye b c i h, .Try body [.ExceptHandler (some (.Name x _)) (some n) (b0 :: suite) _] [] [] _ => C.ca && (decide (P = []) && (decide (C.N[i]? = some n) && (decide (C.sc.names.lookup n = some .local) && (clsB C c x && (bangG C.g && (ckSs C P b body && ckSs { C with ca := false, df := [] } P h (b0 :: suite)))))))
  | .ex e, .Expr v _ => noComp v && ck C e v
  | .ife t a b, .If c x y _ => ck C t c && (ckSs C P a x && ckSs C P b y)
  | .for t it b, .For tg iter body [] _ => C.ca && (ckI C it tg iter && (ckT C t tg && (offP P (slots t) && (setFree iter && ckSs C P b body))))
  | .whl t b, .While c body [] _ => ck C t c && ckSs C P b body
  | .ret e, .Return (some v) _ => ck C e v
  | .reto e, .Return (some v) _ => ck C e v
  | .retn, .Return none _ => true
  | .cnt, .Continue _ => true
  | .brk, .Break _ => true
  | .pass, .Pass _ => true
  | .pass, .Expr (.Constant (.str _) _ _) _ => true
  | _, _ => false
def ckSs (C : CkC) (P : List Nat) : List S → List Stmt → Bool
  | .fgt _ :: r, q => ckSs C P r q
  | .frz _ :: r, q => ckSs C P r q
  | [], [] => true
  | s :: r, t :: q => ckS C P s t && ckSs C P r q
  | _, _ => false
end

/-! ### readings of statements -/
def Same (P : List Nat) (σ σ' : L2.St) : Prop := ∀ i ∈ P, σ'[i]? = σ[i]?
theorem Same.refl (P : List Nat) (σ : L2.St) : Same P σ σ := fun _ _ => rfl
theorem Same.trans {P : List Nat} {σ σ1 σ2 : L2.St} (a : Same P σ σ1) (b : Same P σ1 σ2) : Same P σ σ2 := fun i h => (b i h).trans (a i h)
theorem OffS.same {us P : List Nat} {σ σ' : L2.St} (h : OffS us σ σ') (hp : offP P us = true) : Same P σ σ' := fun i hi => h.2 i fun z => by
  have := List.all_eq_true.mp hp i z
  simp at this
  exact this hi
theorem Same.set {P : List Nat} {σ : L2.St} {i : Nat} {x : Option V} (h : P.contains i = false) : Same P σ (σ.set i x) := fun j hj => by
  rw [List.getElem?_set_ne]
  rintro rfl
  simp at h
  exact h hj
def TkS {α : Type} (T : TP) (F H : Hp) (lab : Lab) (r : R α) (Post : α → Hp → Hp → Lab → Prop) : Prop :=
  r ≠ .bad ∧ (∀ c fs ρ, r = .ex c fs ρ → ∀ σ F' H' lab', Stp F H lab F' H' lab' → T σ F' H' lab' c fs ρ) ∧ ∀ a, r = .ok a → ∀ F' H' lab', Stp F H lab F' H' lab' → Post a F' H' lab'
section
variable {T : TP} {σ : L2.St} {F H F1 H1 : Hp} {lab lab1 : Lab} {α β : Type}
theorem TkS.step {r : R α} {Post : α → Hp → Hp → Lab → Prop} (h : TkS T F H lab r Post) (s : Stp F H lab F1 H1 lab1) : TkS T F1 H1 lab1 r Post :=
  ⟨h.1, fun c fs ρ e σ F' H' lab' s' => h.2.1 c fs ρ e σ F' H' lab' (s.trans s'), fun a e F' H' lab' s' => h.2.2 a e F' H' lab' (s.trans s')⟩
theorem TkS.tk {r : R α} {Post : α → Hp → Hp → Lab → Prop} (h : TkS T F H lab r Post) (σ : L2.St) : Tk T σ F H lab r Post := ⟨h.1, fun c fs ρ e => h.2.1 c fs ρ e σ F H lab (Stp.refl _ _ _), h.2.2⟩
theorem TkS.bnd {r : R α} {k : α → R β} {Post : β → Hp → Hp → Lab → Prop} (h : TkS T F H lab (r.bind k) Post) : TkS T F H lab r fun a F' H' lab' => TkS T F' H' lab' (k a) Post := by
  refine ⟨fun e => ?_, fun c fs ρ e => ?_, fun a e F' H' lab' s => ?_⟩
  · rw [e] at h; exact h.1 rfl
  · rw [e] at h; exact h.2.1 c fs ρ rfl
  · rw [e] at h
    exact TkS.step (r := k a) h s
theorem TkS.imp {r : R α} {P Q : α → Hp → Hp → Lab → Prop} (h : TkS T F H lab r P) (hp : ∀ a F' H' lab', P a F' H' lab' → Q a F' H' lab') : TkS T F H lab r Q :=
  ⟨h.1, h.2.1, fun a e F' H' lab' s => hp _ _ _ _ (h.2.2 a e F' H' lab' s)⟩
theorem TkS.now {a : α} {P : α → Hp → Hp → Lab → Prop} (h : TkS T F H lab (.ok a) P) : P a F H lab := h.2.2 a rfl F H lab (Stp.refl F H lab)
theorem TkS.at_ {a : α} {P : α → Hp → Hp → Lab → Prop} (h : TkS T F H lab (.ok a) P) (s : Stp F H lab F1 H1 lab1) : P a F1 H1 lab1 := h.2.2 a rfl F1 H1 lab1 s
theorem TkS.pure {r : R α} {k : α → R β} {Post : β → Hp → Hp → Lab → Prop} (hx : ∀ c fs ρ, r ≠ .ex c fs ρ) (h : TkS T F H lab (r.bind k) Post) : ∃ a, r = .ok a ∧ TkS T F H lab (k a) Post := by
  cases r with
  | ok a => exact ⟨a, rfl, h⟩
  | ex c fs ρ => exact absurd rfl (hx c fs ρ)
  | bad => exact absurd rfl h.1
end
section
variable (K : PySem.W.Frag) (cm : String → Option Addr)
def EndZ (D : Ends) (F' H' : Hp) (lab' : Lab) (σ' : L2.St) : Fl → Prop
  | .nx => D.nx σ' H'
  | .brk => D.bk σ' H'
  | .cnt => D.ct σ' H'
  | .rt w => ∀ v, RelW K cm F' H' lab' 0 w v → D.rt v H'
def PostS (P : List Nat) (D : Ends) (σ : L2.St) (x : Fl × Env) (F' H' : Hp) (lab' : Lab) : Prop := ∀ σ', Same P σ σ' → RE K cm F' H' lab' x.2 σ' → EndZ K cm D F' H' lab' σ' x.1
def tzS (P : List Nat) (T : TP) (m : Env → R (Fl × Env)) : TS := fun D σ H => ∃ ρ F lab, RE K cm F H lab ρ σ ∧ TkS T F H lab (m ρ) (PostS K cm P D σ)
end
section
variable {X : Cx} {K : PySem.W.Frag} {cm : String → Option Addr} {T : TP} {C : CkC} {P : List Nat} {a b c : Dn} {e1 e2 e3 : Expr} {pos : Pos} {k : Cl}
theorem PostS.shift {D : Ends} {σ σ1 : L2.St} {x : Fl × Env} {F' H' : Hp} {lab' : Lab} (s : Same P σ σ1) (h : PostS K cm P D σ x F' H' lab') : PostS K cm P D σ1 x F' H' lab' := fun σ' s' re => h σ' (s.trans s') re
/-- name = value -/
theorem ps_asgo (hm : T.Mono) {st : Stmt} {i : Nat} {m : DV} (hi : P.contains i = false) (h : PS X st (tAsg (tz X.K cm T m) (gName i))) :
    PS X st (tzS X.K cm P T fun ρ => (m ρ).bind fun x => .ok (.nx, Z.st x.2 i (some x.1))) := by
  refine psI h fun D σ H hq => ?_
  obtain ⟨ρ, F, lab, re, tk⟩ := hq
  refine ⟨ρ, F, lab, re, (tk.bnd.tk σ).imp fun x F1 H1 lab1 tk1 re1 v rv => ?_⟩
  exact tk1.at_ (Stp.relab i) _ (Same.set hi) (re1.store rv)
theorem swapped_const {ts : List Expr} {v : Expr} {env : PySem.Env} {k1 : Nat} {p1 : Pos} (h : tupOk v = true) : swappedStores [.Tuple ts k1 p1] v env = pure none := by
  cases v <;> try rfl
  rename_i vs k2 p2
  have h : vs.all (foldedForSure 8) = true := h
  unfold swappedStores
  simp only [h, if_true]
  split
  · rfl
  · split
    · rfl
    · split <;> rfl
theorem sw_tup {ts : List Expr} {v : Expr} {env : PySem.Env} {k1 l : Nat} {p1 : Pos} : swapsWithSole [.Tuple ts k1 p1] v l env = pure false := by
  cases v <;> rfl
theorem sw_sub {o i : Expr} {v : Expr} {env : PySem.Env} {l : Nat} {p1 : Pos} : swapsWithSole [.Subscript o i p1] v l env = pure false := by
  cases v <;> rfl
mutual
theorem setT_noex : ∀ (t : Z.T) (d : D) (ρ : Env) c fs ρ', setT t d ρ ≠ .ex c fs ρ'
  | .v i, d, ρ => ok_noex
  | .t ts, .tup ds, ρ => by unfold setT; exact setTs_noex ts ds ρ
  | .t ts, .non, ρ => bad_noex
  | .t ts, .bl _, ρ => bad_noex
  | .t ts, .int _, ρ => bad_noex
  | .t ts, .str _, ρ => bad_noex
  | .t ts, .lst ds, ρ => by unfold setT; exact setTs_noex ts ds ρ
  | .t ts, .dic _ _, ρ => bad_noex
  | .t ts, .ins _ _, ρ => bad_noex
theorem setTs_noex : ∀ (ts : List Z.T) (ds : List D) (ρ : Env) c fs ρ', setTs ts ds ρ ≠ .ex c fs ρ'
  | [], [], ρ => ok_noex
  | t :: ts, d :: ds, ρ => by unfold setTs; exact bind_noex (setT_noex t d ρ) fun a => setTs_noex ts ds a
  | [], _ :: _, ρ => bad_noex
  | _ :: _, [], ρ => bad_noex
end
theorem ps_asgT (hm : T.Mono) (xo : XOk X C) {t : Z.T} {tg v : Expr} {m : DV} (ht : isT t = true) (hc : ckT C t tg = true) (hp : offP P (slots t) = true) (hv : tupOk v = true) (h : PE X v (tz X.K cm T m)) :
    PS X (.Assign [tg] v pos) (tzS X.K cm P T fun ρ => (m ρ).bind fun x => (setT t x.1.frz x.2).bind fun ρ' => .ok (.nx, ρ')) := by
  have htg : ∃ ts k1 p1, tg = .Tuple ts k1 p1 := by
    cases t with
    | v i => cases ht
    | t l => cases tg <;> first | exact ⟨_, _, _, rfl⟩ | (simp [ckT] at hc)
  obtain ⟨ts, k1, p1, rfl⟩ := htg
  refine psI (ps_asg (tz_val hm h : PE X v (tzv X.K cm T (frzV m))) (pg_Z (cm := cm) xo t _ hc) sw_tup (swapped_const hv) rfl) fun D σ H hq => ?_
  obtain ⟨ρ, F, lab, re, tk⟩ := hq
  have tk : TkS T F H lab ((m ρ).bind fun x => (setT t x.1.frz x.2).bind fun ρ' => R.ok (Fl.nx, ρ')) _ := tk
  rw [bind_frz (m := m) (ρ := ρ) (g := fun d ρ => (setT t d ρ).bind fun ρ' => R.ok (Fl.nx, ρ'))] at tk
  refine ⟨ρ, F, lab, re, (tk.bnd.tk σ).imp fun x F1 H1 lab1 tk1 re1 v rv => ?_⟩
  obtain ⟨ρ', e', tk2⟩ := tk1.pure (setT_noex _ _ _)
  exact ⟨x.2, ρ', F1, lab1, x.1, re1, rv, e', fun σ' lab' s re2 off => tk2.at_ s _ (off.same hp) re2⟩
theorem list_set2 {σ : L2.St} {i j : Nat} {v w : Option V} : (σ.set i v).set j w = (σ.set i v).set j w := rfl
theorem swapped2 {x y : Str} {px py pt pt2 : Pos} {k1 k2 : Nat} {v w : Expr} {env : PySem.Env} (hk : env.scope.kind = .function) (hx : env.scope.names.lookup x = some .local) (hy : env.scope.names.lookup y = some .local) (hxy : x ≠ y) (hl : (px.line == py.line) = true)
    (h1 : [v, w].all (foldedForSure 8) = false) (h2 : [v, w].all (constantsAlone 8) = false) (n1 : noStarE v = true) (n2 : noStarE w = true) :
    swappedStores [.Tuple [.Name x px, .Name y py] k1 pt] (.Tuple [v, w] k2 pt2) env = pure (some [x, y]) := by
  have kx : env.kindOf x = some .local := hx
  have ky : env.kindOf y = some .local := hy
  have hb : env.blockKind = .function := by unfold PySem.Env.blockKind; rw [hk]; rfl
  have hl' : py.line = px.line := by simpa using (beq_iff_eq.mp hl).symm
  have hd : [x, y].eraseDups = [x, y] := by
    simp [List.eraseDups_cons, hxy, Ne.symm hxy]
  unfold swappedStores
  simp only [hb, kx, ky, h1, h2, hl', Expr.pos, List.head?_cons, Option.map_some, Option.getD_some, List.filterMap_cons, List.filterMap_nil, beq_self_eq_true, Bool.and_self, if_true, List.length_cons, List.length_nil, hd]
  rw [if_neg (by decide), if_neg ?_]
  · rfl
  · intro h
    simp only [List.any_cons, List.any_nil, Bool.or_false, Bool.or_eq_true] at h
    rcases h with h | h
    · cases v <;> first | (cases n1; done) | exact absurd (show false = true from h) (by decide)
    · cases w <;> first | (cases n2; done) | exact absurd (show false = true from h) (by decide)
theorem swapped3 {x y z : Str} {px py pz pt pt2 : Pos} {k1 k2 : Nat} {v w u : Expr} {env : PySem.Env} (hk : env.scope.kind = .function) (hx : env.scope.names.lookup x = some .local) (hy : env.scope.names.lookup y = some .local) (hz : env.scope.names.lookup z = some .local) (hxy : x ≠ y) (hxz : x ≠ z) (hyz : y ≠ z)
    (hl : (px.line == py.line) = true) (hl2 : (px.line == pz.line) = true)
    (h1 : [v, w, u].all (foldedForSure 8) = false) (h2 : [v, w, u].all (constantsAlone 8) = false) (n1 : noStarE v = true) (n2 : noStarE w = true) (n3 : noStarE u = true) :
    swappedStores [.Tuple [.Name x px, .Name y py, .Name z pz] k1 pt] (.Tuple [v, w, u] k2 pt2) env = pure (some [x, y, z]) := by
  have kx : env.kindOf x = some .local := hx
  have ky : env.kindOf y = some .local := hy
  have kz : env.kindOf z = some .local := hz
  have hb : env.blockKind = .function := by unfold PySem.Env.blockKind; rw [hk]; rfl
  have hl' : py.line = px.line := by simpa using (beq_iff_eq.mp hl).symm
  have hl2' : pz.line = px.line := by simpa using (beq_iff_eq.mp hl2).symm
  have hd : [x, y, z].eraseDups = [x, y, z] := by
    simp [List.eraseDups_cons, hxy, Ne.symm hxy, hxz, Ne.symm hxz, hyz, Ne.symm hyz]
  unfold swappedStores
  simp only [hb, kx, ky, kz, h1, h2, hl', hl2', Expr.pos, List.head?_cons, Option.map_some, Option.getD_some, List.filterMap_cons, List.filterMap_nil, beq_self_eq_true, Bool.and_self, if_true, List.length_cons, List.length_nil, hd]
  rw [if_neg (by decide), if_neg ?_]
  · rfl
  · intro h
    simp only [List.any_cons, List.any_nil, Bool.or_false, Bool.or_eq_true] at h
    rcases h with h | h | h
    · cases v <;> first | (cases n1; done) | exact absurd (show false = true from h) (by decide)
    · cases w <;> first | (cases n2; done) | exact absurd (show false = true from h) (by decide)
    · cases u <;> first | (cases n3; done) | exact absurd (show false = true from h) (by decide)
theorem ps_parZ (hm : T.Mono) (xo : XOk X C) (hca : C.ca = true) {i j : Nat} {x y : Str} {px py pt pt2 : Pos} {k1 k2 : Nat} (hi : lclN C P i x = true) (hj : lclN C P j y = true) (hxy : x ≠ y) (hl : (px.line == py.line) = true)
    (h1 : [e1, e2].all (foldedForSure 8) = false) (h2 : [e1, e2].all (constantsAlone 8) = false) (n1 : noStarE e1 = true) (n2 : noStarE e2 = true) (ha : Sd X cm T a e1) (hb : Sd X cm T b e2) :
    PS X (.Assign [.Tuple [.Name x px, .Name y py] k1 pt] (.Tuple [e1, e2] k2 pt2) pos) (tzS X.K cm P T fun ρ => (a.v ρ).bind fun x => (b.v x.2).bind fun y => .ok (.nx, st (st y.2 i (some (.sh x.1.frz))) j (some (.sh y.1.frz)))) := by
  simp only [lclN, Bool.and_eq_true, decide_eq_true_eq, Bool.not_eq_true'] at hi hj
  have hij : i ≠ j := by
    rintro rfl
    have := hi.1.symm.trans hj.1
    cases this
    exact hxy rfl
  have lx := (xo.sc _ _ hi.2.1).1 (by decide)
  have ly := (xo.sc _ _ hj.2.1).1 (by decide)
  refine ⟨fun pins s σ H D I hq => ?_⟩
  refine (ps_par (i := i) (j := j) (xo.calm hca) (xo.n ▸ xo.nd) (by rw [xo.n]; exact hi.1) (by rw [xo.n]; exact hj.1) hij lx ly (Sds.vs hm (.cons ha n1 (.cons hb n2 .nil))) (swapped2 I.ok.kind lx ly hxy hl h1 h2 n1 n2) sw_tup).run pins s σ H D I ?_
  obtain ⟨ρ, F, lab, re, tk⟩ := hq
  have e0 : ((a.v ρ).bind fun x => (b.v x.2).bind fun y => (.ok (Fl.nx, st (st y.2 i (some (.sh x.1.frz))) j (some (.sh y.1.frz))) : R (Fl × Env))) =
      (dVs [a, b] ρ).bind fun z => match z.1 with
        | [d, d'] => .ok (Fl.nx, st (st z.2 i (some (.sh d))) j (some (.sh d')))
        | _ => .bad := by
    unfold dVs dVs dVs
    cases a.v ρ with
    | ok x =>
      simp only [bind_ok]
      cases b.v x.2 <;> rfl
    | _ => rfl
  have tk : TkS T F H lab ((a.v ρ).bind fun x => (b.v x.2).bind fun y => (.ok (Fl.nx, st (st y.2 i (some (.sh x.1.frz))) j (some (.sh y.1.frz))) : R (Fl × Env))) _ := tk
  rw [e0] at tk
  refine ⟨ρ, F, lab, re, (tk.bnd.tk σ).imp fun z F1 H1 lab1 tk1 re1 vs rs => ?_⟩
  obtain ⟨z1, z2⟩ := z
  match z1, vs, rs with
  | [d, d'], _, .cons r1 (.cons r2 .nil) =>
    refine ⟨_, _, rfl, ?_⟩
    have re2 := re1.store (i := i) (w := .sh d) r1
    have re3 := re2.store (i := j) (w := .sh d') r2
    exact tk1.at_ ((Stp.relab i).trans (Stp.relab j)) _ ((Same.set hi.2.2).trans (Same.set hj.2.2)) re3
  | [], _, _ => exact absurd rfl tk1.1
  | [_], _, _ => exact absurd rfl tk1.1
  | _ :: _ :: _ :: _, _, _ => exact absurd rfl tk1.1
theorem ps_par3Z (hm : T.Mono) (xo : XOk X C) (hca : C.ca = true) {i j l : Nat} {x y z : Str} {px py pz pt pt2 : Pos} {k1 k2 : Nat} (hi : lclN C P i x = true) (hj : lclN C P j y = true) (hll : lclN C P l z = true) (hxy : x ≠ y) (hxz : x ≠ z) (hyz : y ≠ z) (hl : (px.line == py.line) = true) (hl2 : (px.line == pz.line) = true)
    (h1 : [e1, e2, e3].all (foldedForSure 8) = false) (h2 : [e1, e2, e3].all (constantsAlone 8) = false) (n1 : noStarE e1 = true) (n2 : noStarE e2 = true) (n3 : noStarE e3 = true) (ha : Sd X cm T a e1) (hb : Sd X cm T b e2) (hc : Sd X cm T c e3) :
    PS X (.Assign [.Tuple [.Name x px, .Name y py, .Name z pz] k1 pt] (.Tuple [e1, e2, e3] k2 pt2) pos) (tzS X.K cm P T fun ρ => (a.v ρ).bind fun x => (b.v x.2).bind fun y => (c.v y.2).bind fun z => .ok (.nx, st (st (st z.2 i (some (.sh x.1.frz))) j (some (.sh y.1.frz))) l (some (.sh z.1.frz)))) := by
  simp only [lclN, Bool.and_eq_true, decide_eq_true_eq, Bool.not_eq_true'] at hi hj hll
  have hij : i ≠ j := by
    rintro rfl
    have := hi.1.symm.trans hj.1
    cases this
    exact hxy rfl
  have hil : i ≠ l := by
    rintro rfl
    have := hi.1.symm.trans hll.1
    cases this
    exact hxz rfl
  have hjl : j ≠ l := by
    rintro rfl
    have := hj.1.symm.trans hll.1
    cases this
    exact hyz rfl
  have lx := (xo.sc _ _ hi.2.1).1 (by decide)
  have ly := (xo.sc _ _ hj.2.1).1 (by decide)
  have lz := (xo.sc _ _ hll.2.1).1 (by decide)
  refine ⟨fun pins s σ H D I hq => ?_⟩
  refine (ps_par3 (i := i) (j := j) (l := l) (xo.calm hca) (xo.n ▸ xo.nd) (by rw [xo.n]; exact hi.1) (by rw [xo.n]; exact hj.1) (by rw [xo.n]; exact hll.1) hij hil hjl lx ly lz (Sds.vs hm (.cons ha n1 (.cons hb n2 (.cons hc n3 .nil)))) (swapped3 I.ok.kind lx ly lz hxy hxz hyz hl hl2 h1 h2 n1 n2 n3) sw_tup).run pins s σ H D I ?_
  obtain ⟨ρ, F, lab, re, tk⟩ := hq
  have e0 : ((a.v ρ).bind fun x => (b.v x.2).bind fun y => (c.v y.2).bind fun z => (.ok (Fl.nx, st (st (st z.2 i (some (.sh x.1.frz))) j (some (.sh y.1.frz))) l (some (.sh z.1.frz))) : R (Fl × Env))) =
      (dVs [a, b, c] ρ).bind fun z => match z.1 with
        | [d, d', d''] => .ok (Fl.nx, st (st (st z.2 i (some (.sh d))) j (some (.sh d'))) l (some (.sh d'')))
        | _ => .bad := by
    unfold dVs dVs dVs dVs
    cases a.v ρ with
    | ok x =>
      simp only [bind_ok]
      cases b.v x.2 with
      | ok y =>
        simp only [bind_ok]
        cases c.v y.2 <;> rfl
      | _ => rfl
    | _ => rfl
  have tk : TkS T F H lab ((a.v ρ).bind fun x => (b.v x.2).bind fun y => (c.v y.2).bind fun z => (.ok (Fl.nx, st (st (st z.2 i (some (.sh x.1.frz))) j (some (.sh y.1.frz))) l (some (.sh z.1.frz))) : R (Fl × Env))) _ := tk
  rw [e0] at tk
  refine ⟨ρ, F, lab, re, (tk.bnd.tk σ).imp fun z F1 H1 lab1 tk1 re1 vs rs => ?_⟩
  obtain ⟨z1, z2⟩ := z
  match z1, vs, rs with
  | [d, d', d''], _, .cons r1 (.cons r2 (.cons r3 .nil)) =>
    refine ⟨_, _, _, rfl, ?_⟩
    have re2 := re1.store (i := i) (w := .sh d) r1
    have re3 := re2.store (i := j) (w := .sh d') r2
    have re4 := re3.store (i := l) (w := .sh d'') r3
    exact tk1.at_ ((Stp.relab i).trans ((Stp.relab j).trans (Stp.relab l))) _ ((Same.set hi.2.2).trans ((Same.set hj.2.2).trans (Same.set hll.2.2))) re4
  | [], _, _ => exact absurd rfl tk1.1
  | [_], _, _ => exact absurd rfl tk1.1
  | [_, _], _, _ => exact absurd rfl tk1.1
  | _ :: _ :: _ :: _ :: _, _, _ => exact absurd rfl tk1.1

/-! ### what changes a name's own list or dict -/
def psetOr {t t' : TSet} (h : PSet X t) (h' : PSet X t') : PSet X (fun o i v H Q => t o i v H Q ∨ t' o i v H Q) := fun pins s σ H o i v ov iv u Q I ro ri rv q => by
  rcases q with q | q
  · exact h pins s σ H o i v ov iv u Q I ro ri rv q
  · exact h' pins s σ H o i v ov iv u Q I ro ri rv q
theorem asg_sub {o i : Expr} {p : Pos} {env : PySem.Env} (h : ixE i = true) : ∀ v, assign (.Subscript o i p) env v = (do
      let ov ← holding [v] (eval o env)
      let iv ← holding [v, ov] (eval i env)
      standAt p
      holding [v, ov, iv] (setItem ov iv v)
      release [v, ov, iv] []) := fun v => by
  cases i <;> first | rfl | cases h
theorem isOwn_some {o : Option W} (h : isOwn o = true) : ∃ w, o = some w := by
  cases o with
  | none => cases h
  | some w => exact ⟨w, rfl⟩
theorem RE.has {F H : Hp} {lab : Lab} {ρ : Env} {σ : L2.St} {i : Nat} (re : RE K cm F H lab ρ σ) (h : isOwn (gt ρ i) = true) : ∃ v, σ[i]? = some (some v) := by
  obtain ⟨w, e⟩ := isOwn_some h
  obtain ⟨v, e1, _⟩ := re.at_ i w e
  exact ⟨v, e1⟩
theorem setL_ix {l : List D} {vs : List V} {n : Int} {d : D} {l' : List D} {F : Hp} {v : V} (r : Reps K cm F l vs) (rv : Rep K cm F d v) (h : setL l n d = some l') : ∃ j, ixN vs.length n = some j ∧ Reps K cm F l' (vs.set j v) := by
  simp only [setL, Option.map_eq_some_iff] at h
  obtain ⟨j, e1, e2⟩ := h
  subst e2
  refine ⟨j, ?_, r.set rv j⟩
  rw [← r.length]
  exact e1
/-- a name's own thing rewritten in place -/
theorem RE.rewrite {F H : Hp} {lab : Lab} {ρ : Env} {σ : L2.St} {i : Nat} {p : Addr} {o : HO} {w : W} (re : RE K cm F H lab ρ σ) (hp : lab p = some (i + 1, 0)) (hs : σ[i]? = some (some (.ref p))) (fp : F p = none) (hH : ∃ u, H p = some u)
    (r : RelW K cm F (upd H p o) lab (i + 1) w (.ref p)) : Stp F H lab F (upd H p o) lab ∧ RE K cm F (upd H p o) lab (st ρ i (some w)) σ := by
  have st1 : Stp F H lab F (upd H p o) lab := ⟨Sub.refl F, fun a u ha hf hl => by
    have : a ≠ p := fun e => by rw [e, hp] at hl; cases hl
    exact ⟨by rw [upd_ne this]; exact ha, hf, hl⟩⟩
  refine ⟨st1, ?_⟩
  have sub : Sub F (upd H p o) := fun a u e => by
    have : a ≠ p := fun e' => by rw [e', fp] at e; cases e
    rw [upd_ne this]; exact re.sub a u e
  have h0 : RE K cm F (upd H p o) lab (st ρ i none) σ := by
    refine ⟨sub, by rw [st_length]; exact re.len, fun j x ex => ?_⟩
    by_cases hj : j = i
    · subst hj
      have hl := gt_lt ex
      rw [st_length] at hl
      rw [gt_st_same hl] at ex
      cases ex
    · rw [gt_st_ne hj] at ex
      obtain ⟨v, e1, q⟩ := re.at_ j x ex
      refine ⟨v, e1, q.keep (Sub.refl F) fun a u jj hl ha hf => ?_⟩
      have : a ≠ p := fun e => by
        rw [e, hp] at hl
        have := (Option.some.inj hl)
        have := congrArg Prod.fst this
        exact hj (by simpa using this.symm)
      exact ⟨by rw [upd_ne this]; exact ha, hf, hl⟩
  have h1 := h0.put hs r
  rw [st_st] at h1
  exact h1
theorem ps_seti (hm : T.Mono) (xo : XOk X C) {i : Nat} {y : Str} {p1 p2 : Pos} {ix v : Expr} (hn : nmB C i y = true) (hix : ixE ix = true) (hx : Sd X cm T a ix) (he : Sd X cm T b v) :
    PS X (.Assign [.Subscript (.Name y p1) ix p2] v pos) (tzS X.K cm P T fun ρ => if isOwn (gt ρ i) then (b.v ρ).bind fun v => (a.v v.2).bind fun y => match gt y.2 i, y.1.frz with
      | some (.ol l), .int n => (ofO (setL l n v.1.frz)).bind fun l' => .ok (.nx, st y.2 i (some (.ol l')))
      | some (.od t l), q => (ofO (keyD t q)).bind fun kk => if l.length < line then .ok (.nx, st y.2 i (some (.od t (dput t kk q v.1.frz l)))) else .bad
      | _, _ => .bad else .bad) := by
  simp only [nmB, Bool.and_eq_true, decide_eq_true_eq] at hn
  obtain ⟨q1, q2, _⟩ := plainX_of hn.2.2
  have hv : PE X (.Name y p1) (tVar i) := pe_var (by rw [xo.n]; exact hn.1) (xo.vis hn.2.1) q1 q2
  have hu : X.A.units + 1 < cLine := by have := xo.un; omega
  refine psI (ps_asg (he.f hm) (pg_sub hv (hx.f hm) (psetOr set_list (set_dict hu)) (asg_sub hix)) sw_sub rfl rfl) fun D σ H hq => ?_
  obtain ⟨ρ, F, lab, re, tk⟩ := hq
  have tk : TkS T F H lab (if isOwn (gt ρ i) then (b.v ρ).bind fun v => (a.v v.2).bind fun y => match gt y.2 i, y.1.frz with
      | some (.ol l), .int n => (ofO (setL l n v.1.frz)).bind fun l' => .ok (Fl.nx, st y.2 i (some (.ol l')))
      | some (.od t l), q => (ofO (keyD t q)).bind fun kk => if l.length < line then .ok (Fl.nx, st y.2 i (some (.od t (dput t kk q v.1.frz l)))) else .bad
      | _, _ => .bad else .bad) _ := tk
  split at tk
  case isFalse => exact absurd rfl tk.1
  rename_i hown
  obtain ⟨v0, hv0⟩ := re.has hown
  have e0 : ((b.v ρ).bind fun v => (a.v v.2).bind fun y => (match gt y.2 i, y.1.frz with
      | some (.ol l), .int n => (ofO (setL l n v.1.frz)).bind fun l' => .ok (Fl.nx, st y.2 i (some (.ol l')))
      | some (.od t l), q => (ofO (keyD t q)).bind fun kk => if l.length < line then .ok (Fl.nx, st y.2 i (some (.od t (dput t kk q v.1.frz l)))) else .bad
      | _, _ => .bad : R (Fl × Env))) = (frzV b.v ρ).bind fun v => (frzV a.v v.2).bind fun y => (match gt y.2 i, y.1 with
      | some (.ol l), .int n => (ofO (setL l n v.1)).bind fun l' => .ok (Fl.nx, st y.2 i (some (.ol l')))
      | some (.od t l), q => (ofO (keyD t q)).bind fun kk => if l.length < line then .ok (Fl.nx, st y.2 i (some (.od t (dput t kk q v.1 l)))) else .bad
      | _, _ => .bad) := by
    unfold frzV
    cases b.v ρ with
    | ok x =>
      simp only [bind_ok]
      cases a.v x.2 <;> rfl
    | _ => rfl
  rw [e0] at tk
  refine ⟨ρ, F, lab, re, (tk.bnd.tk σ).imp fun x F1 H1 lab1 tk1 re1 vx rx => ⟨v0, hv0, x.2, F1, lab1, re1, ?_⟩⟩
  have tb := tk1.bnd.tk σ
  refine ⟨tb.1, tb.2.1, fun z ez F2 H2 lab2 s2 re2 vz rz => ?_⟩
  have tk2 := tb.2.2 z ez F2 H2 lab2 s2
  have rx2 := Rep.mono s2.ff rx
  obtain ⟨z1, z2⟩ := z
  simp only at tk2
  split at tk2
  · rename_i l n eg
    obtain ⟨l', el, tk3⟩ := tk2.pure ofO_noex
    obtain ⟨v', e1, p, vs, rfl, lp, hp, fp, r⟩ := re2.at_ i _ eg
    rw [hv0] at e1
    cases e1
    cases rz
    obtain ⟨j, ej, r'⟩ := setL_ix r rx2 (ofO_eq el)
    refine .inl ⟨p, vs, n, j, rfl, rfl, hp, ej, ?_⟩
    obtain ⟨s3, re3⟩ := re2.rewrite (o := .lst (vs.set j vx)) (w := .ol l') lp hv0 fp ⟨_, hp⟩ ⟨p, _, rfl, lp, upd_same, fp, r'⟩
    exact tk3.at_ s3 σ (Same.refl _ _) re3
  · rename_i t l eg
    obtain ⟨kk, ek, tk3⟩ := tk2.pure ofO_noex
    split at tk3
    case isFalse => exact absurd rfl tk3.1
    rename_i hl
    obtain ⟨v', e1, p, rfl, lp, fp, dd⟩ := re2.at_ i _ eg
    rw [hv0] at e1
    cases e1
    obtain ⟨o, dp, da⟩ := dicAt_put re2.sub dd rz rx2 (ofO_eq ek) hl
    refine .inr ⟨p, upd H2 p o, rfl, dp, ?_⟩
    obtain ⟨s3, re3⟩ := re2.rewrite (o := o) (w := .od t _) lp hv0 fp dd.some ⟨p, rfl, lp, fp, by rw [upd_same]; exact da⟩
    exact tk3.at_ s3 σ (Same.refl _ _) re3
  · exact absurd rfl tk2.1
theorem swapped_sub {u u' : Expr} {ix jx v w : Expr} {env : PySem.Env} {k1 k2 : Nat} {p1 p2 p3 p4 : Pos} : swappedStores [.Tuple [.Subscript u ix p1, .Subscript u' jx p2] k1 p3] (.Tuple [v, w] k2 p4) env = pure none := by
  unfold swappedStores
  simp only [List.filterMap_cons, List.filterMap_nil, List.length_nil, List.length_cons]
  split
  · rfl
  · split
    · rfl
    · rfl
/-- xs[i], xs[j] = a, b -/
theorem ps_swpZ (hm : T.Mono) (xo : XOk X C) (hca : C.ca = true) {i : Nat} {y : Str} {p1 p2 p3 p4 p5 p6 : Pos} {k1 k2 : Nat} {ix jx v w : Expr} {dx dy : Dn} (hn : nmB C i y = true) (hix : ixE ix = true) (hjx : ixE jx = true) (n1 : noStarE v = true) (n2 : noStarE w = true)
    (hx : Sd X cm T dx ix) (hy : Sd X cm T dy jx) (ha : Sd X cm T a v) (hb : Sd X cm T b w) :
    PS X (.Assign [.Tuple [.Subscript (.Name y p1) ix p2, .Subscript (.Name y p3) jx p4] k1 p5] (.Tuple [v, w] k2 p6) pos) (tzS X.K cm P T fun ρ => if isOl (gt ρ i) then (a.v ρ).bind fun p => (b.v p.2).bind fun q => (dx.v q.2).bind fun r => match gt r.2 i, r.1.frz with
      | some (.ol l), .int n => (ofO (setL l n p.1.frz)).bind fun l' => (dy.v (st r.2 i (some (.ol l')))).bind fun z => match gt z.2 i, z.1.frz with
        | some (.ol m), .int n' => (ofO (setL m n' q.1.frz)).bind fun m' => .ok (.nx, st z.2 i (some (.ol m')))
        | _, _ => .bad
      | _, _ => .bad else .bad) := by
  simp only [nmB, Bool.and_eq_true, decide_eq_true_eq] at hn
  obtain ⟨q1, q2, _⟩ := plainX_of hn.2.2
  have hv : ∀ p, PE X (.Name y p) (tVar i) := fun p => pe_var (by rw [xo.n]; exact hn.1) (xo.vis hn.2.1) q1 q2
  refine psI (ps_asg (pe_tup (Sds.vs hm (.cons ha n1 (.cons hb n2 .nil)))) (pg_tup (n := 2) (xo.calm hca) (pgs_cons (pg_sub (hv p1) (hx.f hm) set_list (asg_sub hix)) (pgs_cons (pg_sub (hv p3) (hy.f hm) set_list (asg_sub hjx)) pgs_nil)) rfl rfl) sw_tup swapped_sub rfl) fun D σ H hq => ?_
  obtain ⟨ρ, F, lab, re, tk⟩ := hq
  have tk : TkS T F H lab (if isOl (gt ρ i) then (a.v ρ).bind fun p => (b.v p.2).bind fun q => (dx.v q.2).bind fun r => match gt r.2 i, r.1.frz with
      | some (.ol l), .int n => (ofO (setL l n p.1.frz)).bind fun l' => (dy.v (st r.2 i (some (.ol l')))).bind fun z => match gt z.2 i, z.1.frz with
        | some (.ol m), .int n' => (ofO (setL m n' q.1.frz)).bind fun m' => .ok (Fl.nx, st z.2 i (some (.ol m')))
        | _, _ => .bad
      | _, _ => .bad else .bad) _ := tk
  split at tk
  case isFalse => exact absurd rfl tk.1
  rename_i hown
  have hol : ∃ l0, gt ρ i = some (.ol l0) := by
    cases eg0 : gt ρ i with
    | none => rw [eg0] at hown; cases hown
    | some w0 => cases w0 <;> first | exact ⟨_, rfl⟩ | (rw [eg0] at hown; cases hown)
  obtain ⟨l0, eg0⟩ := hol
  obtain ⟨v0, hv0, _⟩ := re.at_ i _ eg0
  have e0 : ((a.v ρ).bind fun p => (b.v p.2).bind fun q => (dx.v q.2).bind fun r => (match gt r.2 i, r.1.frz with
      | some (.ol l), .int n => (ofO (setL l n p.1.frz)).bind fun l' => (dy.v (st r.2 i (some (.ol l')))).bind fun z => match gt z.2 i, z.1.frz with
        | some (.ol m), .int n' => (ofO (setL m n' q.1.frz)).bind fun m' => .ok (Fl.nx, st z.2 i (some (.ol m')))
        | _, _ => .bad
      | _, _ => .bad : R (Fl × Env))) = (dVs [a, b] ρ).bind fun pq => match pq.1 with
        | [d, d'] => (frzV dx.v pq.2).bind fun r => (match gt r.2 i, r.1 with
          | some (.ol l), .int n => (ofO (setL l n d)).bind fun l' => (frzV dy.v (st r.2 i (some (.ol l')))).bind fun z => match gt z.2 i, z.1 with
            | some (.ol m), .int n' => (ofO (setL m n' d')).bind fun m' => .ok (Fl.nx, st z.2 i (some (.ol m')))
            | _, _ => .bad
          | _, _ => .bad : R (Fl × Env))
        | _ => .bad := by
    unfold dVs dVs dVs frzV
    cases a.v ρ with
    | ok x =>
      simp only [bind_ok]
      cases b.v x.2 with
      | ok z =>
        simp only [bind_ok]
        cases dx.v z.2 with
        | ok r =>
          simp only [bind_ok]
          split
          · congr 1
            funext l'
            cases dy.v (st r.2 i (some (.ol l'))) <;> rfl
          · rfl
        | _ => rfl
      | _ => rfl
    | _ => rfl
  rw [e0] at tk
  refine ⟨ρ, F, lab, re, (tk.bnd.tk σ).imp fun z F1 H1 lab1 tk1 re1 vs rs => ?_⟩
  obtain ⟨z1, z2⟩ := z
  match z1, vs, rs with
  | [], _, _ => exact absurd rfl tk1.1
  | [_], _, _ => exact absurd rfl tk1.1
  | _ :: _ :: _ :: _, _, _ => exact absurd rfl tk1.1
  | [d, d'], _, .cons (v := v1) r1 (.cons (v := v2) r2 .nil) =>
    refine ⟨by rw [sizeLine_eq]; show 2 ≤ 16777216; decide, fun tp htp => ⟨tp, [v1, v2], rfl, .inl (.inl upd_same), rfl, ?_⟩⟩
    obtain ⟨labT, sT, reT, _⟩ := (New.tup (ds := [d, d']) re1.sub htp (.cons r1 (.cons r2 .nil))).step re1
    have tk2 := tk1.step sT
    have r1T := Rep.mono sT.ff r1
    have r2T := Rep.mono sT.ff r2
    refine ⟨v1, [v2], rfl, v0, hv0, z2, _, labT, reT, ?_⟩
    have tb := tk2.bnd.tk σ
    refine ⟨tb.1, tb.2.1, fun r er F3 H3 lab3 s3 re3 vr rr => ?_⟩
    have tk3 := tb.2.2 r er F3 H3 lab3 s3
    obtain ⟨r0, r3⟩ := r
    simp only at tk3
    split at tk3
    case h_2 => exact absurd rfl tk3.1
    rename_i l n eg
    obtain ⟨l', el, tk4⟩ := tk3.pure ofO_noex
    obtain ⟨v', ev, p, us, rfl, lp, hp, fp, rl⟩ := re3.at_ i _ eg
    rw [hv0] at ev
    cases ev
    cases rr
    obtain ⟨j, ej, rl'⟩ := setL_ix rl (Rep.mono s3.ff r1T) (ofO_eq el)
    refine ⟨_, us, n, j, rfl, rfl, hp, ej, ?_⟩
    obtain ⟨s4, re4⟩ := re3.rewrite (o := .lst (us.set j v1)) (w := .ol l') lp hv0 fp ⟨_, hp⟩ ⟨_, _, rfl, lp, upd_same, fp, rl'⟩
    have tk5 := tk4.step s4
    refine ⟨v2, [], rfl, _, hv0, _, F3, lab3, re4, ?_⟩
    have tc := tk5.bnd.tk σ
    refine ⟨tc.1, tc.2.1, fun y ey F6 H6 lab6 s6 re6 vy ry => ?_⟩
    have tk6 := tc.2.2 y ey F6 H6 lab6 s6
    obtain ⟨y0, y3⟩ := y
    simp only at tk6
    split at tk6
    case h_2 => exact absurd rfl tk6.1
    rename_i m n' eg'
    obtain ⟨m', em, tk7⟩ := tk6.pure ofO_noex
    obtain ⟨v'', ev', p', us', e', lp', hp', fp', rl2⟩ := re6.at_ i _ eg'
    rw [hv0] at ev'
    cases ev'
    cases e'
    cases ry
    obtain ⟨j', ej', rl2'⟩ := setL_ix rl2 (Rep.mono s6.ff (Rep.mono s3.ff r2T)) (ofO_eq em)
    refine ⟨_, us', n', j', rfl, rfl, hp', ej', ?_⟩
    obtain ⟨s7, re7⟩ := re6.rewrite (o := .lst (us'.set j' v2)) (w := .ol m') lp' hv0 fp' ⟨_, hp'⟩ ⟨_, _, rfl, lp', upd_same, fp', rl2'⟩
    exact ⟨rfl, tk7.at_ s7 σ (Same.refl _ _) re7⟩
theorem ps_app (hm : T.Mono) (xo : XOk X C) {i : Nat} {y : Str} {p1 ap cp : Pos} {v : Expr} (hn : nmB C i y = true) (n1 : noStarE v = true) (hline : (ap.endLine == cp.line) = true) (he : Sd X cm T b v) :
    PS X (.Expr (.Call (.Attribute (.Name y p1) "append" ap) [v] [] cp) pos) (tzS X.K cm P T fun ρ => if isOl (gt ρ i) then (b.v ρ).bind fun x => match gt x.2 i with
      | some (.ol l) => if l.length < line then .ok (.nx, st x.2 i (some (.ol (l ++ [x.1.frz])))) else .bad
      | _ => .bad else .bad) := by
  simp only [nmB, Bool.and_eq_true, decide_eq_true_eq] at hn
  obtain ⟨q1, q2, _⟩ := plainX_of hn.2.2
  have hv : PE X (.Name y p1) (tVar i) := pe_var (by rw [xo.n]; exact hn.1) (xo.vis hn.2.1) q1 q2
  refine psI (ps_expr (pe_bm PySem.F.plainAttrs_list PySem.F.slot_list_append PySem.F.type_list_append mt_append hv (pa_cons (he.f hm) pa_nil (star_cons n1)) rfl (by rw [star_cons n1]; rfl) hline (star_cons n1) rfl)) fun D σ H hq => ?_
  obtain ⟨ρ, F, lab, re, tk⟩ := hq
  have tk : TkS T F H lab (if isOl (gt ρ i) then (b.v ρ).bind fun x => match gt x.2 i with
      | some (.ol l) => if l.length < line then .ok (Fl.nx, st x.2 i (some (.ol (l ++ [x.1.frz])))) else .bad
      | _ => .bad else .bad) _ := tk
  split at tk
  case isFalse => exact absurd rfl tk.1
  rename_i hown
  rw [bind_frz (m := b.v) (ρ := ρ) (g := fun d ρ' => (match gt ρ' i with
      | some (.ol l) => if l.length < line then .ok (Fl.nx, st ρ' i (some (.ol (l ++ [d])))) else .bad
      | _ => .bad : R (Fl × Env)))] at tk
  have hol : ∃ l0, gt ρ i = some (.ol l0) := by
    cases eg0 : gt ρ i with
    | none => rw [eg0] at hown; cases hown
    | some w0 => cases w0 <;> first | exact ⟨_, rfl⟩ | (rw [eg0] at hown; cases hown)
  obtain ⟨l0, eg0⟩ := hol
  · obtain ⟨v0, hv0, p0, vs0, rfl, lp0, hp0, fp0, rr0⟩ := re.at_ i _ eg0
    refine ⟨_, hv0, ?_, ρ, F, lab, re, (tk.bnd.tk σ).imp fun x F1 H1 lab1 tk1 re1 vx rx => ?_⟩
    · exact .inl ⟨rfl, vs0, .inl (.inl hp0)⟩
    · split at tk1
      case h_2 => exact absurd rfl tk1.1
      rename_i l eg
      split at tk1
      case isFalse => exact absurd rfl tk1.1
      rename_i hl
      obtain ⟨v', e1, p, vs, rfl, lp, hp, fp, r⟩ := re1.at_ i _ eg
      rw [hv0] at e1
      cases e1
      refine ⟨_, vs, vx, rfl, rfl, hp, by rw [← r.length, ← line_eq]; exact hl, ?_⟩
      obtain ⟨s3, re3⟩ := re1.rewrite (o := .lst (vs ++ [vx])) (w := .ol (l ++ [x.1])) lp hv0 fp ⟨_, hp⟩ ⟨_, _, rfl, lp, upd_same, fp, r.append (.cons rx .nil)⟩
      exact tk1.at_ s3 σ (Same.refl _ _) re3
theorem ps_ext (hm : T.Mono) (xo : XOk X C) {i : Nat} {y : Str} {p1 ap cp : Pos} {v : Expr} (hn : nmB C i y = true) (n1 : noStarE v = true) (hline : (ap.endLine == cp.line) = true) (he : Sd X cm T b v) :
    PS X (.Expr (.Call (.Attribute (.Name y p1) "extend" ap) [v] [] cp) pos) (tzS X.K cm P T fun ρ => if isOl (gt ρ i) then (b.v ρ).bind fun x => match x.1, gt x.2 i with
      | .ol m, some (.ol l) => if l.length + m.length ≤ line then .ok (.nx, st x.2 i (some (.ol (l ++ m)))) else .bad
      | _, _ => .bad else .bad) := by
  simp only [nmB, Bool.and_eq_true, decide_eq_true_eq] at hn
  obtain ⟨q1, q2, _⟩ := plainX_of hn.2.2
  have hv : PE X (.Name y p1) (tVar i) := pe_var (by rw [xo.n]; exact hn.1) (xo.vis hn.2.1) q1 q2
  refine psI (ps_expr (pe_bm PySem.F.plainAttrs_list PySem.F.slot_list_extend PySem.F.type_list_extend mt_extend hv (pa_cons he.v pa_nil (star_cons n1)) rfl (by rw [star_cons n1]; rfl) hline (star_cons n1) rfl)) fun D σ H hq => ?_
  obtain ⟨ρ, F, lab, re, tk⟩ := hq
  have tk : TkS T F H lab (if isOl (gt ρ i) then (b.v ρ).bind fun x => match x.1, gt x.2 i with
      | .ol m, some (.ol l) => if l.length + m.length ≤ line then .ok (Fl.nx, st x.2 i (some (.ol (l ++ m)))) else .bad
      | _, _ => .bad else .bad) _ := tk
  split at tk
  case isFalse => exact absurd rfl tk.1
  rename_i hown
  have hol : ∃ l0, gt ρ i = some (.ol l0) := by
    cases eg0 : gt ρ i with
    | none => rw [eg0] at hown; cases hown
    | some w0 => cases w0 <;> first | exact ⟨_, rfl⟩ | (rw [eg0] at hown; cases hown)
  obtain ⟨l0, eg0⟩ := hol
  obtain ⟨v0, hv0, p0, vs0, rfl, lp0, hp0, fp0, rr0⟩ := re.at_ i _ eg0
  refine ⟨_, hv0, ?_, ρ, F, lab, re, (tk.bnd.tk σ).imp fun x F1 H1 lab1 tk1 re1 vx rx => ?_⟩
  · exact .inl ⟨rfl, vs0, .inl (.inl hp0)⟩
  obtain ⟨x1, x2⟩ := x
  dsimp only at tk1 rx
  split at tk1
  case h_2 => exact absurd rfl tk1.1
  rename_i m l eg
  split at tk1
  case isFalse => exact absurd rfl tk1.1
  rename_i hl
  obtain ⟨v', e1, p, vs, rfl, lp, hp, fp, r⟩ := re1.at_ i _ eg
  rw [hv0] at e1
  cases e1
  obtain ⟨q, zs, rfl, lq, hq, fq, rq⟩ := rx
  refine ⟨_, q, vs, zs, rfl, rfl, hp, hq, by rw [← r.length, ← rq.length, ← line_eq]; exact hl, ?_⟩
  obtain ⟨s3, re3⟩ := re1.rewrite (o := .lst (vs ++ zs)) (w := .ol (l ++ m)) lp hv0 fp ⟨_, hp⟩ ⟨_, _, rfl, lp, upd_same, fp, r.append rq⟩
  exact tk1.at_ s3 σ (Same.refl _ _) re3
end
end Z

set_option Elab.async false
set_option linter.all false
set_option maxRecDepth 100000
set_option maxHeartbeats 8000000
/-! Zi: statements about an instance that is a name's own. -/
namespace Z
open PySem
open PySem.Spec
open PyProof.Rows
open L2
section
variable {X : Cx} {cm : String → Option Addr} {T : TP} {C : CkC} {P : List Nat} {b : Dn} {pos : Pos} {k : Cl}
/-- self.f = value -/
theorem ps_setf (hm : T.Mono) (xo : XOk X C) (cl : Calls X cm k C.df C.kn C.g) {i : Nat} {f : String} {y g : Str} {p1 p2 : Pos} {v : Expr} (hg : g = Str.ofString f) (hn : nmB C i y = true) (he : Sd X cm T b v) :
    PS X (.Assign [.Attribute (.Name y p1) g p2] v pos) (tzS X.K cm P T fun ρ => (b.v ρ).bind fun x => setF k.g i f x.1.fw x.2) := by
  subst hg
  simp only [nmB, Bool.and_eq_true, decide_eq_true_eq] at hn
  obtain ⟨q1, q2, _⟩ := plainX_of hn.2.2
  have hv : PE X (.Name y p1) (tVar i) := pe_var (by rw [xo.n]; exact hn.1) (xo.vis hn.2.1) q1 q2
  refine psI (ps_fld hv he.v (by cases v <;> rfl)) fun D σ H hq => ?_
  obtain ⟨ρ, F, lab, re, tk⟩ := hq
  refine ⟨ρ, F, lab, re, (tk.bnd.tk σ).imp fun x F1 H1 lab1 tk1 re1 vx rx => ?_⟩
  unfold setF at tk1
  split at tk1
  case h_2 => exact absurd rfl tk1.1
  rename_i c fs eg
  split at tk1
  case isFalse => exact absurd rfl tk1.1
  rename_i hat
  simp only [Bool.and_eq_true, decide_eq_true_eq] at hat
  obtain ⟨F2, lab2, s2, re2, r2, sf⟩ := hand_field (i := i) (j := 0 + posF fs f + 1) re1 rx
  obtain ⟨v0, e0, p, A, dx, gs, rfl, lp, hp, fp, hcm, hr⟩ := re2.at_ i _ eg
  obtain ⟨k1, k2⟩ := cl.atr c f A hat.1 hcm
  refine ⟨_, e0, p, A, dx, gs, rfl, hp, k1, k2, by rw [← hr.len]; omega, ?_⟩
  have hb : ∀ j, 0 < j → ((i + 1, 0) : Nat × Nat) ≠ (i + 1, j) := fun j hj e => by
    have := congrArg Prod.snd e
    simp at this; omega
  obtain ⟨s3, re3⟩ := re2.rewrite (o := .ins A dx (putF (Str.ofString f) vx gs)) (w := .oi c (putW fs f x.1.fw)) lp e0 fp ⟨_, hp⟩
    ⟨p, A, dx, _, rfl, lp, upd_same, fp, hcm, RelFs.put (hr.upd lp hb) (r2.upd lp (hb _ (by omega)))⟩
  exact tk1.at_ (s2.trans s3) σ (Same.refl _ _) re3
theorem ps_deadZ {s : Stmt} : PS X s (tzS X.K cm P T fun ρ => (.bad : R (Fl × Env))) := ⟨fun pins s σ H D I h => by
  obtain ⟨ρ, F, lab, re, tk⟩ := h
  exact absurd rfl tk.1⟩
/-- self.f[x] = value -/
theorem ps_setif (hm : T.Mono) (xo : XOk X C) (cl : Calls X cm k C.df C.kn C.g) {i : Nat} {f : String} {y g : Str} {p1 p2 p3 : Pos} {v ix : Expr} {ex : E} (hg : g = Str.ofString f) (hn : nmB C i y = true) (hix : ixE ix = true) (hx : PE X ix (tPu X.K cm k.g ex)) (he : Sd X cm T b v) :
    PS X (.Assign [.Subscript (.Attribute (.Name y p1) g p2) ix p3] v pos) (tzS X.K cm P T fun ρ => (b.v ρ).bind fun v => (ofO (pu k.g ex v.2)).bind fun q => setIF k.g i f q v.1.frz v.2) := by
  subst hg
  simp only [nmB, Bool.and_eq_true, decide_eq_true_eq] at hn
  obtain ⟨q1, q2, _⟩ := plainX_of hn.2.2
  have hv : PE X (.Name y p1) (tVar i) := pe_var (by rw [xo.n]; exact hn.1) (xo.vis hn.2.1) q1 q2
  have hu : X.A.units + 1 < cLine := by have := xo.un; omega
  refine psI (ps_asg (he.f hm) (pg_sub (pe_fld (f := Str.ofString f) (pos := p2) hv (attr_base rfl)) hx (psetOr set_list (set_dict hu)) (asg_sub hix)) sw_sub rfl rfl) fun D σ H hq => ?_
  obtain ⟨ρ, F, lab, re, tk⟩ := hq
  have tk : TkS T F H lab ((b.v ρ).bind fun v => (ofO (pu k.g ex v.2)).bind fun q => setIF k.g i f q v.1.frz v.2) (PostS X.K cm P D σ) := tk
  rw [bind_frz (m := b.v) (ρ := ρ) (g := fun d ρ' => (ofO (pu k.g ex ρ')).bind fun q => setIF k.g i f q d ρ')] at tk
  refine ⟨ρ, F, lab, re, (tk.bnd.tk σ).imp fun x F1 H1 lab1 tk1 re1 vx rx => ?_⟩
  obtain ⟨q, eq, tk2⟩ := tk1.pure ofO_noex
  have eq : pu k.g ex x.2 = some q := by cases h : pu k.g ex x.2 <;> rw [h] at eq <;> cases eq; rfl
  unfold setIF at tk2
  split at tk2
  case h_2 => exact absurd rfl tk2.1
  rename_i c fs eg
  split at tk2
  case isFalse => exact absurd rfl tk2.1
  rename_i hat
  obtain ⟨w', ew', tk3⟩ := tk2.pure ofO_noex
  have ew' := ofO_eq ew'
  cases hlk : lkF fs f with
  | none => rw [hlk] at ew'; cases ew'
  | some w =>
  rw [hlk] at ew'
  obtain ⟨v0, e1, p0, A, dx, gs, rfl, lp0, hp0, fp0, hcm, hr⟩ := re1.at_ i _ eg
  obtain ⟨k1, k2⟩ := cl.atr c f A hat hcm
  obtain ⟨v', l1, l2⟩ := hr.lookP hlk
  refine ⟨_, e1, p0, A, dx, gs, v', rfl, hp0, k1, k2, l1, x.2, F1, lab1, re1, q, eq, fun vq F2 H2 gr vwq => ?_⟩
  obtain ⟨s2, re2⟩ := gr.step re1
  obtain ⟨v2, e2, p2', A2, dx2, gs2, hv2, lp2, hp2, fp2, hcm2, hr2⟩ := re2.at_ i _ eg
  rw [e1] at e2
  cases e2
  cases hv2
  have hH2 := gr.2.2.1 _ _ hp0
  rw [hp2] at hH2
  cases hH2
  obtain ⟨v3, l3, l4⟩ := hr2.lookP hlk
  rw [l1] at l3
  cases l3
  have rx2 := Rep.mono gr.1 rx
  have fin : ∀ (w' : Fw) (p : Addr) (o : HO), v' = .ref p → lab1 p = some (i + 1, 0 + posF fs f + 1) → F2 p = none → RelR X.K cm F2 (L2.upd H2 p o) lab1 (i + 1, 0 + posF fs f + 1) w' v' →
      Stp F2 H2 lab1 F2 (L2.upd H2 p o) lab1 ∧ RE X.K cm F2 (L2.upd H2 p o) lab1 (st x.2 i (some (.oi c (putW fs f w')))) σ := fun w' p o ev lp fp rr => by
    have hne : p0 ≠ p := fun e => by
      rw [← e, lp2] at lp
      have := congrArg Prod.snd (Option.some.inj lp)
      simp at this
    refine re2.rewriteF (v0 := .ref p0) lp e1 fp ⟨p0, A, dx, gs, rfl, lp2, by rw [upd_ne hne]; exact hp2, fp2, hcm, ?_⟩
    have hall : RelFs X.K cm F2 (L2.upd H2 p o) lab1 (i + 1) 0 (putW fs f w') (putF (Str.ofString f) v' gs) :=
      RelFs.putU hr2 lp rr
    rwa [putF_same l1] at hall
  cases w with
  | sh d => cases ew'
  | ol l =>
    cases q with
    | int n =>
      simp only [setIF2, Option.map_eq_some_iff] at ew'
      obtain ⟨l', el, rfl⟩ := ew'
      obtain ⟨p, vs, ev, lp, hp, fp, r⟩ := l4
      cases vwq.int
      obtain ⟨j, ej, r'⟩ := setL_ix r rx2 el
      subst ev
      refine .inl ⟨p, vs, n, j, rfl, rfl, hp, ej, ?_⟩
      obtain ⟨s3, re3⟩ := fin (.ol l') p (.lst (vs.set j vx)) rfl lp fp ⟨p, _, rfl, lp, upd_same, fp, r'⟩
      exact tk3.at_ (s2.trans s3) σ (Same.refl _ _) re3
    | _ => cases ew'
  | od t l =>
    simp only [setIF2, Option.bind_eq_some_iff] at ew'
    obtain ⟨kk, ek, ew'⟩ := ew'
    split at ew'
    case isFalse => cases ew'
    rename_i hl
    cases ew'
    obtain ⟨p, ev, lp, fp, dd⟩ := l4
    subst ev
    obtain ⟨o, dp, da⟩ := dicAt_put re2.sub dd (vw_key vwq ek) rx2 ek hl
    refine .inr ⟨p, L2.upd H2 p o, rfl, dp, ?_⟩
    obtain ⟨s3, re3⟩ := fin (.od t _) p o rfl lp fp ⟨p, rfl, lp, fp, by rw [upd_same]; exact da⟩
    exact tk3.at_ (s2.trans s3) σ (Same.refl _ _) re3
theorem ofO_of {α : Type} {o : Option α} {a : α} (h : ofO o = .ok a) : o = some a := ofO_eq h
/-- self.f += value -/
theorem ps_augf (hm : T.Mono) (xo : XOk X C) (cl : Calls X cm k C.df C.kn C.g) {i : Nat} {f : String} {y g : Str} {p1 p2 : Pos} {v : Expr} {o : Bop} {op : Operator} (hg : g = Str.ofString f) (hn : nmB C i y = true) (hao : augB o = true) (ho : bopB o op = true) (he : Sd X cm T b v) :
    PS X (.AugAssign (.Attribute (.Name y p1) g p2) op v pos) (tzS X.K cm P T fun ρ => (ofO (fldS (fldW k.g (gt ρ i) f))).bind fun d => (b.v ρ).bind fun x => (ofO (augI o d x.1.frz)).bind fun w => if clsO (gt ρ i) = clsO (gt x.2 i) then setF k.g i f (.sh w) x.2 else .bad) := by
  subst hg
  rw [bopB_of ho]
  simp only [nmB, Bool.and_eq_true, decide_eq_true_eq] at hn
  obtain ⟨q1, q2, _⟩ := plainX_of hn.2.2
  have hv : PE X (.Name y p1) (tVar i) := pe_var (by rw [xo.n]; exact hn.1) (xo.vis hn.2.1) q1 q2
  have key : ∀ (rd : V → V → Hp → VK → Prop), InOp X (bopOf o) rd → (∀ (d e w : D) (x y : V) (F H : Hp) (Q : VK), augI o d e = some w → Rep X.K cm F d x → Rep X.K cm F e y → (∀ z, Rep X.K cm F w z → Q z H) → rd x y H Q) → PS X (.AugAssign (.Attribute (.Name y p1) (Str.ofString f) p2) (bopOf o) v pos) (tzS X.K cm P T fun ρ => (ofO (fldS (fldW k.g (gt ρ i) f))).bind fun d => (b.v ρ).bind fun x => (ofO (augI o d x.1.frz)).bind fun w => if clsO (gt ρ i) = clsO (gt x.2 i) then setF k.g i f (.sh w) x.2 else .bad) := by
    intro rd hin hrd
    refine psI (ps_fldaug hv (he.f hm) hin) fun D σ H hq => ?_
    obtain ⟨ρ, F, lab, re, tk⟩ := hq
    have tk : TkS T F H lab ((ofO (fldS (fldW k.g (gt ρ i) f))).bind fun d => (b.v ρ).bind fun x => (ofO (augI o d x.1.frz)).bind fun w => if clsO (gt ρ i) = clsO (gt x.2 i) then setF k.g i f (.sh w) x.2 else .bad) (PostS X.K cm P D σ) := tk
    obtain ⟨d, ed, tk1⟩ := tk.pure ofO_noex
    have ed := ofO_of ed
    have hfw := fldS_some ed
    obtain ⟨v0, p, A, dx, gs, v', e1, rfl, hb, k1, k2, l1, _, l2⟩ := fld_slot cl re hfw
    have rd' := l2 d rfl
    rw [bind_frz (m := b.v) (ρ := ρ) (g := fun e ρ' => (ofO (augI o d e)).bind fun w => if clsO (gt ρ i) = clsO (gt ρ' i) then setF k.g i f (.sh w) ρ' else .bad)] at tk1
    refine ⟨_, e1, p, A, dx, gs, v', rfl, hb, k1, k2, l1, ρ, F, lab, re, ?_⟩
    have tb := tk1.bnd.tk σ
    refine ⟨tb.1, tb.2.1, fun x ex F1 H1 lab1 s1 re1 vx rx => ?_⟩
    have tk2 := tb.2.2 x ex F1 H1 lab1 s1
    obtain ⟨w, ew, tk3⟩ := tk2.pure ofO_noex
    have ew := ofO_of ew
    refine hrd d x.1 w v' vx F1 H1 _ ew (Rep.mono s1.ff rd') rx fun z rz => ?_
    split at tk3
    case isFalse => exact absurd rfl tk3.1
    rename_i hcls
    unfold setF at tk3
    split at tk3
    case h_2 => exact absurd rfl tk3.1
    rename_i c fs eg
    split at tk3
    case isFalse => exact absurd rfl tk3.1
    rename_i hat
    simp only [Bool.and_eq_true, decide_eq_true_eq] at hat
    rw [eg] at hcls
    obtain ⟨v2, e2, p2', A2, dx2, gs2, hv2, lp, hp, fp, hcm, hr⟩ := re1.at_ i _ eg
    rw [e1] at e2
    cases e2
    cases hv2
    have hA : A2 = A := by
      cases ew0 : gt ρ i with
      | none => rw [ew0] at hcls; cases hcls
      | some w0 =>
        rw [ew0] at hcls
        cases w0 with
        | oi c0 fs0 =>
          cases hcls
          obtain ⟨v3, e3, p3, A3, dx3, gs3, hv3, lp3, hp3, fp3, hcm3, hr3⟩ := re.at_ i _ ew0
          rw [e1] at e3
          cases e3
          cases hv3
          rw [hb] at hp3
          cases hp3
          rw [hcm] at hcm3
          exact Option.some.inj hcm3
        | _ => cases hcls
    subst hA
    refine ⟨dx2, gs2, hp, by rw [← hr.len]; omega, ?_⟩
    have hbn : ∀ j, 0 < j → ((i + 1, 0) : Nat × Nat) ≠ (i + 1, j) := fun j hj e => by
      have h9 := congrArg Prod.snd e
      simp only at h9
      omega
    have rr : RelR X.K cm F1 H1 lab1 (i + 1, 0 + posF fs f + 1) (.sh w) z := rz
    obtain ⟨s3, re3⟩ := re1.rewrite (o := .ins A2 dx2 (putF (Str.ofString f) z gs2)) (w := .oi c (putW fs f (.sh w))) lp e1 fp ⟨_, hp⟩
      ⟨p, A2, dx2, _, rfl, lp, upd_same, fp, hcm, RelFs.put (hr.upd lp hbn) (rr.upd lp (hbn _ (by omega)))⟩
    exact tk3.at_ s3 σ (Same.refl _ _) re3
  cases o with
  | add =>
    refine key rAdd in_add fun d e w x y F H Q ew rx ry q => ?_
    cases d <;> cases e <;> first | (cases ew; done) | skip
    cases ew
    cases rx
    cases ry
    exact ⟨_, _, rfl, rfl, q _ (.int _)⟩
  | sub =>
    refine key rSub in_sub fun d e w x y F H Q ew rx ry q => ?_
    cases d <;> cases e <;> first | (cases ew; done) | skip
    cases ew
    cases rx
    cases ry
    exact ⟨_, _, rfl, rfl, q _ (.int _)⟩
  | _ => cases hao
end
end Z

set_option Elab.async false
set_option linter.all false
set_option maxRecDepth 100000
set_option maxHeartbeats 8000000
/-! Zy: raise. -/
namespace Z
open PySem
open PySem.Spec
open PyProof.Rows
open L2
section
variable {X : Cx} {K : PySem.W.Frag} {cm : String → Option Addr} {T : TP} {C : CkC} {P : List Nat} {k : Cl} {pos : Pos}
theorem takes_some {X : Cx} : Takes X fun cls d σ H => ∃ W, Takes X W ∧ W cls d σ H := fun u s' ⟨a, B, sI, pins, σ, H, cls, d, e, I, nb, up, sky, na, os, ag, W, tk, w⟩ =>
  tk u s' ⟨a, B, sI, pins, σ, H, cls, d, e, I, nb, up, sky, na, os, ag, w⟩
theorem repF_zip {F : Hp} : ∀ {ns : List String} {ds : List D} {ws : List V}, ns.length = ds.length → Reps K cm F ds ws → RepF K cm F (ns.zip ds) (fsX ns ws)
  | [], [], _, _, .nil => .nil
  | n :: ns, d :: ds, _, h, .cons r rr => .cons r (repF_zip (by simpa using h) rr)
  | [], _ :: _, _, h, _ => by simp at h
  | _ :: _, [], _, h, _ => by simp at h
theorem exd_same {dx : Addr} {fs gs : List (Str × V)} (h : ∀ f, fs.lookup f = gs.lookup f) : exd dx fs = exd dx gs := by
  unfold exd
  congr 1
  funext hp
  have : (fun (mA : Str → Option Value) => hp.Ns1 dx mA ∧ ∀ f, L2.RelO (fs.lookup f) (mA f)) = fun mA => hp.Ns1 dx mA ∧ ∀ f, L2.RelO (gs.lookup f) (mA f) := by
    funext mA
    congr 1
    refine propext ⟨fun q f => ?_, fun q f => ?_⟩
    · rw [← h]; exact q f
    · rw [h]; exact q f
  rw [this]
theorem ps_rse (hm : T.Mono) (hx : TPx X cm T) (xo : XOk X C) (cl : Calls X cm k C.df C.kn C.g) (hca : C.ca = true) {c : String} {ns : List String} {l : List E} {x : Str} {p pos2 : Pos} {e : Expr} {es : List Expr} (hc : C.g.exa.lookup c = some ns) (ec : x = Str.ofString c)
    (hg : gloB C.sc x = true) (hp : plainX x = true) (hs : Sds X cm T (dens k l) (e :: es)) (hn : ∀ e' ∈ e :: es, noStarE e' = true) : PS X (.Raise (some (.Call (.Name x p) (e :: es) [] pos)) none pos2) (tzS X.K cm P T (exec k (.rse c ns l))) := by
  subst ec
  have hcalm := xo.calm hca
  rw [← cl.geq] at hc
  obtain ⟨hroom, A, fI, fd, hA, hmg, ox, iC, tI, F1, hb, hnd⟩ := cl.exq hcalm c ns hc
  by_cases hkn : 1 < k.n ∧ k.g.exa.lookup c = some ns
  case neg =>
    refine ⟨fun pins s σ H D I h => ?_⟩
    obtain ⟨ρ, F, lab, re, tk⟩ := h
    have : exec k (.rse c ns l) ρ = .bad := if_neg hkn
    rw [this] at tk
    exact absurd rfl tk.1
  refine psI (ps_raise hcalm takes_some (pmk_oex (k := 1) ox iC tI F1 (hroom hkn.1) hb .nil (L2.pass0 (X := X)) (xo.gl hg) hmg (Sds.vs hm hs) (plainX_of hp).1 (star_cons (hn e (by simp))) (star_none fun e' he => hn e' (by simp [he])))) fun D σ H hq => ?_
  obtain ⟨ρ, F, lab, re, tk⟩ := hq
  have e0 : exec k (.rse c ns l) ρ = (dVs (dens k l) ρ).bind fun x => if ns.length = x.1.length ∧ x.1.length ≤ 100 then (.ex c (ns.zip x.1) x.2 : R (Fl × Env)) else .bad := if_pos hkn
  rw [e0] at tk
  refine ⟨ρ, F, lab, re, (tk.bnd.tk σ).imp fun y F1 H1 lab1 tk1 re1 vs rs => ?_⟩
  by_cases hl : ns.length = y.1.length ∧ y.1.length ≤ 100
  case neg => rw [if_neg hl] at tk1; exact absurd rfl tk1.1
  rw [if_pos hl] at tk1
  have hlen := rs.length
  refine ⟨by omega, fun a ha => ⟨a, vs, by simp, by omega, upd_same, fun dx H' gs hdx hne h1 h2 h3 h4 => ⟨rfl, dx, fsX ns vs, h1, by rw [h2, exd_same h3], ?_, ?_⟩⟩⟩
  · have : upd H1 a (exo a A none) dx = H1 dx := upd_ne hne
    rw [← this]; exact hdx
  · have hd0 : H1 dx = none := by
      have : upd H1 a (exo a A none) dx = H1 dx := upd_ne hne
      rw [← this]; exact hdx
    have keep : ∀ b o, H1 b = some o → upd (del H' a) dx (.xd (fsX ns vs)) b = some o := fun b o hb => by
      have n1 : b ≠ dx := ne_of_none hb hd0
      have n2 : b ≠ a := ne_of_none hb ha
      rw [upd_ne n1, del_ne n2, h4 b n2 n1, upd_ne n2]
      exact hb
    have fd0 : F1 dx = none := none_of_sub re1.sub hd0
    have s12 : Sub F1 (upd F1 dx (.xd (fsX ns vs))) := Sub.new fd0
    have off : ∀ b o, H1 b = some o → F1 b = none → upd F1 dx (.xd (fsX ns vs)) b = none := fun b o hb hf => by rw [upd_ne (ne_of_none hb hd0)]; exact hf
    have s2 : Sub (upd F1 dx (.xd (fsX ns vs))) (upd (del H' a) dx (.xd (fsX ns vs))) := fun b o hb => by
      by_cases e : b = dx
      · subst e; rw [upd_same] at hb ⊢; exact hb
      · rw [upd_ne e] at hb; exact keep b o (re1.sub _ _ hb)
    have st : Stp F1 H1 lab1 (upd F1 dx (.xd (fsX ns vs))) (upd (del H' a) dx (.xd (fsX ns vs))) lab1 := ⟨s12, fun b o hb hf hl => ⟨keep b o hb, off b o hb hf, hl⟩⟩
    have re' : RE X.K cm (upd F1 dx (.xd (fsX ns vs))) (upd (del H' a) dx (.xd (fsX ns vs))) lab1 y.2 σ := re1.keep s12 s2 fun i b o j hl hb hf => ⟨keep b o hb, off b o hb hf, hl⟩
    have hT := tk1.2.1 c _ y.2 rfl σ F1 H1 lab1 (Stp.refl _ _ _)
    exact ⟨_, hx σ F1 H1 lab1 c _ y.2 hT re1, A, dx, fsX ns vs, _, lab1, rfl, hA, rfl, upd_same, (repF_zip hl.1 rs).mono s12, st, re', rfl⟩
end
end Z

set_option Elab.async false
set_option linter.all false
set_option maxRecDepth 100000
set_option maxHeartbeats 8000000
/-! Zz: try .. except C as e. -/
namespace Z
open PySem
open PySem.Spec
open PyProof.Rows
open L2
/-- the class names with the caught exception's three -/
def cmx (cm : String → Option Addr) (a dd C : Addr) : String → Option Addr := fun n => if n = "!a" then some a else if n = "!d" then some dd else if n = "!c" then some C else cm n
theorem cmx_ne {cm : String → Option Addr} {a dd C : Addr} {n : String} (h : (n == "!a" || n == "!d" || n == "!c") = false) : cmx cm a dd C n = cm n := by
  simp only [Bool.or_eq_false_iff, beq_eq_false_iff_ne] at h
  simp only [cmx, if_neg h.1.1, if_neg h.1.2, if_neg h.2]
theorem cmx_of {cm : String → Option Addr} {a dd C A : Addr} (q : CmN cm) {n : String} (h : cm n = some A) : cmx cm a dd C n = some A := by
  unfold cmx
  obtain ⟨q1, q2, q3⟩ := q
  split
  · rename_i e; rw [e, q1] at h; cases h
  · split
    · rename_i e; rw [e, q2] at h; cases h
    · split
      · rename_i e; rw [e, q3] at h; cases h
      · exact h
section
variable {K : PySem.W.Frag} {cm cm' : String → Option Addr} {F H : Hp} {lab : Lab} {ρ : Env} {σ : L2.St}
mutual
theorem Rep.cmm (q : ∀ n A, cm n = some A → cm' n = some A) : ∀ {d : D} {v : V}, Rep K cm F d v → Rep K cm' F d v
  | _, _, .non => .non
  | _, _, .bl b => .bl b
  | _, _, .int i => .int i
  | _, _, .str x => .str x
  | _, _, .tup h r => .tup h (Reps.cmm q r)
  | _, _, .lst h r => .lst h (Reps.cmm q r)
  | _, _, .dicK h r => .dicK h (RepK.cmm q r)
  | _, _, .dicT h r => .dicT h (RepT.cmm q r)
  | _, _, .ins h c r => .ins h (q _ _ c) (RepF.cmm q r)
theorem Reps.cmm (q : ∀ n A, cm n = some A → cm' n = some A) : ∀ {d : List D} {v : List V}, Reps K cm F d v → Reps K cm' F d v
  | _, _, .nil => .nil
  | _, _, .cons h r => .cons (Rep.cmm q h) (Reps.cmm q r)
theorem RepK.cmm (q : ∀ n A, cm n = some A → cm' n = some A) : ∀ {d : List (D × D)} {v : List (L2.Key × V)}, RepK K cm F d v → RepK K cm' F d v
  | _, _, .nil => .nil
  | _, _, .cons k h r => .cons k (Rep.cmm q h) (RepK.cmm q r)
theorem RepT.cmm (q : ∀ n A, cm n = some A → cm' n = some A) : ∀ {d : List (D × D)} {v : List (List L2.Key × V)}, RepT K cm F d v → RepT K cm' F d v
  | _, _, .nil => .nil
  | _, _, .cons k h r => .cons k (Rep.cmm q h) (RepT.cmm q r)
theorem RepF.cmm (q : ∀ n A, cm n = some A → cm' n = some A) : ∀ {d : List (String × D)} {v : List (Str × V)}, RepF K cm F d v → RepF K cm' F d v
  | _, _, .nil => .nil
  | _, _, .cons h r => .cons (Rep.cmm q h) (RepF.cmm q r)
end
theorem RelR.cmm (q : ∀ n A, cm n = some A → cm' n = some A) {b : Nat × Nat} {w : Fw} {v : V} (h : RelR K cm F H lab b w v) : RelR K cm' F H lab b w v := by
  cases w with
  | sh d => exact Rep.cmm q h
  | ol ds =>
    obtain ⟨p, vs, e, l, hp, fp, r⟩ := h
    exact ⟨p, vs, e, l, hp, fp, r.cmm q⟩
  | od t l =>
    obtain ⟨p, e, lb, fp, r⟩ := h
    refine ⟨p, e, lb, fp, ?_⟩
    cases t with
    | false => obtain ⟨m, e, r⟩ := r; exact ⟨m, e, r.cmm q⟩
    | true => obtain ⟨m, e, r⟩ := r; exact ⟨m, e, r.cmm q⟩
theorem RelFs.cmm (q : ∀ n A, cm n = some A → cm' n = some A) {s : Nat} : ∀ {k : Nat} {fs : List (String × Fw)} {gs : List (Str × V)}, RelFs K cm F H lab s k fs gs → RelFs K cm' F H lab s k fs gs
  | _, [], [], _ => trivial
  | _, (n, w) :: r, (m, v) :: z, h => ⟨h.1, h.2.1.cmm q, RelFs.cmm q h.2.2⟩
  | _, [], _ :: _, h => h.elim
  | _, _ :: _, [], h => h.elim
theorem RelW.cmm (q : ∀ n A, cm n = some A → cm' n = some A) {s : Nat} {w : W} {v : V} (h : RelW K cm F H lab s w v) : RelW K cm' F H lab s w v := by
  cases w with
  | sh d => exact Rep.cmm q h
  | ol ds => exact RelR.cmm q (w := .ol ds) h
  | od t l => exact RelR.cmm q (w := .od t l) h
  | oi c fs =>
    obtain ⟨p, C, dx, gs, e, l, hp, fp, hc, r⟩ := h
    exact ⟨p, C, dx, gs, e, l, hp, fp, q _ _ hc, r.cmm q⟩
  | xc c fs =>
    obtain ⟨s0, a, dd, C, gs, h1, h2, h3, h4, h5, h6, h7⟩ := h
    exact ⟨s0, a, dd, C, gs, q _ _ h1, q _ _ h2, q _ _ h3, h4, q _ _ h5, h6, h7.cmm q⟩
/-! back -/
variable {a dd C : Addr}
mutual
theorem Rep.cmb : ∀ {d : D} {v : V}, noX d = true → Rep K (cmx cm a dd C) F d v → Rep K cm F d v
  | _, _, _, .non => .non
  | _, _, _, .bl b => .bl b
  | _, _, _, .int i => .int i
  | _, _, _, .str x => .str x
  | _, _, n, .tup h r => .tup h (Reps.cmb (by simpa [noX] using n) r)
  | _, _, n, .lst h r => .lst h (Reps.cmb (by simpa [noX] using n) r)
  | _, _, n, .dicK h r => .dicK h (RepK.cmb (by simpa [noX] using n) r)
  | _, _, n, .dicT h r => .dicT h (RepT.cmb (by simpa [noX] using n) r)
  | .ins c fs, _, n, .ins h q r => by
    have n' : (!(c == "!a" || c == "!d" || c == "!c")) = true ∧ noXf fs = true := by rw [← Bool.and_eq_true]; exact n
    rw [cmx_ne (by simpa using n'.1)] at q
    exact .ins h q (RepF.cmb n'.2 r)
theorem Reps.cmb : ∀ {d : List D} {v : List V}, noXs d = true → Reps K (cmx cm a dd C) F d v → Reps K cm F d v
  | _, _, _, .nil => .nil
  | _, _, n, .cons h r => by
    rw [noXs, Bool.and_eq_true] at n
    exact .cons (Rep.cmb n.1 h) (Reps.cmb n.2 r)
theorem RepK.cmb : ∀ {d : List (D × D)} {v : List (L2.Key × V)}, noXp d = true → RepK K (cmx cm a dd C) F d v → RepK K cm F d v
  | _, _, _, .nil => .nil
  | _, _, n, .cons k h r => by
    rw [noXp, Bool.and_eq_true, Bool.and_eq_true] at n
    exact .cons k (Rep.cmb n.1.2 h) (RepK.cmb n.2 r)
theorem RepT.cmb : ∀ {d : List (D × D)} {v : List (List L2.Key × V)}, noXp d = true → RepT K (cmx cm a dd C) F d v → RepT K cm F d v
  | _, _, _, .nil => .nil
  | _, _, n, .cons k h r => by
    rw [noXp, Bool.and_eq_true, Bool.and_eq_true] at n
    exact .cons k (Rep.cmb n.1.2 h) (RepT.cmb n.2 r)
theorem RepF.cmb : ∀ {d : List (String × D)} {v : List (Str × V)}, noXf d = true → RepF K (cmx cm a dd C) F d v → RepF K cm F d v
  | _, _, _, .nil => .nil
  | _, _, n, .cons h r => by
    rw [noXf, Bool.and_eq_true] at n
    exact .cons (Rep.cmb n.1 h) (RepF.cmb n.2 r)
end
theorem gt_clE {w : W} : ∀ {ρ : Env} {i : Nat}, gt (clE ρ) i = some w → ∃ w0, gt ρ i = some w0 ∧ clW (some w0) = some w
  | [], _, h => by cases h
  | o :: l, 0, h => by
    have h : clW o = some w := h
    cases o with
    | none => cases h
    | some w0 => exact ⟨w0, rfl, h⟩
  | o :: l, i + 1, h => gt_clE (ρ := l) (i := i) h
theorem RE.clean (re : RE K (cmx cm a dd C) F H lab ρ σ) {i : Nat} {x : Option V} (hx : x = none ∨ σ[i]? = some x) : RE K cm F H lab (st (clE ρ) i none) (σ.set i x) := by
  refine ⟨re.sub, by rw [st_length, clE, List.length_map, List.length_set]; exact re.len, fun j w e => ?_⟩
  have hji : j ≠ i := fun z => by
    subst z
    by_cases hl : j < (clE ρ).length
    · rw [gt_st_same hl] at e; cases e
    · have := gt_lt e
      rw [st_length] at this
      exact hl this
  rw [gt_st_ne hji] at e
  obtain ⟨w0, e1, e2⟩ := gt_clE e
  obtain ⟨v, e3, r⟩ := re.at_ j w0 e1
  refine ⟨v, by rw [List.getElem?_set_ne (Ne.symm hji)]; exact e3, ?_⟩
  cases w0 with
  | sh d =>
    have e2 : (if noX d then some (W.sh d) else none) = some w := e2
    split at e2
    · cases e2; exact Rep.cmb ‹_› r
    · cases e2
  | ol l =>
    have e2 : (if noXs l then some (W.ol l) else none) = some w := e2
    split at e2
    · cases e2
      obtain ⟨p, vs, e, lb, hp, fp, r⟩ := r
      exact ⟨p, vs, e, lb, hp, fp, Reps.cmb ‹_› r⟩
    · cases e2
  | _ => cases e2
end
section
variable {X : Cx} {cm : String → Option Addr} {T : TP} {C : CkC} {P : List Nat} {k : Cl} {pos pos' np : Pos}
theorem Calls.suite (cl : Calls X cm k C.df C.kn C.g) (hc : X.calm = true) {a0 dd0 C0 : Addr} {oe : Obj} {pn : List (Addr × Obj)} (hz : Zc (.ref C0) (some dd0) oe) (hf : ∃ vs, oe.data = .fields vs) (hng : ∀ n ∈ ["!a", "!d", "!c"], (∀ f, k.g.atB n f = false) ∧ (∀ f, k.g.exB n f = false) ∧ (∀ c, k.g.isx.lookup (n, c) = none) ∧ ∀ c, k.g.esb.lookup (n, c) = none) :
    Calls (X.suite a0 ((a0, oe) :: pn)) (cmx cm a0 dd0 C0) k [] C.kn C.g := by
  have nm : ∀ {n : String} {A : Addr}, cmx cm a0 dd0 C0 n = some A → (n ∈ ["!a", "!d", "!c"]) ∨ cm n = some A := fun {n A} h => by
    unfold cmx at h
    split at h
    · rename_i e; subst e; exact .inl (by simp)
    · split at h
      · rename_i e; subst e; exact .inl (by simp)
      · split at h
        · rename_i e; subst e; exact .inl (by simp)
        · exact .inr h
  have sa : cmx cm a0 dd0 C0 "!a" = some a0 := by unfold cmx; rw [if_pos rfl]
  have sd : cmx cm a0 dd0 C0 "!d" = some dd0 := by unfold cmx; rw [if_neg (by decide), if_pos rfl]
  have sc : cmx cm a0 dd0 C0 "!c" = some C0 := by unfold cmx; rw [if_neg (by decide), if_neg (by decide), if_pos rfl]
  have nc : (X.suite a0 ((a0, oe) :: pn)).calm ≠ true := fun z => by cases z
  refine { geq := cl.geq, run := fun f hf => absurd hf (by simp), atr := fun c f A h1 h2 => ?_, mtr := fun z => absurd z nc, mtl := fun z => absurd z nc, mkr := fun z => absurd z nc, xcq := fun a dd D h1 h2 h3 => ?_, cmn := fun z => absurd z nc, xat := fun c f A h1 h2 => ?_, clq := fun c hcl => ?_, exq := fun z => absurd z nc, shq := fun z => absurd z nc }
  · rcases nm h2 with q | q
    · rw [(hng c q).1 f] at h1; cases h1
    · exact cl.atr c f A h1 q
  · rw [sa] at h1; rw [sd] at h2; rw [sc] at h3
    cases h1; cases h2; cases h3
    exact ⟨X, oe, pn, rfl, hz, hf⟩
  · rcases nm h2 with q | q
    · rw [(hng c q).2.1 f] at h1; cases h1
    · exact cl.xat c f A h1 q
  · obtain ⟨u, q⟩ := cl.clq c hcl
    refine ⟨u, q.nm, fun c' b A' h1 h2 => ?_, q.isd, fun c' b A' h1 h2 => ?_⟩
    · rcases nm h2 with z | z
      · rw [(hng c' z).2.2.1 c] at h1; cases h1
      · exact q.isx c' b A' h1 z
    · rcases nm h2 with z | z
      · rw [(hng c' z).2.2.2 c] at h1; cases h1
      · exact q.esb c' b A' h1 z
theorem ps_tryZ (hm : T.Mono) (hx : TPx X cm T) (xo : XOk X C) (cl : Calls X cm k C.df C.kn C.g) (hst : X.stack = X.env :: X.outer ∧ X.env.frame = some X.env.locals) (hca : C.ca = true) (hP : P = []) {b h : List S} {c : String} {i : Nat} {x n : Str} {body suite : List Stmt} {b0 : Stmt}
    (hN : C.N[i]? = some n) (hl : C.sc.names.lookup n = some .local) (hc : clsB C c x = true)
    (hb : ∀ (T' : TP) (pn : List (Addr × Obj)) (xe : Value → Shared → Prop), T'.Mono → TPx (X.tr pn xe) cm T' → PassesOwn (model X.prog X.w) X.A X.env xe → PSs (X.tr pn xe) body (tzS X.K cm P T' (execs k b)))
    (hsu : ∀ (a dd D : Addr) (oe : Obj) (pn : List (Addr × Obj)), Zc (.ref D) (some dd) oe → (∃ vs, oe.data = .fields vs) → PSs (X.suite a ((a, oe) :: pn)) (b0 :: suite) (tzS X.K (cmx cm a dd D) P TPF (execs k h))) :
    PS X (.Try body [.ExceptHandler (some (.Name x np)) (some n) (b0 :: suite) pos'] [] [] pos) (tzS X.K cm P T (exec k (.trye b c i h))) := by
  have hcalm := xo.calm hca
  have hcmn := cl.cmn hcalm
  simp only [clsB, Bool.and_eq_true, decide_eq_true_eq] at hc
  obtain ⟨hc1, hc2, hc3⟩ := hc
  have hcm : c ∈ k.g.cls := by rw [cl.geq]; simpa using hc1
  obtain ⟨u, cq⟩ := cl.clq c hcm
  have hNames : Names X x u := by
    subst hc2
    rcases cq.nm with ⟨A, rfl, hA⟩ | ⟨rfl, rfl, hn⟩
    · split at hc3
      · rename_i e
        subst e
        obtain ⟨b1, b2, b3, b4, b5⟩ := xo.blt hc3
        rw [hA] at b2; cases b2
      · simp only [Bool.and_eq_true] at hc3
        exact ⟨xo.gl hc3.1, (plainX_of hc3.2).1, .inl hA⟩
    · rw [if_pos rfl] at hc3
      obtain ⟨b1, b2, b3, b4, b5⟩ := xo.blt hc3
      exact ⟨b1, b4, .inr ⟨b2, by kernel_rfl, b5⟩⟩
  let tb : WX → TS := fun W D σ H => ∃ T' : TP, T'.Mono ∧ (∀ σ1 F1 H1 lab1 c' fs ρ1, T' σ1 F1 H1 lab1 c' fs ρ1 → RE X.K cm F1 H1 lab1 ρ1 σ1 → ∀ cls d σ' H', ExW X.K cm σ1 F1 H1 lab1 c' fs ρ1 cls d σ' H' → W cls d σ' H') ∧ tzS X.K cm P T' (execs k b) D σ H
  let ts : Addr → Value → Option Addr → TS := fun a cls d D σ H => ∃ dd CC, d = some dd ∧ cls = .ref CC ∧ tzS X.K (cmx cm a dd CC) P TPF (execs k h) D σ H
  refine psI (ps_try_as (i := i) (c := u) (tb := tb) (ts := ts) hst.1 hst.2 (xo.n ▸ xo.nd) (by rw [xo.n]; exact hN) ((xo.sc n _ hl).1 (by decide)) hNames takes_some (fun W pn xe tk hp => ⟨fun pins s σ H D I hq => ?_⟩) (fun a oe cls d pn hz hf => ⟨fun pins s σ H D I hq => ?_⟩)) fun D σ H hq => ?_
  · obtain ⟨T', m, hw, q⟩ := hq
    exact (hb T' pn xe m (fun σ1 F1 H1 lab1 c' fs ρ1 ht re => tk.imp (hw σ1 F1 H1 lab1 c' fs ρ1 ht re)) hp).run pins s σ H D I q
  · obtain ⟨dd, CC, rfl, rfl, q⟩ := hq
    exact (hsu a dd CC oe pn hz hf).run pins s σ H D I q
  obtain ⟨ρ, F, lab, re, tk⟩ := hq
  let T' : TP := fun σ1 F1 H1 lab1 c' fs ρ1 => ∃ B, k.g.esb.lookup (c', c) = some B ∧ (B = true → outX i (execs k h (st ρ1 i (some (.xc c' fs)))) ≠ .bad ∧ ∀ y, outX i (execs k h (st ρ1 i (some (.xc c' fs)))) = .ok y → ∀ F' H' lab', Stp F1 H1 lab1 F' H' lab' → PostS X.K cm P D σ y F' H' lab') ∧ (B = false → T σ1 F1 H1 lab1 c' fs ρ1)
  have outX_noex : ∀ r c' fs ρ1, outX i r ≠ .ex c' fs ρ1 := fun r c' fs ρ1 e => by
    unfold outX at e
    split at e <;> first | cases e | (split at e <;> cases e)
  have mono : T'.Mono := fun σ1 F1 H1 lab1 c' fs ρ1 F2 H2 lab2 ⟨B, e1, e2, e3⟩ s => ⟨B, e1, fun z => ⟨(e2 z).1, fun y ey F' H' lab' s' => (e2 z).2 y ey F' H' lab' (s.trans s')⟩, fun z => hm _ _ _ _ _ _ _ _ _ _ (e3 z) s⟩
  have hexec : exec k (.trye b c i h) ρ = match execs k b ρ with
    | .ex c' fs ρ' => match k.g.esb.lookup (c', c) with
      | some true => outX i (execs k h (st ρ' i (some (.xc c' fs))))
      | some false => .ex c' fs ρ'
      | none => .bad
    | r => r := rfl
  rw [hexec] at tk
  refine ⟨T', mono, fun σ1 F1 H1 lab1 c' fs ρ1 ht re1 cls d σ' H' hw => ?_, ρ, F, lab, re, ?_⟩
  · obtain ⟨CC, dd, gs, F', lab', rfl, hC, rfl, hd, hr, s1, re', rfl⟩ := hw
    obtain ⟨B, e1, e2, e3⟩ := ht
    obtain ⟨q1, q2, q3⟩ := cq.esb c' B CC e1 hC
    refine ⟨B, q2, fun eB a ha => ?_, fun eB => ⟨_, hx σ' F1 H1 lab1 c' fs ρ1 (e3 eB) re1, CC, dd, gs, F', lab', rfl, hC, rfl, hd, hr, s1, re', rfl⟩⟩
    obtain ⟨nb, ho⟩ := e2 eB
    refine ⟨dd, CC, rfl, rfl, st ρ1 i (some (.xc c' fs)), F', lab', ⟨re'.sub, by rw [st_length, List.length_set]; exact re'.len, fun j w e => ?_⟩, ?_, fun c2 fs2 ρ2 e => ?_, fun y ey F2 H2 lab2 s2 σ2 sm re2 => ?_⟩
    · by_cases hji : j = i
      · subst hji
        have hi : j < ρ1.length := by have := gt_lt e; rwa [st_length] at this
        rw [gt_st_same hi] at e
        cases e
        refine ⟨.ref a, by rw [List.getElem?_set_self (by rw [← re'.len]; exact hi)], by omega, a, dd, CC, gs, ?_, ?_, ?_, rfl, cmx_of hcmn hC, hd, hr.cmm fun n A => cmx_of hcmn⟩
        · unfold cmx; rw [if_pos rfl]
        · unfold cmx; rw [if_neg (by decide), if_pos rfl]
        · unfold cmx; rw [if_neg (by decide), if_neg (by decide), if_pos rfl]
      · rw [gt_st_ne hji] at e
        obtain ⟨v, e4, r⟩ := re'.at_ j w e
        exact ⟨v, by rw [List.getElem?_set_ne (Ne.symm hji)]; exact e4, r.cmm fun n A => cmx_of hcmn⟩
    · intro e; rw [e] at nb; exact nb rfl
    · rw [e] at nb; exact absurd rfl nb
    · obtain ⟨fl, ρ2⟩ := y
      rw [ey] at nb ho
      cases fl with
      | nx =>
        have := ho _ rfl F2 H2 lab2 (s1.trans s2) (σ2.set i none) (by rw [hP]; intro z hz; simp at hz) (re2.clean (.inl rfl))
        exact this
      | rt w =>
        cases w with
        | sh d =>
          by_cases hn : noX d = true
          · have e5 : outX i (.ok (.rt (.sh d), ρ2)) = .ok (.rt (.sh d), st (clE ρ2) i none) := if_pos hn
            have h2 : RE X.K cm F2 H2 lab2 (st (clE ρ2) i none) σ2 := by
              cases e6 : σ2[i]? with
              | some x =>
                have h2 := re2.clean (i := i) (x := x) (.inr e6)
                have h3 : σ2.set i x = σ2 := by
                  apply List.ext_getElem?
                  intro j
                  by_cases hj : j = i
                  · subst hj
                    rw [List.getElem?_set_self (List.getElem?_eq_some_iff.mp e6).1, e6]
                  · rw [List.getElem?_set_ne (Ne.symm hj)]
                rwa [h3] at h2
              | none =>
                have h2 := re2.clean (i := i) (x := none) (.inl rfl)
                rwa [List.set_eq_of_length_le (by simpa using e6)] at h2
            have := ho _ e5 F2 H2 lab2 (s1.trans s2) σ2 (by rw [hP]; intro z hz; simp at hz) h2
            exact fun v rv => this v (Rep.cmb hn rv)
          · have : outX i (.ok (.rt (.sh d), ρ2)) = .bad := if_neg hn
            exact absurd this nb
        | _ => exact absurd rfl nb
      | _ => exact absurd rfl nb
  · refine ⟨fun e => ?_, fun c' fs ρ1 e σ1 F1 H1 lab1 s => ?_, fun y e F1 H1 lab1 s => ?_⟩
    · rw [e] at tk; exact tk.1 rfl
    · rw [e] at tk
      dsimp only at tk
      cases el : k.g.esb.lookup (c', c) with
      | none => rw [el] at tk; exact absurd rfl tk.1
      | some B =>
        rw [el] at tk
        refine ⟨B, el, fun eB => ?_, fun eB => ?_⟩
        · subst eB
          exact ⟨tk.1, fun y ey F' H' lab' s' => tk.2.2 y ey F' H' lab' (s.trans s')⟩
        · subst eB
          exact tk.2.1 c' fs ρ1 rfl σ1 F1 H1 lab1 s
    · rw [e] at tk
      exact tk.2.2 y rfl F1 H1 lab1 s
end
end Z

set_option Elab.async false
set_option linter.all false
set_option maxRecDepth 100000
set_option maxHeartbeats 8000000
/-! Z15: every statement. -/
namespace Z
open PySem
open PySem.Spec
open PyProof.Rows
open L2
section
variable {X : Cx} {K : PySem.W.Frag} {cm : String → Option Addr} {T : TP} {C : CkC} {P : List Nat} {a b c : Dn} {e1 e2 e3 : Expr} {pos : Pos} {k : Cl}
def rAug (o : Bop) : TIp := fun x y H Q => ∃ (dx dy w : D), x = toV dx ∧ y = toV dy ∧ augO o dx dy = .ok w ∧ Q (toV w) H
theorem ip_aug (o : Bop) : PIp X (bopOf o) (rAug o) := by
  intro pins s σ H x y v u Q I r1 r2 h
  obtain ⟨dx, dy, w, rfl, rfl, e, q⟩ := h
  unfold augO at e
  split at e
  · cases e; exact iop_add pins s σ H _ _ v u Q I r1 r2 ⟨_, _, rfl, rfl, q⟩
  · cases e; exact iop_sub pins s σ H _ _ v u Q I r1 r2 ⟨_, _, rfl, rfl, q⟩
  · split at e
    · rename_i hm
      cases e; exact iop_mul pins s σ H _ _ v u Q I r1 r2 ⟨_, _, rfl, rfl, mulOk_c hm, q⟩
    · cases e
  · split at e
    · rename_i hm
      cases e; exact iop_fdiv pins s σ H _ _ v u Q I r1 r2 ⟨_, _, rfl, rfl, hm, q⟩
    · cases e
  · split at e
    · rename_i hm
      cases e; exact iop_mod pins s σ H _ _ v u Q I r1 r2 ⟨_, _, rfl, rfl, hm, q⟩
    · cases e
  · split at e
    · rename_i hm
      cases e; exact iop_add_str pins s σ H _ _ v u Q I r1 r2 ⟨_, _, rfl, rfl, by rw [← line_eq]; exact hm, q⟩
    · cases e
  · cases e
theorem augO_flat {o : Bop} {d e w : D} (h : augO o d e = .ok w) : flatD d = true ∧ flatD e = true ∧ flatD w = true ∧ ∀ (K : PySem.W.Frag) (cm : String → Option Addr) (F : Hp), Rep K cm F w (toV w) := by
  unfold augO at h
  split at h <;> first
    | (cases h; exact ⟨rfl, rfl, rfl, fun _ _ _ => .int _⟩)
    | (split at h <;> first | (cases h; first | exact ⟨rfl, rfl, rfl, fun _ _ _ => .int _⟩ | exact ⟨rfl, rfl, rfl, fun _ _ _ => .str _⟩) | cases h)
    | cases h
theorem augO_noex {o : Bop} {p q : D} : ∀ c fs ρ, augO o p q ≠ .ex c fs ρ := by
  unfold augO
  split <;> first | exact ok_noex | exact bad_noex | (split <;> first | exact ok_noex | exact bad_noex)
theorem ps_augZ (hm : T.Mono) (xo : XOk X C) {i : Nat} {y : Str} {p1 : Pos} {v : Expr} {o : Bop} {op : Operator} (ho : bopB o op = true) (hn : locN C P i y = true) (he : Sd X cm T b v) :
    PS X (.AugAssign (.Name y p1) op v pos) (tzS X.K cm P T fun ρ => match gt ρ i with
      | some (.sh d) => (b.v ρ).bind fun x => (augO o d x.1.frz).bind fun w => .ok (.nx, st x.2 i (some (.sh w)))
      | _ => .bad) := by
  rw [bopB_of ho]
  simp only [locN, Bool.and_eq_true, decide_eq_true_eq, Bool.not_eq_true'] at hn
  obtain ⟨l1, l2⟩ := xo.loc hn.2.1
  refine psI (ps_aug (xo.n ▸ xo.nd) (by rw [xo.n]; exact hn.1) l1 (he.f hm) (ip_aug o) l2) fun D σ H hq => ?_
  obtain ⟨ρ, F, lab, re, tk⟩ := hq
  have tk : TkS T F H lab (match gt ρ i with
      | some (.sh d) => (b.v ρ).bind fun x => (augO o d x.1.frz).bind fun w => .ok (Fl.nx, st x.2 i (some (.sh w)))
      | _ => .bad) _ := tk
  split at tk
  case h_2 => exact absurd rfl tk.1
  rename_i d eg
  obtain ⟨v0, hv0, r0⟩ := re.at_ i _ eg
  rw [bind_frz (m := b.v) (ρ := ρ) (g := fun e ρ' => ((augO o d e).bind fun w => .ok (Fl.nx, st ρ' i (some (.sh w))) : R (Fl × Env)))] at tk
  refine ⟨v0, hv0, ρ, F, lab, re, (tk.bnd.tk σ).imp fun x F1 H1 lab1 tk1 re1 vx rx => ?_⟩
  obtain ⟨w, ew, tk2⟩ := tk1.pure augO_noex
  obtain ⟨f1, f2, f3, f4⟩ := augO_flat ew
  have r0 : Rep X.K cm F d v0 := r0
  refine ⟨d, x.1, w, (r0.flat f1).1, (rx.flat f2).1, ew, ?_⟩
  exact tk2.at_ (Stp.relab i) _ (Same.set hn.2.2) (re1.store (w := .sh w) (f4 _ _ _))

theorem TkS.stp {α : Type} {F H : Hp} {lab : Lab} {r : R α} {Q : α → Hp → Hp → Lab → Prop} (h : TkS T F H lab r Q) : TkS T F H lab r fun a F' H' lab' => Stp F H lab F' H' lab' ∧ Q a F' H' lab' :=
  ⟨h.1, h.2.1, fun a e F' H' lab' s => ⟨s, h.2.2 a e F' H' lab' s⟩⟩
/-! ### suites and loops -/
theorem pss_Z {s : Stmt} {r : List Stmt} {m : Env → R (Fl × Env)} {n : Env → R (Fl × Env)} (h1 : PS X s (tzS X.K cm P T m)) (h2 : PSs X r (tzS X.K cm P T n)) :
    PSs X (s :: r) (tzS X.K cm P T fun ρ => (m ρ).bind fun x => match x.1 with
      | .nx => n x.2
      | fl => .ok (fl, x.2)) := by
  refine pssI (pss_cons h1 h2) fun D σ H hq => ?_
  obtain ⟨ρ, F, lab, re, tk⟩ := hq
  refine ⟨ρ, F, lab, re, (tk.bnd).imp fun x F1 H1 lab1 tk1 σ1 s1 re1 => ?_⟩
  obtain ⟨fl, x2⟩ := x
  cases fl with
  | nx => exact ⟨x2, F1, lab1, re1, tk1.imp fun y F2 H2 lab2 h => h.shift s1⟩
  | brk => exact tk1.now σ1 s1 re1
  | cnt => exact tk1.now σ1 s1 re1
  | rt w => exact tk1.now σ1 s1 re1
theorem ps_ifZ (hm : T.Mono) {e : Expr} {x y : List Stmt} {m n : Env → R (Fl × Env)} (hc : PT X e (tzt X.K cm T c.t)) (h1 : PSs X x (tzS X.K cm P T m)) (h2 : PSs X y (tzS X.K cm P T n)) :
    PS X (.If e x y pos) (tzS X.K cm P T fun ρ => (c.t ρ).bind fun x => match x.1 with
      | true => m x.2
      | false => n x.2) := by
  refine psI (ps_if hc h1 h2) fun D σ H hq => ?_
  obtain ⟨ρ, F, lab, re, tk⟩ := hq
  refine ⟨ρ, F, lab, re, (tk.bnd.tk σ).imp fun x F1 H1 lab1 tk1 re1 => ?_⟩
  obtain ⟨b, x2⟩ := x
  cases b <;> exact ⟨x2, F1, lab1, re1, tk1⟩
theorem ps_forZ (hm : T.Mono) (xo : XOk X C) (hp : PassesOwn (model X.prog X.w) X.A X.env X.xe) (hca : C.ca = true) {t : Z.T} {tg iter : Expr} {body : List Stmt} {it : Env → R (List D × Env)} {m : Env → R (Fl × Env)} (hi : PI X tg iter (tzi X.K cm T it)) (ht : ckT C t tg = true) (hP : offP P (slots t) = true)
    (hs : setFree iter = true) (hb : PSs X body (tzS X.K cm P T m)) : PS X (.For tg iter body [] pos) (tzS X.K cm P T fun ρ => (it ρ).bind fun x => forL t m x.1 x.2) := by
  refine psI (ps_for hp (xo.calm hca) hi (pg_Z (cm := cm) xo t tg ht) hb (setFree_of hs)) fun D σ H hq => ?_
  obtain ⟨ρ, F, lab, re, tk⟩ := hq
  refine ⟨ρ, F, lab, re, (tk.bnd.tk σ).imp fun x F1 H1 lab1 tk1 re1 J hJ hlen => ?_⟩
  obtain ⟨ds, ρ1⟩ := x
  refine ⟨fun i m' σ' H' => ∃ ρ F lab, m' = ds.length - i ∧ i ≤ ds.length ∧ Same P σ σ' ∧ RE X.K cm F H' lab ρ σ' ∧ Sub F1 F ∧ TkS T F H' lab (forL t m (ds.drop i) ρ) (PostS X.K cm P D σ),
    ⟨ds.length, ρ1, F1, lab1, by simp, Nat.zero_le _, Same.refl _ _, re1, Sub.refl _, by simpa using tk1⟩, ?_⟩
  rintro i m' σ2 H2 ⟨ρ2, F2, lab2, rfl, hi, sm, re2, sub2, tk2⟩
  by_cases hlt : i < ds.length
  · right
    rw [List.drop_eq_getElem_cons hlt] at tk2
    unfold forL at tk2
    obtain ⟨ρ3, e3, tk3⟩ := tk2.pure (setT_noex _ _ _)
    have hx : ds[i]? = some ds[i] := List.getElem?_eq_getElem hlt
    refine ⟨hJ.go i F2 H2 sub2 re2.sub hlt, fun σ' H' => ∃ ρ F lab, Same P σ σ' ∧ RE X.K cm F H' lab ρ σ' ∧ Sub F1 F ∧ TkS T F H' lab (forL t m (ds.drop (i + 1)) ρ) (PostS X.K cm P D σ), fun σ' H' ⟨ρ, F, lab, h1, h2, h3, h4⟩ => ⟨ds.length - (i + 1), by omega, ρ, F, lab, rfl, hlt, h1, h2, h3, h4⟩, fun v H3 y3 => ?_⟩
    obtain ⟨F3, n3⟩ := hJ.yld i _ F2 H2 v H3 sub2 re2.sub hx y3
    obtain ⟨lab3, s3, re3, rw3⟩ := n3.step re2
    refine ⟨ρ2, ρ3, F3, lab3, _, re3, rw3, e3, fun σ4 lab4 s4 re4 off => ⟨ρ3, F3, lab4, re4, ?_⟩⟩
    have sm4 : Same P σ σ4 := sm.trans (off.same hP)
    refine ((tk3.step (s3.trans s4)).bnd).stp.imp fun y F5 H5 lab5 ⟨stp5, tk5⟩ σ5 s5 re5 => ?_
    have sub5 : Sub F1 F5 := sub2.trans (s3.ff.trans stp5.ff)
    obtain ⟨fl, ρ5⟩ := y
    cases fl with
    | nx => exact ⟨ρ5, F5, lab5, sm4.trans s5, re5, sub5, tk5⟩
    | cnt => exact ⟨ρ5, F5, lab5, sm4.trans s5, re5, sub5, tk5⟩
    | brk => exact tk5.now σ5 (sm4.trans s5) re5
    | rt w => exact tk5.now σ5 (sm4.trans s5) re5
  · left
    have e : i = ds.length := by omega
    subst e
    refine ⟨hJ.stop F2 H2 sub2 re2.sub, ?_⟩
    rw [List.drop_length] at tk2
    exact tk2.now σ2 sm re2
theorem ps_whlZ (hm : T.Mono) (hp : PassesOwn (model X.prog X.w) X.A X.env X.xe) {e : Expr} {body : List Stmt} {m : Env → R (Fl × Env)} {n : Nat} (hc : PT X e (tzt X.K cm T c.t)) (hb : PSs X body (tzS X.K cm P T m)) :
    PS X (.While e body [] pos) (tzS X.K cm P T fun ρ => whlL c.t m n ρ) := by
  refine psI (ps_while hp hc hb) fun D σ H hq => ?_
  obtain ⟨ρ, F, lab, re, tk⟩ := hq
  refine ⟨fun m' σ' H' => ∃ ρ F lab, Same P σ σ' ∧ RE X.K cm F H' lab ρ σ' ∧ TkS T F H' lab (whlL c.t m m' ρ) (PostS X.K cm P D σ), ⟨n, ρ, F, lab, Same.refl _ _, re, tk⟩, ?_⟩
  rintro m' σ2 H2 ⟨ρ2, F2, lab2, sm, re2, tk2⟩
  cases m' with
  | zero => exact absurd rfl tk2.1
  | succ m' =>
    unfold whlL at tk2
    refine ⟨ρ2, F2, lab2, re2, (tk2.bnd.tk σ2).imp fun x F3 H3 lab3 tk3 re3 => ?_⟩
    obtain ⟨b, ρ3⟩ := x
    cases b with
    | false =>
      rw [if_neg Bool.false_ne_true]
      exact tk3.now σ2 sm re3
    | true =>
      rw [if_pos rfl]
      refine ⟨fun σ' H' => ∃ ρ F lab, Same P σ σ' ∧ RE X.K cm F H' lab ρ σ' ∧ TkS T F H' lab (whlL c.t m m' ρ) (PostS X.K cm P D σ), fun σ' H' h => ⟨m', Nat.lt_succ_self _, h⟩, ρ3, F3, lab3, re3, ?_⟩
      refine (tk3.bnd).imp fun y F5 H5 lab5 tk5 σ5 s5 re5 => ?_
      obtain ⟨fl, ρ5⟩ := y
      cases fl with
      | nx => exact ⟨ρ5, F5, lab5, sm.trans s5, re5, tk5⟩
      | cnt => exact ⟨ρ5, F5, lab5, sm.trans s5, re5, tk5⟩
      | brk => exact tk5.now σ5 (sm.trans s5) re5
      | rt w => exact tk5.now σ5 (sm.trans s5) re5
theorem ps_retZ (hm : T.Mono) {e : Expr} {m : DV} (h : PE X e (tz X.K cm T m)) : PS X (.Return (some e) pos) (tzS X.K cm P T fun ρ => (m ρ).bind fun x => .ok (.rt (.sh x.1.frz), x.2)) := by
  refine psI (ps_ret (tz_val hm h : PE X e (tzv X.K cm T (frzV m)))) fun D σ H hq => ?_
  obtain ⟨ρ, F, lab, re, tk⟩ := hq
  have tk : TkS T F H lab ((m ρ).bind fun x => .ok (Fl.rt (.sh x.1.frz), x.2)) _ := tk
  rw [bind_frz (m := m) (ρ := ρ) (g := fun d ρ' => R.ok (Fl.rt (.sh d), ρ'))] at tk
  exact ⟨ρ, F, lab, re, (tk.bnd.tk σ).imp fun x F1 H1 lab1 tk1 re1 v rv => tk1.now σ (Same.refl _ _) re1 v rv⟩
theorem mvV_tz {i : Nat} {e : Expr} (h : PE X e (tVar i)) : PE X e (tz X.K cm T (mvV i)) := peI h fun σ H Q ⟨ρ, F, lab, re, tk⟩ => by
  have tk : Tk T σ F H lab (mvW i (gt ρ i) ρ) _ := tk
  have own : ∀ w, gt ρ i = some w → (∀ c fs, w ≠ .xc c fs) → Tk T σ F H lab (.ok (w, st ρ i none)) (fun x F' H' lab' => RE X.K cm F' H' lab' x.2 σ → ∀ v, RelW X.K cm F' H' lab' 0 x.1 v → Q v H') → tVar i σ H Q := fun w ew nx tk => by
    obtain ⟨v, e1, r⟩ := re.at_ i w ew
    refine ⟨v, e1, ?_⟩
    let lb : Lab := fun a => match lab a with
      | some (s, j) => if s = i + 1 then some (0, j) else some (s, j)
      | none => none
    have l1 : ∀ a j, lab a = some (i + 1, j) → lb a = some (0, j) := fun a j l => by simp only [lb, l, if_true]
    have l2 : ∀ a s j, lab a = some (s, j) → s ≠ i + 1 → lb a = some (s, j) := fun a s j l hs => by simp only [lb, l, if_neg hs]
    have st1 : Stp F H lab F H lb := ⟨Sub.refl F, fun a o ha hf hl => ⟨ha, hf, by simp only [lb, hl]⟩⟩
    refine tk.at_ st1 ⟨re.sub, by rw [st_length]; exact re.len, fun j w' ew' => ?_⟩ v (r.relab (fun a j o l _ _ => l1 a j l) (.inr nx))
    by_cases hj : j = i
    · subst hj
      have := gt_lt ew'
      rw [st_length] at this
      rw [gt_st_same this] at ew'
      cases ew'
    · rw [gt_st_ne hj] at ew'
      obtain ⟨v', e2, r'⟩ := re.at_ j w' ew'
      exact ⟨v', e2, r'.keep (Sub.refl F) fun a o jj l ha hf => ⟨ha, hf, l2 a _ jj l (by omega)⟩⟩
  cases eg : gt ρ i with
  | none => rw [eg] at tk; exact absurd rfl tk.1
  | some w =>
    rw [eg] at tk
    cases w with
    | sh d =>
      obtain ⟨v, e1, r⟩ := re.at_ i _ eg
      exact ⟨v, e1, tk.now re v r⟩
    | ol l => exact own _ eg (fun _ _ z => by cases z) tk
    | od t l => exact own _ eg (fun _ _ z => by cases z) tk
    | oi c fs => exact own _ eg (fun _ _ z => by cases z) tk
    | xc c fs => exact absurd rfl tk.1
theorem ps_retoZ {e : Expr} {m : DV} (h : PE X e (tz X.K cm T m)) : PS X (.Return (some e) pos) (tzS X.K cm P T fun ρ => (m ρ).bind fun x => .ok (.rt x.1, x.2)) := by
  refine psI (ps_ret h) fun D σ H hq => ?_
  obtain ⟨ρ, F, lab, re, tk⟩ := hq
  exact ⟨ρ, F, lab, re, (tk.bnd.tk σ).imp fun x F1 H1 lab1 tk1 re1 v rv => tk1.now σ (Same.refl _ _) re1 v rv⟩
theorem ps_retNZ : PS X (.Return none pos) (tzS X.K cm P T fun ρ => .ok (.rt (.sh .non), ρ)) := psI ps_retN fun D σ H ⟨ρ, F, lab, re, tk⟩ => tk.now σ (Same.refl _ _) re _ .non
theorem ps_exZ {e : Expr} {m : DV} (h : PE X e (tz X.K cm T m)) (hn : noComp e = true) : PS X (.Expr e pos) (tzS X.K cm P T fun ρ => (m ρ).bind fun x => .ok (.nx, x.2)) := by
  refine psI (ps_expr h (by cases e <;> first | rfl | cases hn)) fun D σ H hq => ?_
  obtain ⟨ρ, F, lab, re, tk⟩ := hq
  exact ⟨ρ, F, lab, re, (tk.bnd.tk σ).imp fun x F1 H1 lab1 tk1 re1 v rv => tk1.now σ (Same.refl _ _) re1⟩
theorem ps_nxZ {s : Stmt} (h : PS X s tNext) : PS X s (tzS X.K cm P T fun ρ => .ok (.nx, ρ)) := psI h fun D σ H ⟨ρ, F, lab, re, tk⟩ => tk.now σ (Same.refl _ _) re
theorem pss_fgtZ {st : List Stmt} {m : Env → R (Fl × Env)} (l : List Nat) (h : PSs X st (tzS X.K cm P T m)) : PSs X st (tzS X.K cm P T fun ρ => m (wipeE ρ l)) :=
  pssI h fun D σ H ⟨ρ, F, lab, re, tk⟩ => ⟨wipeE ρ l, F, lab, ⟨re.sub, by rw [wipeE_length]; exact re.len, fun i w e => re.at_ i w (gt_wipeE e).2⟩, tk⟩
theorem st_self : ∀ {ρ : Env} {i : Nat} {w : W}, gt ρ i = some w → st ρ i (some w) = ρ
  | [], _, _, _ => rfl
  | o :: l, 0, w, h => by
    have h : o = some w := h
    rw [h]; rfl
  | o :: l, i + 1, w, h => congrArg (o :: ·) (st_self (ρ := l) (i := i) h)
theorem RE.frzOne {F H : Hp} {lab : Lab} {ρ : Env} {σ : L2.St} (re : RE K cm F H lab ρ σ) (i : Nat) : ∃ F', Stp F H lab F' H lab ∧ RE K cm F' H lab (frz1 ρ i) σ := by
  cases eg : gt ρ i with
  | none => exact ⟨F, Stp.refl _ _ _, by unfold frz1; rw [eg]; exact re⟩
  | some w =>
    have e0 : frz1 ρ i = st ρ i (some (frzW w)) := by unfold frz1; rw [eg]
    rw [e0]
    have gen : (∀ c fs, w ≠ .xc c fs) → frzW w = .sh w.frz → ∃ F', Stp F H lab F' H lab ∧ RE K cm F' H lab (st ρ i (some (frzW w))) σ := fun nx ew => by
      rw [ew]
      obtain ⟨v, e1, r⟩ := re.at_ i w eg
      have s := Stp.frz (F := F) (H := H) (lab := lab) (s := i + 1) re.sub
      have hr := r.frz re.sub (.inr nx)
      have re0 := (re.forget (i := i)).frz (s := i + 1) fun j w' e' hj => by
        have : j = i := by omega
        subst this
        rw [gt_st_same (gt_lt eg)] at e'
        cases e'
      have re1 := re0.put (i := i) (w := .sh w.frz) e1 hr
      rw [st_st] at re1
      exact ⟨_, s, re1⟩
    cases w with
    | xc c fs => exact ⟨F, Stp.refl _ _ _, by rw [show frzW (.xc c fs) = .xc c fs from rfl, st_self eg]; exact re⟩
    | sh d => exact gen (fun _ _ z => by cases z) rfl
    | ol l => exact gen (fun _ _ z => by cases z) rfl
    | od t l => exact gen (fun _ _ z => by cases z) rfl
    | oi c fs => exact gen (fun _ _ z => by cases z) rfl
theorem RE.frzAll {F H : Hp} {lab : Lab} {ρ : Env} {σ : L2.St} (re : RE K cm F H lab ρ σ) : ∀ l : List Nat, ∃ F', Stp F H lab F' H lab ∧ RE K cm F' H lab (frzE ρ l) σ
  | [] => ⟨F, Stp.refl _ _ _, re⟩
  | i :: r => by
    obtain ⟨F1, s1, re1⟩ := RE.frzAll re r
    obtain ⟨F2, s2, re2⟩ := RE.frzOne re1 i
    exact ⟨F2, s1.trans s2, re2⟩
theorem pss_frzZ {st : List Stmt} {m : Env → R (Fl × Env)} (l : List Nat) (h : PSs X st (tzS X.K cm P T m)) : PSs X st (tzS X.K cm P T fun ρ => m (frzE ρ l)) :=
  pssI h fun D σ H ⟨ρ, F, lab, re, tk⟩ => by
    obtain ⟨F', s, re'⟩ := RE.frzAll re l
    have tk : TkS T F H lab (m (frzE ρ l)) _ := tk
    exact ⟨frzE ρ l, F', lab, re', tk.step s⟩
theorem pss_nilZ : PSs X [] (tzS X.K cm P T fun ρ => .ok (.nx, ρ)) := pssI pss_nil fun D σ H ⟨ρ, F, lab, re, tk⟩ => tk.now σ (Same.refl _ _) re
theorem ps_brkZ : PS X (.Break pos) (tzS X.K cm P T fun ρ => .ok (.brk, ρ)) := psI ps_break fun D σ H ⟨ρ, F, lab, re, tk⟩ => tk.now σ (Same.refl _ _) re
theorem ps_cntZ : PS X (.Continue pos) (tzS X.K cm P T fun ρ => .ok (.cnt, ρ)) := psI ps_continue fun D σ H ⟨ρ, F, lab, re, tk⟩ => tk.now σ (Same.refl _ _) re
end
section
variable {cm : String → Option Addr} {k : Cl} {P : List Nat}
/-- name = value, the swapped list comprehension too -/
theorem ps_asgoZ {X : Cx} {C : CkC} {T : TP} (hm : T.Mono) (hx : TPx X cm T) (xo : XOk X C) (cl : Calls X cm k C.df C.kn C.g) {i : Nat} {e : E} {y : Str} {py pos : Pos} {v : Expr} (hn : locN C P i y = true) (hs : swOk C y py v = true) (h : ck C e v = true) :
    PS X (.Assign [.Name y py] v pos) (tzS X.K cm P T (exec k (.asgo i e))) := by
  simp only [locN, Bool.and_eq_true, decide_eq_true_eq, Bool.not_eq_true'] at hn
  obtain ⟨l1, l2⟩ := xo.loc hn.2.1
  have hN : X.N[i]? = some y := by rw [xo.n]; exact hn.1
  have plain : swapsWith v (some (.Name y py)) pos.line X.env = pure false → PS X (.Assign [.Name y py] v pos) (tzS X.K cm P T (exec k (.asgo i e))) := fun hw =>
    ps_asgo hm hn.2.2 (ps_set (xo.n ▸ xo.nd) hN l1 (snd e hm hx xo cl v h).v hw l2)
  cases v <;> try exact plain rfl
  · rename_i elt gs scope cpos
    simp only [swOk, Bool.and_eq_true, Bool.or_eq_true, decide_eq_true_eq, Bool.not_eq_true'] at hs
    rcases hs with hcell | hs
    · refine plain ?_
      have hk : X.env.kindOf y = some .cell := (xo.sc y _ hcell).1 (by decide)
      unfold swapsWith
      simp only [hk]
      rw [show (some NameKind.cell == some NameKind.local) = false from rfl]
      simp only [Bool.and_false, Bool.false_and]
    obtain ⟨hl, hs⟩ := hs
    by_cases hline : (py.line == cpos.line) = true
    · rcases hs with hs | hs
      · rw [hline] at hs; cases hs
      · unfold ck at h; split at h <;> first | contradiction | skip
        rename_i e t it cs own elt tg iter ifs scope pos heq; cases heq
        simp only [Bool.and_eq_true, List.all_eq_true, decide_eq_true_eq] at h
        obtain ⟨h1, h2, h3, h4, h5, h6, h7, h8, h9⟩ := h
        exact ps_asgo hm hn.2.2 (ps_compSet hm xo h1 hn.1 hl hline hs.2 (sndI it hm hx xo cl _ _ h2) h3 h4 (fun i hi => by simpa using h5 i hi) h7 h9
          (fun s H c' cl' fp => snds cs (C := { C with sc := scope }) TPF.mono TPF.tpx xo.blk (cl.blk (xo.calm h1)) _ h6) (fun s H c' cl' fp => snd e (C := { C with sc := scope }) TPF.mono TPF.tpx xo.blk (cl.blk (xo.calm h1)) _ h8))
    · refine plain ?_
      have hf : (py.line == cpos.line) = false := by simpa using hline
      unfold swapsWith
      simp only [Expr.pos, hf, Bool.and_false, Bool.false_and]
  · cases hs
  · cases hs
theorem ckSs_c {C : CkC} {P : List Nat} {s : S} {r : List S} {st : List Stmt} (hf : ∀ l, s ≠ .fgt l) (hf2 : ∀ l, s ≠ .frz l) (h : ckSs C P (s :: r) st = true) : ∃ t q, st = t :: q ∧ ckS C P s t = true ∧ ckSs C P r q = true := by
  cases st with
  | nil => cases s <;> first | (exact absurd rfl (hf _)) | (exact absurd rfl (hf2 _)) | (simp [ckSs] at h)
  | cons t q =>
    refine ⟨t, q, rfl, ?_⟩
    cases s <;> first | (exact absurd rfl (hf _)) | (exact absurd rfl (hf2 _)) | (simp only [ckSs, Bool.and_eq_true] at h; exact h)
theorem XOk.tr {X : Cx} {C : CkC} (o : XOk X C) {pn : List (Addr × Obj)} {xe : Value → Shared → Prop} : XOk (X.tr pn xe) C := ⟨o.n, o.nd, o.sc, o.cell, o.calm, o.un, o.gd, o.fr, o.gc⟩
theorem XOk.suite {X : Cx} {C : CkC} (o : XOk X C) {a : Addr} {pn : List (Addr × Obj)} : XOk (X.suite a pn) { C with ca := false, df := [] } := ⟨o.n, o.nd, o.sc, o.cell, fun z => (by cases z), o.un, o.gd, o.fr, o.gc⟩
theorem Calls.tr {X : Cx} {cm : String → Option Addr} {k : Cl} {df : List String} {kn : String → List String} {g : GX} (c : Calls X cm k df kn g) (hc : X.calm = true) {pn : List (Addr × Obj)} {xe : Value → Shared → Prop} : Calls (X.tr pn xe) cm k df kn g := ⟨c.geq, c.run, c.atr, c.mtr, c.mtl, c.mkr, (fun a dd C h1 h2 h3 => by rw [(c.cmn hc).1] at h1; cases h1), c.cmn, c.xat, (fun c' h => let ⟨u, q⟩ := c.clq c' h; ⟨u, ⟨q.nm, q.isx, q.isd, q.esb⟩⟩), c.exq, c.shq⟩
theorem bang_ne {α : Type} [BEq α] [LawfulBEq α] {β : Type} {l : List (α × β)} {f : α → String} (h : (l.all fun p => !bang (f p.1)) = true) {a : α} (hb : bang (f a) = true) : l.lookup a = none := by
  induction l with
  | nil => rfl
  | cons p r ih =>
    obtain ⟨x, y⟩ := p
    simp only [List.all_cons, Bool.and_eq_true, Bool.not_eq_true'] at h
    rw [List.lookup_cons]
    split
    · rename_i e
      rw [← eq_of_beq e, hb] at h
      cases h.1
    · exact ih h.2
theorem bangG_ok {g : GX} (h : bangG g = true) : ∀ n ∈ ["!a", "!d", "!c"], (∀ f, g.atB n f = false) ∧ (∀ f, g.exB n f = false) ∧ (∀ c, g.isx.lookup (n, c) = none) ∧ ∀ c, g.esb.lookup (n, c) = none := by
  intro n hn
  have hb : bang n = true := by
    simp only [List.mem_cons, List.not_mem_nil, or_false] at hn
    rcases hn with rfl | rfl | rfl <;> rfl
  simp only [bangG, Bool.and_eq_true] at h
  refine ⟨fun f => ?_, fun f => ?_, fun c => bang_ne (f := fun p => p.1) h.2.2.1 hb, fun c => bang_ne (f := fun p => p.1) h.2.2.2 hb⟩
  · unfold GX.atB
    cases e : g.at_.contains (n, f) with
    | false => rfl
    | true =>
      have := List.contains_iff_mem.mp e
      have h1 := List.all_eq_true.mp h.1 _ this
      rw [hb] at h1
      cases h1
  · unfold GX.exB
    rw [bang_ne (f := fun c => c) h.2.1 hb]
mutual
theorem sts : ∀ (s : S) {cm : String → Option Addr} {X : Cx} {C : CkC} {T : TP} (hm : T.Mono) (hx : TPx X cm T) (xo : XOk X C) (cl : Calls X cm k C.df C.kn C.g) (hp : PassesOwn (model X.prog X.w) X.A X.env X.xe) (hst : X.stack = X.env :: X.outer ∧ X.env.frame = some X.env.locals) (st : Stmt), ckS C P s st = true → PS X st (tzS X.K cm P T (exec k s))
  | .asg t e, cm, X, C, T, hm, hx, xo, cl, hp, hst, stm, h => by
    unfold ckS at h; split at h <;> first | contradiction | skip
    rename_i heq; cases heq
    simp only [Bool.and_eq_true] at h
    exact ps_asgT hm xo h.1 h.2.1 h.2.2.1 h.2.2.2.1 (snd e hm hx xo cl _ h.2.2.2.2).v
  | .asgo i e, cm, X, C, T, hm, hx, xo, cl, hp, hst, stm, h => by
    unfold ckS at h; split at h <;> first | contradiction | skip
    rename_i heq; cases heq
    simp only [Bool.and_eq_true] at h
    exact ps_asgoZ hm hx xo cl h.1 h.2.1 h.2.2
  | .par i j a b, cm, X, C, T, hm, hx, xo, cl, hp, hst, stm, h => by
    unfold ckS at h; split at h <;> first | contradiction | skip
    rename_i heq; cases heq
    simp only [Bool.and_eq_true, Bool.not_eq_true', decide_eq_false_iff_not] at h
    obtain ⟨h1, h2, h3, h4, h5, h6, h7, h8, h9, h10, h11⟩ := h
    exact ps_parZ hm xo h1 h2 h3 h4 h5 h6 h7 h8 h9 (snd a hm hx xo cl _ h10) (snd b hm hx xo cl _ h11)
  | .par3 i j l a b c, cm, X, C, T, hm, hx, xo, cl, hp, hst, stm, h => by
    unfold ckS at h; split at h <;> first | contradiction | skip
    rename_i heq; cases heq
    simp only [Bool.and_eq_true, Bool.not_eq_true', decide_eq_false_iff_not] at h
    obtain ⟨h1, h2, h3, h4, h5, h6, h7, h8, h9, h10, h11, h12, h13, h14, h15, h16, h17⟩ := h
    exact ps_par3Z hm xo h1 h2 h3 h4 h5 h6 h7 h8 h9 h10 h11 h12 h13 h14 (snd a hm hx xo cl _ h15) (snd b hm hx xo cl _ h16) (snd c hm hx xo cl _ h17)
  | .seti i x e, cm, X, C, T, hm, hx, xo, cl, hp, hst, stm, h => by
    unfold ckS at h; split at h <;> first | contradiction | skip
    rename_i heq; cases heq
    simp only [Bool.and_eq_true] at h
    exact ps_seti hm xo h.1 h.2.1 (snd x hm hx xo cl _ h.2.2.1) (snd e hm hx xo cl _ h.2.2.2)
  | .aug i o e, cm, X, C, T, hm, hx, xo, cl, hp, hst, stm, h => by
    unfold ckS at h; split at h <;> first | contradiction | skip
    rename_i heq; cases heq
    simp only [Bool.and_eq_true] at h
    exact ps_augZ hm xo h.2.1 h.1 (snd e hm hx xo cl _ h.2.2)
  | .app i e, cm, X, C, T, hm, hx, xo, cl, hp, hst, stm, h => by
    unfold ckS at h; split at h <;> first | contradiction | skip
    rename_i heq; cases heq
    simp only [Bool.and_eq_true, decide_eq_true_eq] at h
    obtain ⟨h1, h2, h3, h4, h5⟩ := h
    subst h1
    exact ps_app hm xo h2 h3 h4 (snd e hm hx xo cl _ h5)
  | .ex e, cm, X, C, T, hm, hx, xo, cl, hp, hst, stm, h => by
    unfold ckS at h; split at h <;> first | contradiction | skip
    rename_i heq; cases heq
    simp only [Bool.and_eq_true] at h
    exact ps_exZ (snd e hm hx xo cl _ h.2).v h.1
  | .ife t a b, cm, X, C, T, hm, hx, xo, cl, hp, hst, stm, h => by
    unfold ckS at h; split at h <;> first | contradiction | skip
    rename_i heq; cases heq
    simp only [Bool.and_eq_true] at h
    exact ps_ifZ hm (snd t hm hx xo cl _ h.1).t (stss a hm hx xo cl hp hst _ h.2.1) (stss b hm hx xo cl hp hst _ h.2.2)
  | .for t it b, cm, X, C, T, hm, hx, xo, cl, hp, hst, stm, h => by
    unfold ckS at h; split at h <;> first | contradiction | skip
    rename_i heq; cases heq
    simp only [Bool.and_eq_true] at h
    obtain ⟨h1, h2, h3, h4, h5, h6⟩ := h
    exact ps_forZ hm xo hp h1 (sndI it hm hx xo cl _ _ h2) h3 h4 h5 (stss b hm hx xo cl hp hst _ h6)
  | .whl t b, cm, X, C, T, hm, hx, xo, cl, hp, hst, stm, h => by
    unfold ckS at h; split at h <;> first | contradiction | skip
    rename_i heq; cases heq
    simp only [Bool.and_eq_true] at h
    exact ps_whlZ hm hp (snd t hm hx xo cl _ h.1).t (stss b hm hx xo cl hp hst _ h.2)
  | .ret e, cm, X, C, T, hm, hx, xo, cl, hp, hst, stm, h => by
    unfold ckS at h; split at h <;> first | contradiction | skip
    rename_i heq; cases heq
    exact ps_retZ hm (snd e hm hx xo cl _ h).v
  | .retn, cm, X, C, T, hm, hx, xo, cl, hp, hst, stm, h => by
    unfold ckS at h; split at h <;> first | contradiction | skip
    exact ps_retNZ
  | .cnt, cm, X, C, T, hm, hx, xo, cl, hp, hst, stm, h => by
    unfold ckS at h; split at h <;> first | contradiction | skip
    exact ps_cntZ
  | .brk, cm, X, C, T, hm, hx, xo, cl, hp, hst, stm, h => by
    unfold ckS at h; split at h <;> first | contradiction | skip
    exact ps_brkZ
  | .pass, cm, X, C, T, hm, hx, xo, cl, hp, hst, stm, h => by
    unfold ckS at h; split at h <;> first | contradiction | skip
    · exact ps_nxZ ps_pass
    · exact ps_nxZ ps_doc
  | .swp i x y a b, cm, X, C, T, hm, hx, xo, cl, hp, hst, stm, h => by
    unfold ckS at h; split at h <;> first | contradiction | skip
    rename_i heq; cases heq
    simp only [Bool.and_eq_true, decide_eq_true_eq] at h
    obtain ⟨h1, h2, h3, h4, h5, h6, h7, h8, h9, h10, h11⟩ := h
    subst h3
    exact ps_swpZ hm xo h1 h2 h4 h5 h6 h7 (snd x hm hx xo cl _ h8) (snd y hm hx xo cl _ h9) (snd a hm hx xo cl _ h10) (snd b hm hx xo cl _ h11)
  | .setf i f e, cm, X, C, T, hm, hx, xo, cl, hp, hst, stm, h => by
    unfold ckS at h; split at h <;> first | contradiction | skip
    rename_i heq; cases heq
    simp only [Bool.and_eq_true, decide_eq_true_eq] at h
    exact ps_setf hm xo cl h.1 h.2.1 (snd e hm hx xo cl _ h.2.2)
  | .setif i f x e, cm, X, C, T, hm, hx, xo, cl, hp, hst, stm, h => by
    unfold ckS at h; split at h <;> first | contradiction | skip
    rename_i heq; cases heq
    simp only [Bool.and_eq_true, decide_eq_true_eq] at h
    exact ps_setif hm xo cl h.1 h.2.1 h.2.2.1 (pu_ok xo cl x _ h.2.2.2.1) (snd e hm hx xo cl _ h.2.2.2.2)
  | .augf i o f e, cm, X, C, T, hm, hx, xo, cl, hp, hst, stm, h => by
    unfold ckS at h; split at h <;> first | contradiction | skip
    rename_i heq; cases heq
    simp only [Bool.and_eq_true, decide_eq_true_eq] at h
    exact ps_augf hm xo cl h.1 h.2.1 h.2.2.1 h.2.2.2.1 (snd e hm hx xo cl _ h.2.2.2.2)
  | .dead, cm, X, C, T, hm, hx, xo, cl, hp, hst, stm, h => ps_deadZ
  | .fgt l, cm, X, C, T, hm, hx, xo, cl, hp, hst, stm, h => by
    unfold ckS at h; cases h
  | .frz l, cm, X, C, T, hm, hx, xo, cl, hp, hst, stm, h => by
    unfold ckS at h; cases h
  | .ext i e, cm, X, C, T, hm, hx, xo, cl, hp, hst, stm, h => by
    unfold ckS at h; split at h <;> first | contradiction | skip
    rename_i heq; cases heq
    simp only [Bool.and_eq_true, decide_eq_true_eq] at h
    obtain ⟨h1, h2, h3, h4, h5⟩ := h
    subst h1
    exact ps_ext hm xo h2 h3 h4 (snd e hm hx xo cl _ h5)
  | .reto e, cm, X, C, T, hm, hx, xo, cl, hp, hst, stm, h => by
    unfold ckS at h; split at h <;> first | contradiction | skip
    rename_i heq; cases heq
    refine ps_retoZ (m := retV e (den k e).v) ?_
    cases e with
    | var i => exact mvV_tz (pe_ckvar xo h)
    | _ => exact (snd _ hm hx xo cl _ h).v
  | .rse c ns l, cm, X, C, T, hm, hx, xo, cl, hp, hst, stm, h => by
    unfold ckS at h; split at h <;> first | contradiction | skip
    rename_i heq; cases heq
    simp only [Bool.and_eq_true, decide_eq_true_eq] at h
    obtain ⟨h1, h2, h3, h4, h5, h6⟩ := h
    exact ps_rse hm hx xo cl h1 h2 h3 h4 h5 (snds l hm hx xo cl _ h6) (cks_star h6)
  | .trye b c i hd, cm, X, C, T, hm, hx, xo, cl, hp, hst, stm, h => by
    unfold ckS at h; split at h <;> first | contradiction | skip
    rename_i heq; cases heq
    simp only [Bool.and_eq_true, decide_eq_true_eq] at h
    obtain ⟨h1, h2, h3, h4, h5, h6, h7, h8⟩ := h
    exact ps_tryZ hm hx xo cl hst h1 h2 h3 h4 h5 (fun T' pn xe m tx po => stss b (C := C) m tx xo.tr (cl.tr (xo.calm h1)) po hst _ h7)
      (fun a dd D oe pn hz hf => stss hd (C := { C with ca := false, df := [] }) TPF.mono TPF.tpx xo.suite (cl.suite (xo.calm h1) hz hf (by rw [cl.geq]; exact bangG_ok h6)) .never ⟨hst.1, hst.2⟩ _ h8)
theorem stss : ∀ (l : List S) {cm : String → Option Addr} {X : Cx} {C : CkC} {T : TP} (hm : T.Mono) (hx : TPx X cm T) (xo : XOk X C) (cl : Calls X cm k C.df C.kn C.g) (hp : PassesOwn (model X.prog X.w) X.A X.env X.xe) (hst : X.stack = X.env :: X.outer ∧ X.env.frame = some X.env.locals) (st : List Stmt), ckSs C P l st = true → PSs X st (tzS X.K cm P T (execs k l))
  | [], cm, X, C, T, hm, hx, xo, cl, hp, hst, st, h => by
    unfold ckSs at h; split at h <;> first | contradiction | skip
    exact pss_nilZ
  | s :: r, cm, X, C, T, hm, hx, xo, cl, hp, hst, st, h => by
    by_cases hf : ∃ l, s = .fgt l
    · obtain ⟨l, e⟩ := hf
      rw [e] at h ⊢
      unfold ckSs at h
      exact pss_fgtZ l (stss r hm hx xo cl hp hst _ h)
    · by_cases hf2 : ∃ l, s = .frz l
      · obtain ⟨l, e⟩ := hf2
        rw [e] at h ⊢
        unfold ckSs at h
        exact pss_frzZ l (stss r hm hx xo cl hp hst _ h)
      · obtain ⟨t, q, e, h1, h2⟩ := ckSs_c (fun l e => hf ⟨l, e⟩) (fun l e => hf2 ⟨l, e⟩) h
        rw [e]
        exact pss_Z (sts s hm hx xo cl hp hst _ h1) (stss r hm hx xo cl hp hst _ h2)
end
end
end Z

set_option Elab.async false
set_option linter.all false
set_option maxRecDepth 100000
set_option maxHeartbeats 4000000
/-! Zl: the __init__ of an exception: self.f = f, once or twice. -/
namespace Z
open PySem
open PySem.Spec
open PyProof.Rows
open L2
section
variable {Pg : Program} {wd : World} {K : PySem.W.Frag} {mg : Str → Option Value} {base : Heap} {x qual self : Str} {pa : Arguments} {sc : Scope} {fI A : Addr} {fdt : FuncData} {f g : String} {p1 p2 p3 pos q1 q2 q3 qos : Pos}
def xB1 (self f : Str) (p1 p2 p3 pos : Pos) : List Stmt := [.Assign [.Attribute (.Name self p1) f p2] (.Name f p3) pos]
def xB2 (self f g : Str) (p1 p2 p3 pos q1 q2 q3 qos : Pos) : List Stmt := [.Assign [.Attribute (.Name self p1) f p2] (.Name f p3) pos, .Assign [.Attribute (.Name self q1) g q2] (.Name g q3) qos]
def isX1 (self f : Str) : List Stmt → Bool
  | [.Assign [.Attribute (.Name a _) b _] (.Name c _) _] => decide (a = self) && (decide (b = f) && decide (c = f))
  | _ => false
theorem isX1_ok {self f : Str} {l : List Stmt} (h : isX1 self f l = true) : ∃ p1 p2 p3 pos, l = xB1 self f p1 p2 p3 pos := by
  unfold isX1 at h
  split at h
  · simp only [Bool.and_eq_true, decide_eq_true_eq] at h
    obtain ⟨rfl, rfl, rfl⟩ := h
    exact ⟨_, _, _, _, rfl⟩
  · cases h
def isX2 (self f g : Str) : List Stmt → Bool
  | [.Assign [.Attribute (.Name a _) b _] (.Name c _) _, .Assign [.Attribute (.Name a' _) b' _] (.Name c' _) _] => decide (a = self) && (decide (b = f) && (decide (c = f) && (decide (a' = self) && (decide (b' = g) && decide (c' = g)))))
  | _ => false
theorem isX2_ok {self f g : Str} {l : List Stmt} (h : isX2 self f g l = true) : ∃ p1 p2 p3 pos q1 q2 q3 qos, l = xB2 self f g p1 p2 p3 pos q1 q2 q3 qos := by
  unfold isX2 at h
  split at h
  · simp only [Bool.and_eq_true, decide_eq_true_eq] at h
    obtain ⟨rfl, rfl, rfl, rfl, rfl, rfl⟩ := h
    exact ⟨_, _, _, _, _, _, _, _, rfl⟩
  · cases h
theorem exInit1 {body : List Stmt} (F : FunD K x qual pa body sc [] [] fI fdt) (hb : isX1 "self" (Str.ofString f) body = true) (S : FnScope ["self", Str.ofString f] ["self", Str.ofString f] sc) (T : OexC K A) (hno : PySem.W.findIn K (.ref A) (Str.ofString f) = some none)
    (h1 : sc.names.lookup ("self" : Str) = some .local) (h2 : sc.names.lookup (Str.ofString f) = some .local) (n1 : plainX "self" = true) (n2 : plainX (Str.ofString f) = true) :
    FnOk Pg wd K mg base CX0 1 fI fdt ["self", Str.ofString f] (spX A [f]) := by
  obtain ⟨p1, p2, p3, pos, rfl⟩ := isX1_ok hb
  refine F.ok (k := 0) S (fun vs H Q E ⟨a, ws, e, l, _⟩ => by rw [e]; simpa using l) fun cd A' outer s H vs Q E hr hsp => ?_
  obtain ⟨a, ws, rfl, lw, ha, hq⟩ := hsp
  match ws, lw with
  | [y], _ =>
  refine ⟨_, pss_cons (ps_ost (pe_var (i := 0) rfl (.inl h1) (plainX_of n1).1 (plainX_of n1).2.1) (pe_var (i := 1) rfl (.inl h2) (plainX_of n2).1 (plainX_of n2).2.1)) pss_nil, ?_⟩
  refine ⟨y, rfl, .ref a, rfl, a, A, rfl, T, hno, .inl ⟨ha, fun dx hd ne => ?_⟩⟩
  exact hq dx _ [(Str.ofString f, y)] hd ne upd_same (by rw [upd_ne ne, upd_same]) (fun f => rfl) fun b h1 h2 => by rw [upd_ne h1, upd_ne h2]
theorem exInit2 {body : List Stmt} (F : FunD K x qual pa body sc [] [] fI fdt) (hb : isX2 "self" (Str.ofString f) (Str.ofString g) body = true) (S : FnScope ["self", Str.ofString f, Str.ofString g] ["self", Str.ofString f, Str.ofString g] sc) (T : OexC K A) (hno : PySem.W.findIn K (.ref A) (Str.ofString f) = some none) (hno2 : PySem.W.findIn K (.ref A) (Str.ofString g) = some none)
    (h1 : sc.names.lookup ("self" : Str) = some .local) (h2 : sc.names.lookup (Str.ofString f) = some .local) (h3 : sc.names.lookup (Str.ofString g) = some .local) (n1 : plainX "self" = true) (n2 : plainX (Str.ofString f) = true) (n3 : plainX (Str.ofString g) = true) (hfg : Str.ofString f ≠ Str.ofString g) :
    FnOk Pg wd K mg base CX0 1 fI fdt ["self", Str.ofString f, Str.ofString g] (spX A [f, g]) := by
  obtain ⟨p1, p2, p3, pos, q1, q2, q3, qos, rfl⟩ := isX2_ok hb
  refine F.ok (k := 0) S (fun vs H Q E ⟨a, ws, e, l, _⟩ => by rw [e]; simpa using l) fun cd A' outer s H vs Q E hr hsp => ?_
  obtain ⟨a, ws, rfl, lw, ha, hq⟩ := hsp
  match ws, lw with
  | [y, z], _ =>
  refine ⟨_, pss_cons (ps_ost (pe_var (i := 0) rfl (.inl h1) (plainX_of n1).1 (plainX_of n1).2.1) (pe_var (i := 1) rfl (.inl h2) (plainX_of n2).1 (plainX_of n2).2.1)) (pss_cons (ps_ost (pe_var (i := 0) rfl (.inl h1) (plainX_of n1).1 (plainX_of n1).2.1) (pe_var (i := 2) rfl (.inl h3) (plainX_of n3).1 (plainX_of n3).2.1)) pss_nil), ?_⟩
  refine ⟨y, rfl, .ref a, rfl, a, A, rfl, T, hno, .inl ⟨ha, fun dx hd ne => ?_⟩⟩
  refine ⟨z, rfl, .ref a, rfl, a, A, rfl, T, hno2, .inr ⟨dx, _, upd_same, by rw [upd_ne ne, upd_same], by simp, ?_⟩⟩
  refine hq dx _ [(Str.ofString g, z), (Str.ofString f, y)] hd ne (by rw [upd_ne (Ne.symm ne), upd_same]) upd_same (fun f' => ?_) fun b h1 h2 => by rw [upd_ne h2, upd_ne h1, upd_ne h2]
  show List.lookup f' [(Str.ofString g, z), (Str.ofString f, y)] = List.lookup f' [(Str.ofString f, y), (Str.ofString g, z)]
  rw [lookup_put, lookup_put, lookup_put, lookup_put]
  by_cases c1 : f' = Str.ofString g
  · rw [if_pos c1, if_neg (fun e => hfg (e.symm.trans c1)), if_pos c1]
  · rw [if_neg c1]
    by_cases c2 : f' = Str.ofString f
    · rw [if_pos c2, if_pos c2]
    · rw [if_neg c2, if_neg c2, if_neg c1]
end
end Z

set_option Elab.async false
set_option linter.all false
set_option maxRecDepth 100000
set_option maxHeartbeats 8000000
/-! Z16: defs, the table, the law's end. -/
namespace Z
open PySem
open PySem.Spec
open PyProof.Rows
open L2
section
variable {Pg : Program} {wd : World} {K : PySem.W.Frag} {mg : Str → Option Value} {base : Heap} {x qual : Str} {pa : Arguments} {body : List Stmt} {sc : Scope} {f : Addr} {fdt : FuncData} {N ps : List Str} {sp : Sp} {lv : Nat}
/-- the rule of the library for a def (FunD.ok), for calls outside of every repr -/
theorem fng_of {dvs : List V} {kws : List (Str × V)} (F : FunD K x qual pa body sc dvs kws f fdt) (S : FnScope N ps sc) (hlen : ∀ vs H Q E, sp vs H Q E → vs.length = ps.length)
    (hb : ∀ (cd : Value) (A : Around) (outer : List PySem.Env) (s : Shared) (H : Hp) (vs : List V) (Q : VK) (E : XK), A.guards = some [] → Room lv (A.deeper (envOfC qual sc s.heap.objs.size f cd)) → sp vs H Q E →
      ∃ t, PSs (cxOf (L2.CX Pg wd) Pg wd K mg base N qual sc f cd A outer s H E) body t ∧ t { nx := fun _ H' => Q .non H', rt := Q } (start N vs) H) : FnG Pg wd K mg base (lv + 1) f fdt ps sp := by
  obtain ⟨oc, od, dV, kV, doc, pm, an, cd, ct, osl, rfl, lk, hcd, _, _⟩ := F.ex
  refine ⟨hlen, fun A outer s H args us vs Q E hr hg e0 hbd r hsp => ?_⟩
  have lth := hlen _ _ _ _ hsp
  have KI : K.In s.heap := e0.mod.kin.keeps fun b o z => (e0.bs b o z).1
  have lim : s.heap.NoLimit := e0.mod.nolimit.keeps fun b o z => (e0.bs b o z).1
  have kinds : ∀ y ∈ ps.zip us, sc.names.lookup y.1 = some .local ∨ (sc.names.lookup y.1 = some .cell ∧ ((cellsFrom (s.heap.objs.size + 1) sc.names []).lookup y.1).isSome = true) := fun ⟨n, v⟩ hy =>
    (S.par n (List.of_mem_zip hy).1).elim .inl fun q => .inr ⟨q, PySem.W.cellsFrom_some _ _ _ (.inl q)⟩
  refine codeAny_call_function hr.depth (KI _ _ lk) rfl S.co S.gen rfl (PySem.W.codeRec_of KI hcd) (hbd _ _ _ _ ?_)
  refine wpAny_newFunctionEnv_cells S.kind kinds fun en he s1 xx => ?_
  subst he
  refine ⟨lim.keeps xx.toInCall.keep, codeAny_func ?_⟩
  obtain ⟨t, ht, hq⟩ := hb cd A outer s H vs Q E hg (hr.deeper _) hsp
  have I := inv_start (CX := L2.CX Pg wd) (E := E) S hr.hd e0 lth r xx
  refine wpAny_mono (ht.run [] s1 (start N vs) H _ I hq) (fun fl s' hs => ?_) fun e s' hs => hs
  have done : ∀ {σ' : L2.St} {H' : Hp} {v : V} {u : Value}, Inv (cxOf (L2.CX Pg wd) Pg wd K mg base N qual sc f cd A outer s H E) [] σ' H' s' → RelV v u → Q v H' → CE outer Pg wd H s Q u s' :=
    fun {σ' H' v u} J rv q => ⟨v, H', J.os, J.bare, J.base, J.hok, rv, q⟩
  cases fl with
  | ret u =>
    obtain ⟨v, σ', H', J, rv, q⟩ := hs
    exact done J rv q
  | next =>
    obtain ⟨σ', H', J, q⟩ := hs
    exact done (v := V.non) (u := Value.none) J rfl q
  | brk => exact hs.elim fun _ ⟨_, _, z⟩ => z.elim
  | cont => exact hs.elim fun _ ⟨_, _, z⟩ => z.elim

variable {cm : String → Option Addr} {k : Cl} {fd : Fd} {P : List Nat} {fr df : List String} {kn : String → List String}
theorem gt_entry {ws : List W} {i : Nat} {w : W} (h : gt (entry fd ws) i = some w) : ws[i]? = some w := by
  rw [gt_of] at h
  unfold entry at h
  by_cases hi : i < ws.length
  · rw [List.getElem?_append_left (by simpa using hi), List.getElem?_map] at h
    cases e : ws[i]? with
    | none => rw [e] at h; cases h
    | some a => rw [e] at h; exact h
  · rw [List.getElem?_append_right (by simpa using hi), List.getElem?_replicate] at h
    split at h <;> cases h
theorem start_at {N : List Str} {vs : List V} {i : Nat} {v : V} (h : vs[i]? = some v) : (start N vs)[i]? = some (some v) := by
  have hi := (List.getElem?_eq_some_iff.mp h).1
  unfold L2.start
  rw [List.getElem?_append_left (by simpa using hi), List.getElem?_map, h]
  rfl
theorem outs_at {ρ : Env} : ∀ {bs : List Bool} {ws : List W} {j : Nat} {os : List W}, outs ρ bs ws j = some os → os.length = ws.length ∧ ∀ (i : Nat) (o : W), os[i]? = some o → bs[i]? = some true → gt ρ (j + i) = some o
  | bs, [], j, os, h => by
    unfold outs at h
    cases h
    exact ⟨rfl, fun i o e => by simp at e⟩
  | bs, w :: ws, j, os, h => by
    unfold outs at h
    split at h
    case h_2 => cases h
    rename_i o os' e1 e2
    cases h
    obtain ⟨h1, h2⟩ := outs_at e2
    refine ⟨by simp [h1], fun i o' eo eb => ?_⟩
    cases i with
    | zero =>
      simp at eo
      subst eo
      cases bs with
      | nil => simp at eb
      | cons b bs =>
        simp at eb
        subst eb
        simpa using e1
    | succ i =>
      have := h2 i o' (by simpa using eo) (by cases bs with | nil => simp at eb | cons b bs => simpa using eb)
      rw [← this]
      congr 1
      omega
/-- what a def is worth by the interpreter -/
def callF (k : Cl) (fd : Fd) (ws : List W) : RF := if ws.length = fd.np then fin fd ws (execs k fd.body (entry fd ws)) else .bad
theorem callF_len {ws : List W} (h : callF k fd ws ≠ .bad) : ws.length = fd.np := by
  unfold callF at h
  split at h
  · assumption
  · exact absurd rfl h
theorem callF_outs {ws : List W} {w : W} {os : List W} (h : callF k fd ws = .ok w os) : os.length = ws.length := by
  unfold callF at h
  split at h
  · unfold fin at h
    split at h <;> first | cases h | skip
    all_goals
      unfold finW at h
      split at h <;> cases h
      rename_i e
      exact (outs_at e).1
  · cases h
/-- what is asked of a class's name (ClQ, without a context) -/
structure ClG (K : PySem.W.Frag) (mg : Str → Option Value) (cm : String → Option Addr) (g : GX) (c : String) (u : Value) : Prop where
  nm : (∃ A, u = .ref A ∧ mg (Str.ofString c) = some (.ref A)) ∨ (c = "ValueError" ∧ u = .type "ValueError" ∧ mg (Str.ofString c) = none)
  isx : ∀ c' b A', g.isx.lookup (c', c) = some b → cm c' = some A' → IsI K A' ∧ PySem.W.kitOne K (.ref A') u = some b
  isd : g.isd.contains c = true → ∀ T ∈ tyNs, PySem.W.kitOne K (.type T) u = some false
  esb : ∀ c' b A', g.esb.lookup (c', c) = some b → cm c' = some A' → ExcC K A' ∧ PySem.W.exmOne K (.ref A') u = some b ∧ PySem.W.kitOne K (.ref A') u = some b
/-- an exception class of the program (ExQ, without a context) -/
def ExG (K : PySem.W.Frag) (mg : Str → Option Value) (cm : String → Option Addr) (c : String) (ns : List String) : Prop := ∃ A fI fd, cm c = some A ∧ mg (Str.ofString c) = some (.ref A) ∧ OexC K A ∧ PySem.W.findIn K (.ref A) "__init__" = some (some (.ref fI)) ∧ PySem.W.typeIn K (.ref fI) = some (.type "function") ∧
  (∀ (Pg : Program) (wd : World) (base : Heap), FnOk Pg wd K mg base CX0 1 fI fd (("self" :: ns).map Str.ofString) (spX A ns)) ∧ Binds K fd (("self" :: ns).map Str.ofString) [] ∧ (ns.map Str.ofString).Nodup
/-- what the module's names are -/
structure GOk (K : PySem.W.Frag) (mg : Str → Option Value) (cm : String → Option Addr) (ad : String → Addr) (g : GX) : Prop where
  ci : ∀ p ∈ g.ci, ∃ t, mg (Str.ofString p.1) = some (.int p.2 t)
  cs : ∀ p ∈ g.cs, ∃ t, mg (Str.ofString p.1) = some (.str p.2 t)
  atr : ∀ c f A, g.atB c f = true → cm c = some A → Cls K A ∧ NoAttr K A (Str.ofString f)
  mt : ∀ c m f A, g.mtO c m = some f → cm c = some A → Cls K A ∧ Meth K A (Str.ofString m) (ad f)
  ini : ∀ c f, g.mkO c = some f → ∃ A, cm c = some A ∧ mg (Str.ofString c) = some (.ref A) ∧ Mk K A (ad f)
  cmn : CmN cm
  xat : ∀ c f A, g.exB c f = true → cm c = some A → XfC K A ∧ PySem.W.findIn K (.ref A) (Str.ofString f) = some none
  clq : ∀ c ∈ g.cls, ∃ u, ClG K mg cm g c u
  exq : ∀ c ns, g.exa.lookup c = some ns → ExG K mg cm c ns
  shp : ∀ sk f s, g.shp.lookup sk = some (f, s) → mg (Str.ofString f) = some (.ref (ad f))
/-- a def that is there with n levels -/
def AtL (Pg : Program) (wd : World) (K : PySem.W.Frag) (mg : Str → Option Value) (cm : String → Option Addr) (ad : String → Addr) (kn : String → List String) (br : String → List Bool) (g : GX) (n : Nat) (m : String → List W → RF) (f : String) : Prop :=
  ∃ (fd : FuncData) (ps : List Str), PySem.W.keepIn K (.ref (ad f)) = true ∧ (∀ base, FnG Pg wd K mg base n (ad f) fd ps (spZ K cm ps.length (br f) (m f))) ∧ (g.nop.contains f = false → Binds K fd ps []) ∧ (∀ ws, m f ws ≠ .bad → ws.length = ps.length) ∧ (∀ ws w os, m f ws = .ok w os → os.length = ws.length) ∧
    (0 < (kn f).length → ps = (kn f).map Str.ofString ∧ ∀ (s : Shared) (us : List Value), K.In s.heap → us.length = ps.length → BindsTo s fd ⟨[], ps.zip us⟩ (ps.zip us)) ∧ (∀ sk s, g.shp.lookup sk = some (f, s) → ShB K fd ps s)
theorem fnG_Z {ad : String → Addr} {all : List String} {g : GX} {dvs : List V} {kws : List (Str × V)} (F : FunD K x qual pa body sc dvs kws f fdt) (S : FnScope N ps sc) (hnp : ps.length = fd.np) (hn : N.length = fd.n) (hfr : ∀ n ∈ fr, mg (Str.ofString n) = none) (hG : GOk K mg cm ad g) (hkg : k.g = g) (hkn : k.n = lv)
    (hck : ckSs ⟨N, sc, true, fr, df, kn, g⟩ P fd.body body = true) (hP : ∀ i : Nat, fd.br[i]? = some true → i ∈ P)
    (hfn : ∀ g' ∈ df, (g' ∈ all ∧ g.nop.contains g' = false) ∧ mg (Str.ofString g') = some (.ref (ad g'))) (hmt : ∀ c m f, g.mtO c m = some f → f ∈ all ∧ g.nop.contains f = false) (hinI : ∀ c f, g.mkO c = some f → f ∈ all ∧ g.nop.contains f = false) (hsh : ∀ sk f s, g.shp.lookup sk = some (f, s) → f ∈ all)
    (hc : ∀ f ∈ all, AtL Pg wd K mg cm ad kn k.br g lv k.c f) (hi : ∀ f ∈ all, (∃ ws, k.ini f ws ≠ .bad) → ∃ m, m + 1 = lv ∧ AtL Pg wd K mg cm ad kn k.br g m k.ini f) :
    FnG Pg wd K mg base (lv + 1) f fdt ps (spZ K cm ps.length fd.br (callF k fd)) := by
  refine fng_of F S (fun vs H Q E h => h.1) fun cd A outer s H vs Q E hg hr hsp => ?_
  obtain ⟨hvl, ws, F0, lab, sub, lws, hin, nb, hok, hex⟩ := hsp
  have hwl := callF_len nb
  have hcf : callF k fd ws = fin fd ws (execs k fd.body (entry fd ws)) := if_pos hwl
  let T : TP := fun σ F1 H1 lab1 c fs ρ => ∀ C dd gs F' H' lab', Sub F' H' → Stp F1 H1 lab1 F' H' lab' → cm c = some C → F' dd = some (.xd gs) → RepF K cm F' fs gs → E (.ref C) (some dd) H'
  have hT : T.Mono := fun σ F1 H1 lab1 c fs ρ F2 H2 lab2 h st C dd gs F' H' lab' s' st' => h C dd gs F' H' lab' s' (st.trans st')
  have tk := takes_of (X := cxOf (L2.CX Pg wd) Pg wd K mg base N qual sc f cd A outer s H E) rfl rfl rfl rfl
  have hx : TPx (cxOf (L2.CX Pg wd) Pg wd K mg base N qual sc f cd A outer s H E) cm T := fun σ F1 H1 lab1 c fs ρ h re => tk.imp fun cls d σ' H' hw => by
    obtain ⟨C, dd, gs, F', lab', rfl, hC, rfl, hd, hrp, st, re', _⟩ := hw
    exact h C dd gs F' H' lab' re'.sub st hC hd hrp
  have hps := passes_of (X := cxOf (L2.CX Pg wd) Pg wd K mg base N qual sc f cd A outer s H E) rfl
  have xo : XOk (cxOf (L2.CX Pg wd) Pg wd K mg base N qual sc f cd A outer s H E) ⟨N, sc, true, fr, df, kn, g⟩ := {
    n := rfl
    nd := S.nd
    sc := fun y kd hy => ⟨fun _ => hy, fun e => .inr (by rw [← e]; exact hy)⟩
    cell := fun y hy => rfl
    calm := fun _ => rfl
    un := hr.units
    gd := hg
    fr := hfr
    gc := ⟨hG.ci, hG.cs⟩ }
  have cl : Calls (cxOf (L2.CX Pg wd) Pg wd K mg base N qual sc f cd A outer s H E) cm k df kn g := {
    geq := hkg
    run := fun g' hgd => by
      obtain ⟨⟨h1, h0⟩, h2⟩ := hfn g' hgd
      obtain ⟨fd', ps', c1, c2, c3, c4, c5, c6, _⟩ := hc g' h1
      exact ⟨_, fd', ps', lv, h2, c1, c2 base, c3 h0, hr, c4, c5, c6⟩
    atr := fun c f A h1 h2 => hG.atr c f A (by rw [← hkg]; exact h1) h2
    mtr := fun _ c m f h1 => by
      rw [hkg] at h1
      obtain ⟨fd', ps', c1, c2, c3, c4, c5, c6, _⟩ := hc f (hmt c m f h1).1
      exact ⟨ad f, fd', ps', lv, fun A hA => hG.mt c m f A h1 hA, c2 base, c3 (hmt c m f h1).2, hr, c4, c5⟩
    mtl := fun _ c m f h1 hnb => by
      rw [hkg] at h1
      obtain ⟨m', e, fd', ps', c1, c2, c3, c4, c5, c6, _⟩ := hi f (hmt c m f h1).1 hnb
      exact ⟨ad f, fd', ps', m', fun A hA => hG.mt c m f A h1 hA, c2 base, c3 (hmt c m f h1).2, by rw [e]; exact hr, c4, c5⟩
    mkr := fun _ c f h1 => by
      rw [hkg] at h1
      obtain ⟨A, g1, g2, g3⟩ := hG.ini c f h1
      refine ⟨ad f, A, g1, g2, g3, fun hnb => ?_⟩
      obtain ⟨m, e, fd', ps', c1, c2, c3, c4, c5, c6, _⟩ := hi f (hinI c f h1).1 hnb
      exact ⟨fd', ps', m, c2 base, c3 (hinI c f h1).2, by rw [e]; exact hr, c4, c5⟩
    xcq := fun a dd C h1 h2 h3 => by rw [hG.cmn.1] at h1; cases h1
    cmn := fun _ => hG.cmn
    xat := fun c f A h1 h2 => hG.xat c f A (by rw [← hkg]; exact h1) h2
    clq := fun c hc => by
      rw [hkg] at hc ⊢
      obtain ⟨u, q⟩ := hG.clq c hc
      exact ⟨u, ⟨q.nm, q.isx, q.isd, q.esb⟩⟩
    exq := fun _ c ns h1 => by
      rw [hkg] at h1
      obtain ⟨A, fI, fd, e1, e2, e3, e4, e5, e6, e7, e8⟩ := hG.exq c ns h1
      exact ⟨fun hlt => hr.mono (by omega), A, fI, fd, e1, e2, e3, e4, e5, e6 _ _ _, e7, e8⟩
    shq := fun _ sk f s h1 => by
      rw [hkg] at h1
      obtain ⟨fd', ps', c1, c2, c3, c4, c5, c6, c7⟩ := hc f (hsh sk f s h1)
      exact ⟨_, fd', ps', lv, hG.shp sk f s h1, c1, c2 base, c7 sk s h1, hr, c4, c5⟩ }
  refine ⟨_, stss fd.body (cm := cm) (k := k) (P := P) (C := ⟨N, sc, true, fr, df, kn, g⟩) hT hx xo cl hps ⟨rfl, rfl⟩ body hck, entry fd ws, F0, lab, ⟨sub, ?_, fun i w e => ?_⟩, ?_⟩
  · unfold entry L2.start
    simp only [List.length_append, List.length_map, List.length_replicate]
    omega
  · have ew := gt_entry e
    have hi : i < vs.length := by rw [← lws]; exact (List.getElem?_eq_some_iff.mp ew).1
    have ev : vs[i]? = some vs[i] := List.getElem?_eq_getElem hi
    exact ⟨vs[i], start_at ev, hin i w _ ew ev⟩
  · have key : ∀ {w : W} {ρ' : Env} {σ' : L2.St} {F' H' : Hp} {lab' : Lab} {v : V}, fin fd ws (execs k fd.body (entry fd ws)) = finW fd ws w ρ' → Stp F0 H lab F' H' lab' → Same P (start N vs) σ' → RE K cm F' H' lab' ρ' σ' → RelW K cm F' H' lab' 0 w v → Q v H' := by
      intro w ρ' σ' F' H' lab' v e st sm re' rw'
      have e2 := hcf.trans e
      unfold finW at e2
      split at e2
      case h_2 => exact absurd e2 nb
      rename_i os eo
      refine hok w os e2 v F' H' lab' re'.sub st rw' fun i o u eio eb eu => ?_
      have g1 := (outs_at eo).2 i o eio eb
      rw [Nat.zero_add] at g1
      obtain ⟨v', e3, r⟩ := re'.at_ i o g1
      rw [sm i (hP i eb), start_at eu] at e3
      cases e3
      exact r
    refine ⟨fun e => ?_, fun c fs ρ e σ F' H' lab' st C dd gs F2 H2 lab2 s2 st2 => ?_, fun a e F' H' lab' st σ' sm re' => ?_⟩
    · rw [e] at hcf
      exact nb hcf
    · rw [e] at hcf
      exact hex c fs hcf C dd gs F2 H2 lab2 s2 (st.trans st2)
    · obtain ⟨fl, ρ'⟩ := a
      cases fl with
      | nx => exact key (w := .sh .non) (by rw [e]; rfl) st sm re' .non
      | rt w => exact fun v rv => key (w := w) (by rw [e]; rfl) st sm re' rv
      | brk => rw [e] at hcf; exact absurd hcf nb
      | cnt => rw [e] at hcf; exact absurd hcf nb

/-! ### the table of defs -/
/-- a def of the text and its term -/
structure DefOk (K : PySem.W.Frag) (ad : String → Addr) (Γ : Tab) (fr df : List String) (kn : String → List String) (g : String) : Prop where
  ex : ∃ (fdt : FuncData) (x qual : Str) (pa : Arguments) (body : List Stmt) (sc : Scope) (ps N : List Str) (fd : Fd) (P : List Nat) (dvs : List V) (kws : List (Str × V)),
    FunD K x qual pa body sc dvs kws (ad g) fdt ∧ FnScope N ps sc ∧ Γ g = some fd ∧ ps.length = fd.np ∧ N.length = fd.n ∧ (Γ.g.nop.contains g = false → Binds K fdt ps []) ∧
      ckSs ⟨N, sc, true, fr, df, kn, Γ.g⟩ P fd.body body = true ∧ (∀ i : Nat, fd.br[i]? = some true → i ∈ P) ∧
      (0 < (kn g).length → ps = (kn g).map Str.ofString ∧ ∀ (s : Shared) (us : List Value), K.In s.heap → us.length = ps.length → BindsTo s fdt ⟨[], ps.zip us⟩ (ps.zip us)) ∧ (∀ sk s, Γ.g.shp.lookup sk = some (g, s) → ShB K fdt ps s)
theorem run_succ {Γ : Tab} {wf n : Nat} {g : String} (h : Γ g = some fd) : run Γ wf (n + 1) g = callF (clK Γ wf n) fd := by
  funext ws
  show callT Γ (clK Γ wf n) g ws = _
  unfold callT callF
  rw [h]
theorem tab_ok {ad : String → Addr} {all : List String} {Γ : Tab} {wf : Nat} (hfr : ∀ n ∈ fr, mg (Str.ofString n) = none) (hG : GOk K mg cm ad Γ.g) (hfn : ∀ g' ∈ df, (g' ∈ all ∧ Γ.g.nop.contains g' = false) ∧ mg (Str.ofString g') = some (.ref (ad g'))) (hmt : ∀ c m f, Γ.g.mtO c m = some f → f ∈ all ∧ Γ.g.nop.contains f = false) (hin : ∀ c f, Γ.g.mkO c = some f → f ∈ all ∧ Γ.g.nop.contains f = false) (hsh : ∀ sk f s, Γ.g.shp.lookup sk = some (f, s) → f ∈ all)
    (h : ∀ g ∈ all, DefOk K ad Γ fr df kn g) : ∀ n, (∀ f ∈ all, AtL Pg wd K mg cm ad kn (brs Γ) Γ.g n (run Γ wf n) f) ∧ ∀ f ∈ all, (∃ ws, runI Γ wf n f ws ≠ .bad) → ∃ m, m + 1 = n ∧ AtL Pg wd K mg cm ad kn (brs Γ) Γ.g m (runI Γ wf n) f
  | 0 => by
    refine ⟨fun g hg => ?_, fun f _ ⟨ws, z⟩ => absurd rfl z⟩
    obtain ⟨fdt, x, qual, pa, body, sc, ps, N, fd, P, dvs, kws, h2, h3, h4, h5, h6, h7, h8, h9, h10, h11⟩ := (h g hg).ex
    exact ⟨fdt, ps, h2.kp, fun base => ⟨fun vs H Q E z => z.1, fun A outer s H args us vs Q E hr hgd e0 hb r z => absurd rfl z.2.choose_spec.choose_spec.choose_spec.2.2.2.1⟩, h7, fun ws z => absurd rfl z, fun ws w os z => (by cases z), h10, h11⟩
  | n + 1 => by
    obtain ⟨i1, i2⟩ := tab_ok hfr hG hfn hmt hin hsh h n
    refine ⟨fun g hg => ?_, fun f hf _ => ⟨n, rfl, i1 f hf⟩⟩
    obtain ⟨fdt, x, qual, pa, body, sc, ps, N, fd, P, dvs, kws, h2, h3, h4, h5, h6, h7, h8, h9, h10, h11⟩ := (h g hg).ex
    have hb : brs Γ g = fd.br := by unfold brs; rw [h4]
    have hrs := run_succ (wf := wf) (n := n) h4
    refine ⟨fdt, ps, h2.kp, fun base => ?_, h7, fun ws z => ?_, fun ws w os z => ?_, h10, h11⟩
    · rw [hrs, hb]
      exact fnG_Z (k := clK Γ wf n) h2 h3 h5 h6 hfr hG rfl rfl h8 h9 hfn hmt hin hsh i1 i2
    · rw [hrs] at z; rw [h5]; exact callF_len z
    · rw [hrs] at z; exact callF_outs z
end
end Z

set_option Elab.async false
set_option linter.all false
set_option maxRecDepth 100000
set_option maxHeartbeats 8000000
/-! Z17: the law's end. -/
namespace Z
open PySem
open PySem.Spec
open PyProof.Rows
open L2
/-- the end over a promise that asks for no guards (after HandS.Ends) -/
theorem lawG_call {P : Program} {w : World} {K : PySem.W.Frag} {mg mb : Str → Option Value} {k : Nat} {fa a : Addr} {fdt : FuncData} {ps : List Str} {sp : Sp} {sA : Shared} {vs : List Value} {ns : List Int}
    (KI : K.In sA.heap) (nsM : sA.heap.Ns mainGlobals mg) (nsB : sA.heap.Ns builtinsNs mb) (bB : ∀ x : Str, x ≠ "__name__" → mb x = bootBuiltins x) (nl : sA.heap.NoLimit) (gn : sA.gens = #[])
    (ha : sA.heap.get? a = some { cls := .type "list", data := .seq vs.toArray }) (hi : IntsAre vs ns) (hl : ns.length ≤ sizeLine) (hr : Room k callerA)
    (F : ∀ base : Heap, K.In base → base.Ns mainGlobals mg → FnG P w K mg base k fa fdt ps sp) (hbd : BindsTo sA fdt ⟨[.ref a], []⟩ (ps.zip [.ref a]))
    (hsp : ∀ H : Hp, SqP K H a (ns.map V.int) → sp [.ref a] H (fun v _ => v = .bl true) fun _ _ _ => False) :
    codeAny (model P w) callerA (.call (.ref fa) ⟨[.ref a], []⟩) (fun r sB => r = .ok (.ret (.bool true)) ∧ OldK sA.heap sB.heap ∧ sB.os = sA.os ∧ AllBare sB.gens) sA := by
  have rel := vals_ints hi
  have ln := hi.length
  have core : ∀ H : Hp, Only H → SqP K H a (ns.map V.int) → HOk P w H sA.heap → (∀ b, H b ≠ none → b = a) → (H a ≠ none → K.lookup a = none) →
      codeAny (model P w) callerA (.call (.ref fa) ⟨[.ref a], []⟩) (fun r sB => r = .ok (.ret (.bool true)) ∧ OldK sA.heap sB.heap ∧ sB.os = sA.os ∧ AllBare sB.gens) sA := by
    intro H hOn hSq okH tr kn
    have atBase : ∀ {b : Addr} {o : Obj}, sA.heap.get? b = some o → H b = none → (hidT sA.heap H).get? b = some o := fun z n => hidT_get z n
    have notTr : ∀ {b : Addr} {o : Obj} {es : Array DictEntry} {ep : Nat}, sA.heap.get? b = some o → o.data = .dict es ep → H b = none := fun {b o es ep} z d => by
      by_cases q : H b = none
      · exact q
      · rw [tr b q, ha] at z
        cases z
        cases (show Data.seq vs.toArray _ = Data.dict es ep from d)
    have nsT : ∀ {b : Addr} {m : Str → Option Value}, sA.heap.Ns b m → (hidT sA.heap H).Ns b m := fun {b m} ⟨o, es, ep, z, d, r⟩ => ⟨o, es, ep, atBase z (notTr z d), d, r⟩
    have KB : K.In (hidT sA.heap H) := fun b o z => atBase (KI b o z) (by
      by_cases q : H b = none
      · exact q
      · have hba := tr b q
        rw [hba] at q z
        rw [kn q] at z
        cases z)
    have md : Mod K mg (hidT sA.heap H) := ⟨KB, nsT nsM, ⟨mb, nsT nsB, bB⟩, nl.elim fun mc hc => ⟨mc, nsT hc.1, hc.2⟩⟩
    have en : Env0 P w K mg (hidT sA.heap H) callerA [] sA H := ⟨rfl, md, fun b o z => of_hidT z, Nat.le_of_eq (hidT_size _ _), trivial, fun b hb => absurd hb (List.not_mem_nil), okH, .of_eq gn⟩
    refine codeAny_mono ((F _ KB (nsT nsM)).run callerA [] sA H ⟨[.ref a], []⟩ [.ref a] [.ref a] _ _ hr rfl en hbd (.cons rfl .nil) (hsp H hSq)) fun r sB out => ?_
    cases r with
    | error u =>
      exfalso
      obtain ⟨_, _, _, _, _, _, _, _, _, _, _, _, z⟩ := out
      exact z
    | ok fl =>
      cases fl with
      | next => exact out.elim
      | brk => exact out.elim
      | cont => exact out.elim
      | ret u =>
        obtain ⟨v, H', os, bare, un, okB, rv, q⟩ := out
        cases (show v = .bl true from q)
        cases (show u = Value.bool true from rv)
        refine ⟨rfl, OldK.of_keep fun b o z => ?_, os, bare⟩
        cases q : H b with
        | none => exact un.keep b o z q (fun m => by cases m) (by simp)
        | some u =>
          rcases hOn b with m | ⟨ob, xs, m⟩
          · rw [q] at m; cases m
          · have z1 := (okH b _ m).1
            have z2 := (okB b _ (un.frzs b ob _ m)).1
            rw [z] at z1
            cases z1
            exact z2
  cases hk : K.lookup a with
  | some o =>
    have z := KI a o hk
    rw [ha] at z
    cases z
    refine core (fun _ => none) (fun _ => .inl rfl) (.inr ⟨vs, _, hk, by rw [ln]; exact hl, rel⟩) (fun b u m => by cases m) (fun b m => absurd rfl m) fun m => absurd rfl m
  | none =>
    refine core (fun b => if b = a then some (.frz { cls := .type "list", data := .seq vs.toArray } (.lst (ns.map V.int))) else none) (fun b => ?_) (.inl (.inr ⟨_, if_pos rfl⟩)) (fun b u m => ?_) (fun b m => ?_) fun _ => hk
    · by_cases hb : b = a
      · exact .inr ⟨_, _, if_pos hb⟩
      · exact .inl (if_neg hb)
    · by_cases hb : b = a
      · cases (if_pos hb).symm.trans m
        subst hb
        exact ⟨ha, by rw [List.length_map]; exact hl, vs, _, rel, ha⟩
      · cases (if_neg hb).symm.trans m
    · by_cases hb : b = a
      · exact hb
      · exact absurd (if_neg hb) m
/-- the slots handed on by reference -/
def brP (l : List Bool) : List Nat := (List.range l.length).filter fun i => l[i]? == some true
theorem brP_ok (l : List Bool) (i : Nat) (h : l[i]? = some true) : i ∈ brP l := by
  unfold brP
  rw [List.mem_filter, List.mem_range]
  refine ⟨(List.getElem?_eq_some_iff.mp h).1, by rw [h]; rfl⟩
theorem kw_bind {K : PySem.W.Frag} {x qual : Str} {pa : Arguments} {body : List Stmt} {sc : Scope} {kws : List (Str × V)} {f : Addr} {fdt : FuncData} {ps : List Str} (F : FunD K x qual pa body sc [] kws f fdt)
    (z : ∀ (kV doc pm : Value) (an : Option Addr) (cd ct : Value) (us : List Value), us.length = ps.length → bindArgs (PySem.W.fnOf x qual pa body sc .none kV doc pm an cd ct) ⟨[], ps.zip us⟩ = pure (ps.zip us)) (s : Shared) (us : List Value) (hl : us.length = ps.length) : BindsTo s fdt ⟨[], ps.zip us⟩ (ps.zip us) := by
  obtain ⟨_, _, dV, kV, doc, pm, an, cd, ct, _, rfl, _, _, hD, _⟩ := F.ex
  rcases hD with ⟨_, rfl⟩ | ⟨e, _⟩
  · exact .of_eq (z kV doc pm an cd ct us hl)
  · exact absurd rfl e
theorem shB_of {K : PySem.W.Frag} {x qual : Str} {pa : Arguments} {body : List Stmt} {sc : Scope} {kws : List (Str × V)} {f : Addr} {fdt : FuncData} {ps : List Str} (F : FunD K x qual pa body sc [] kws f fdt) (hk : kws ≠ []) (s : Sh) (ms : List (Str × V)) (hms : ∀ q ∈ ms, q ∈ kws)
    (hmv : ms.map (·.2) = (defsOf s.dv).map toV) (hf : (defsOf s.dv).all flatD = true) (hlen : ∀ {α : Type} (as ds : List α), as.length = s.n + s.ks.length → ds.length = (defsOf s.dv).length → (mergeG s.dv as ds).length = ps.length)
    (h : ∀ (D : Addr) (doc pm : Value) (an : Option Addr) (cdv ct : Value) (us mv ws : List Value), us.length = s.n → mv.length = ms.length → ws.length = s.ks.length →
      KwChain D ((ms.map (·.1)).zip mv) (bindArgs (PySem.W.fnOf x qual pa body sc .none (.ref D) doc pm an cdv ct) ⟨us, (s.ks.map Str.ofString).zip ws⟩) (ps.zip (mergeG s.dv (us ++ ws) mv))) : ShB K fdt ps s := by
  obtain ⟨oc, od, dV, kV, doc, pm, an, cdv, ct, osl, rfl, lk, hcd, hD, hK⟩ := F.ex
  rcases hD with ⟨_, rfl⟩ | ⟨e, _⟩
  · rcases hK with e | ⟨D, rfl, hq⟩
    · exact absurd e hk
    · obtain ⟨mv, hl, rk, hks⟩ := kwd_vals (ms := ms) fun q hm => hq q (hms q hm)
      exact ⟨hlen, mv, by rw [← hmv]; exact rk, hf, fun sh us ws KI l1 l2 => BindsTo.of_looks fun M => KwChain.looks KI hks (h D doc pm an cdv ct us mv ws l1 hl l2)⟩
  · exact absurd rfl e
theorem lookMem {α : Type} [BEq α] [LawfulBEq α] {l : List (α × String)} {a : α} {f : String} (h : l.lookup a = some f) : (a, f) ∈ l := by
  induction l with
  | nil => cases h
  | cons p r ih =>
    obtain ⟨x, y⟩ := p
    rw [List.lookup_cons] at h
    split at h
    · rename_i e
      rw [eq_of_beq e, Option.some.inj h]; simp
    · exact List.mem_cons_of_mem _ (ih h)
theorem walk_Z {l : PySem.W.OpenLaw} {n lv : Nat} {q : Program} {loose : List Str} {XP : (Str → Option Value) → Heap → Prop} {YP : World → Heap → Prop} {d : DefRec} {Γ : Tab} {fr df all : List String} {kn : String → List String}
    (hn : l.most = some n) (hn2 : n ≤ sizeLine) (hdf : d.params.defaults = []) (hr : Room lv callerA) (hname : d.name = Str.ofString "law") (hlaw : "law" ∈ df) (hall : ∀ g ∈ df, g ∈ all) (hnop : ∀ g ∈ df, Γ.g.nop.contains g = false) (hmt : ∀ p ∈ Γ.g.mt, p.2 ∈ all ∧ Γ.g.nop.contains p.2 = false) (hin : ∀ p ∈ Γ.g.ini, p.2 ∈ all ∧ Γ.g.nop.contains p.2 = false) (hsh : ∀ p ∈ Γ.g.shp, p.2.1 ∈ all) (cm : PySem.W.Frag → String → Option Addr) (ad : PySem.W.Frag → String → Addr)
    (F : ∀ (w : World) (mg : Str → Option Value) (h : Heap), YP w h → h.Ns mainGlobals mg → ∃ K : PySem.W.Frag, K.In h ∧ (∀ n ∈ fr, mg (Str.ofString n) = none) ∧ GOk K mg (cm K) (ad K) Γ.g ∧ (∀ g ∈ df, mg (Str.ofString g) = some (.ref (ad K g))) ∧ ∀ g ∈ all, DefOk K (ad K) Γ fr df kn g)
    (law : ∀ ns : List Int, ns.length ≤ n → ∃ wf os, run Γ wf lv "law" [.sh (.lst (ns.map D.int))] = .ok (.sh (.bl true)) os) :
    PySem.W.WalkO q loose XP YP l.row.toRowW d [] (fun f vs => PySem.call f vs) := by
  refine Att.attach_call hn hdf fun w s0 sA mg mb fa o pm cd doc a vs ns G Y ho hd hcd hmg hobj hints hlen hg => ?_
  obtain ⟨K, KI, hfr, hG, hfn, hdef⟩ := F w mg _ Y G.T.g
  obtain ⟨wf, os, hrun⟩ := law ns hlen
  have lk : ∀ {α : Type} [BEq α] [LawfulBEq α] {l : List (α × String)} {a : α} {f : String}, l.lookup a = some f → ∃ p ∈ l, p.2 = f := by
    intro α _ _ l a f h
    induction l with
    | nil => cases h
    | cons p r ih =>
      obtain ⟨x, y⟩ := p
      rw [List.lookup_cons] at h
      split at h
      · exact ⟨(x, y), by simp, Option.some.inj h⟩
      · obtain ⟨p, hp, e⟩ := ih h
        exact ⟨p, by simp [hp], e⟩
  have lk2 : ∀ {α β : Type} [BEq α] [LawfulBEq α] {l : List (α × β)} {a : α} {f : β}, l.lookup a = some f → ∃ p ∈ l, p.2 = f := by
    intro α β _ _ l a f h
    induction l with
    | nil => cases h
    | cons p r ih =>
      obtain ⟨x, y⟩ := p
      rw [List.lookup_cons] at h
      split at h
      · exact ⟨(x, y), by simp, Option.some.inj h⟩
      · obtain ⟨p, hp, e⟩ := ih h
        exact ⟨p, by simp [hp], e⟩
  obtain ⟨fdt, ps, c1, hF, hB, hL, _, _⟩ := (tab_ok (Pg := l.prog) (wd := w) (cm := cm K) (ad := ad K) (all := all) (wf := wf) hfr hG (fun g hg => ⟨⟨hall g hg, hnop g hg⟩, hfn g hg⟩) (fun c m f h => by obtain ⟨p, hp, e⟩ := lk h; rw [← e]; exact hmt p hp) (fun c f h => by obtain ⟨p, hp, e⟩ := lk h; rw [← e]; exact hin p hp) (fun sk f s h => by obtain ⟨p, hp, e⟩ := lk2 h; have := hsh p hp; rw [e] at this; exact this) hdef lv).1 "law" (hall _ hlaw)
  have e1 := hfn "law" hlaw
  rw [hname] at hmg
  rw [hmg] at e1
  obtain rfl : fa = ad K "law" := by cases e1; rfl
  have hps : [W.sh (.lst (ns.map D.int))].length = ps.length := hL _ (by rw [hrun]; intro z; cases z)
  refine lawG_call (ps := ps) (fdt := fdt) (sp := spZ K (cm K) ps.length (brs Γ "law") (run Γ wf lv "law")) KI G.T.g G.T.b G.T.builtins G.T.nolimit hg hobj hints (Nat.le_trans hlen hn2) hr ?_ ?_ fun H hS => ?_
  · exact fun base _ _ => hF base
  · have := hB (hnop _ hlaw) sA [.ref a] KI (by simpa using hps)
    simpa using this
  · refine ⟨hps, [.sh (.lst (ns.map D.int))], H, fun _ => none, Sub.refl _, rfl, fun i w v ew ev => ?_, (by rw [hrun]; intro z; cases z), fun w os' e v F' H' lab' s' st rw' _ => ?_, fun c fs e => (by rw [hrun] at e; cases e)⟩
    · cases i with
      | zero =>
        simp at ew ev
        subst ew ev
        exact .lst hS (Reps.ofInts ns)
      | succ i => simp at ew
    · rw [hrun] at e
      cases e
      cases (show Rep K (cm K) F' (.bl true) v from rw')
      rfl
end Z

set_option Elab.async false
set_option linter.all false
set_option maxRecDepth 100000
set_option maxHeartbeats 2000000
/-! Zj: the head's further facts: exceptions and classes. -/
namespace Z
open PySem PySem.Spec PyProof.Rows L2
/-- a class by its name -/
inductive Cn where
  | own (x : Str)
  | ve
def Cn.v (K : PySem.W.Frag) : Cn → Value
  | .own x => .ref (He.ga K x)
  | .ve => .type "ValueError"
inductive Ga where
  | isi (x : Str)
  | kit (x : Str) (c : Cn) (b : Bool)
  | kitT (c : Cn)
  | exm (x : Str) (c : Cn) (b : Bool)
  | excC (x : Str)
  | xf (x : Str)
  | oex (x : Str)
  | xini (x : Str)
def oexB (K : PySem.W.Frag) (C : Addr) : Bool := match K.lookup C with
  | some ⟨.type "type", _, .cls cd, sl⟩ => (match cd.mro, sl.toList with
    | .ref C' :: bm, [_, _, _, _, some (.builtin n), _] => C' == C && (n == "ValueError.__new__" && (!cd.hasDel && (cd.hasDict && PySem.HandSPX.refsVE bm)))
    | _, _ => false)
  | _ => false
def Ga.ok (K : PySem.W.Frag) : Ga → Bool
  | .isi x => He.eqO (PySem.W.findIn K (.ref (He.ga K x)) "__class__") (some (some (.builtin "object.__class__"))) && (He.eqO (PySem.W.specialIn K (.builtin "object.__class__") "__get__") (some (some (.builtin "getset_descriptor.__get__"))) &&
    (decide (PySem.W.takesIn K (.builtin "object.__class__") = some true) && decide (PySem.W.mroIn K (He.ga K x) (.type "object") = some true)))
  | .kit x c b => decide (PySem.W.kitOne K (.ref (He.ga K x)) (c.v K) = some b)
  | .kitT c => tyNs.all fun T => decide (PySem.W.kitOne K (.type T) (c.v K) = some false)
  | .exm x c b => decide (PySem.W.exmOne K (.ref (He.ga K x)) (c.v K) = some b)
  | .excC x => He.eqO (PySem.W.findIn K (.ref (He.ga K x)) "__getattribute__") (some (some (.builtin "BaseException.__getattribute__"))) && (He.eqO (PySem.W.findIn K (.ref (He.ga K x)) "__getattr__") (some none) && (decide (PySem.W.subIn K (.ref (He.ga K x)) (.type "BaseException") = some true) &&
    (PySem.W.hasDictIn K (He.ga K x) && (He.eqO (PySem.W.findIn K (.ref (He.ga K x)) "__class__") (some (some (.builtin "object.__class__"))) && (He.eqO (PySem.W.specialIn K (.builtin "object.__class__") "__get__") (some (some (.builtin "getset_descriptor.__get__"))) &&
    (decide (PySem.W.takesIn K (.builtin "object.__class__") = some true) && decide (PySem.W.mroIn K (He.ga K x) (.type "object") = some true)))))))
  | .xf x => xfB K (He.ga K x)
  | .oex x => oexB K (He.ga K x) && (He.eqO (PySem.W.findIn K (.ref (He.ga K x)) "__setattr__") (some (some (.builtin "object.__setattr__"))) && (decide (PySem.W.subIn K (.ref (He.ga K x)) (.type "BaseException") = some true) &&
    (decide (PySem.W.typeIn K (.ref (He.ga K x)) = some (.type "type")) && PySem.W.keepIn K (.ref (He.ga K x)))))
  | .xini x => He.eqO (PySem.W.findIn K (.ref (He.ga K x)) "__init__") (some (some (.ref (He.ma K (He.ga K x) "__init__")))) && decide (PySem.W.typeIn K (.ref (He.ma K (He.ga K x) "__init__")) = some (.type "function"))
section
variable {K : PySem.W.Frag} {x : Str}
open He in
theorem isi_ok (d : Cls K (He.ga K x)) (c : (Ga.isi x).ok K = true) : IsI K (He.ga K x) := by
  obtain ⟨c1, c⟩ := ba c
  obtain ⟨c2, c⟩ := ba c
  obtain ⟨c3, c4⟩ := ba c
  exact ⟨d, eqO_ok c1, eqO_ok c2, of_decide_eq_true c3, of_decide_eq_true c4⟩
theorem kit_ok {y : Cn} {b : Bool} (c : (Ga.kit x y b).ok K = true) : PySem.W.kitOne K (.ref (He.ga K x)) (y.v K) = some b := of_decide_eq_true c
theorem kitT_ok {y : Cn} (c : (Ga.kitT y).ok K = true) : ∀ T ∈ tyNs, PySem.W.kitOne K (.type T) (y.v K) = some false := fun T h => of_decide_eq_true (List.all_eq_true.mp c T h)
theorem exm_ok {y : Cn} {b : Bool} (c : (Ga.exm x y b).ok K = true) : PySem.W.exmOne K (.ref (He.ga K x)) (y.v K) = some b := of_decide_eq_true c
open He in
theorem excC_ok (c : (Ga.excC x).ok K = true) : ExcC K (He.ga K x) := by
  obtain ⟨c1, c⟩ := ba c
  obtain ⟨c2, c⟩ := ba c
  obtain ⟨c3, c⟩ := ba c
  obtain ⟨c4, c⟩ := ba c
  obtain ⟨c5, c⟩ := ba c
  obtain ⟨c6, c⟩ := ba c
  obtain ⟨c7, c8⟩ := ba c
  exact ⟨eqO_ok c1, eqO_ok c2, of_decide_eq_true c3, c4, eqO_ok c5, eqO_ok c6, of_decide_eq_true c7, of_decide_eq_true c8⟩
theorem xf_ok (c : (Ga.xf x).ok K = true) : XfC K (He.ga K x) := xfB_ok c
theorem oexB_ok {C : Addr} (q : oexB K C = true) : ∃ nm q N bs bm sn sub ab col dd k0 k1 k2 k3 k5, K.lookup C = some (excClassObj nm q C N bs bm true sn sub ab col dd k0 k1 k2 k3 k5 "ValueError.__new__") ∧ PySem.HandSPX.refsVE bm = true := by
  unfold oexB at q
  split at q
  · rename_i dd cd sl ho
    split at q
    · rename_i C' bm k0 k1 k2 k3 n k5 hm hs
      simp only [Bool.and_eq_true, beq_iff_eq, Bool.not_eq_true'] at q
      obtain ⟨rfl, rfl, hdel, hdict, ht⟩ := q
      obtain ⟨nm, bs, mro, ns, qn, hd, sn, sub, ab, col, del⟩ := cd
      dsimp only at hm hdel hdict
      subst hm hdel hdict
      have hsl : sl = #[k0, k1, k2, k3, some (.builtin "ValueError.__new__"), k5] := by
        obtain ⟨l⟩ := sl
        simp only at hs
        rw [hs]
      subst hsl
      exact ⟨nm, qn, ns, bs, bm, sn, sub, ab, col, dd, k0, k1, k2, k3, k5, ho, ht⟩
    · cases q
  · cases q
open He in
theorem oex_ok (c : (Ga.oex x).ok K = true) : OexC K (He.ga K x) := by
  obtain ⟨c1, c⟩ := ba c
  obtain ⟨c2, c⟩ := ba c
  obtain ⟨c3, c⟩ := ba c
  obtain ⟨c4, c5⟩ := ba c
  exact ⟨oexB_ok c1, eqO_ok c2, of_decide_eq_true c3, of_decide_eq_true c4, c5⟩
open He in
theorem xini_ok (c : (Ga.xini x).ok K = true) : PySem.W.findIn K (.ref (He.ga K x)) "__init__" = some (some (.ref (He.ma K (He.ga K x) "__init__"))) ∧ PySem.W.typeIn K (.ref (He.ma K (He.ga K x) "__init__")) = some (.type "function") := by
  obtain ⟨c1, c2⟩ := ba c
  exact ⟨eqO_ok c1, of_decide_eq_true c2⟩
end
theorem lookMem2 {α β : Type} [BEq α] [LawfulBEq α] {l : List (α × β)} {a : α} {f : β} (h : l.lookup a = some f) : (a, f) ∈ l := by
  induction l with
  | nil => cases h
  | cons p r ih =>
    obtain ⟨x, y⟩ := p
    rw [List.lookup_cons] at h
    split at h
    · rename_i e
      rw [eq_of_beq e, Option.some.inj h]; simp
    · exact List.mem_cons_of_mem _ (ih h)
theorem exB_mem {g : GX} {c f : String} (h : g.exB c f = true) : ∃ ns, (c, ns) ∈ g.exa ∧ f ∈ ns := by
  unfold GX.exB at h
  split at h
  · rename_i ns e
    exact ⟨ns, lookMem2 e, List.contains_iff_mem.mp h⟩
  · cases h
/-! ### the Hook -/
abbrev AlY : Type := He.AlD × Bool
def obsY (fa : List He.Fa) (fn : List He.DefD) (gs : List Ga) (K : PySem.W.Frag) : AlY := (He.obsD fa fn K, gs.all fun f => f.ok K)
def valY (fn : List He.DefD) : AlY := (He.valD fn, true)
def SaysY (fa : List He.Fa) (fn : List He.DefD) (gs : List Ga) (K : PySem.W.Frag) : Prop := obsY fa fn gs K = valY fn
def obsYG (n : Nat) (fa : List He.Fa) (fn : List He.DefD) (gs : List Ga) (g : Addr → Option Obj) : AlY := obsY fa fn gs (He.frG g (He.asD g n))
def hookY (n : Nat) (fa : List He.Fa) (fn : List He.DefD) (gs : List Ga) : PySem.W.Hook where
  α := AlY
  obs := fun s => obsYG n fa fn gs s.heap.get?
  val := fun _ => valY fn
  says := fun _ h => ∃ K : PySem.W.Frag, K.In h ∧ SaysY fa fn gs K
  of := fun _ _ e => ⟨_, He.frG_in, e⟩
  keeps := fun _ _ _ ⟨K, hK, c⟩ k => ⟨K, PySem.W.Frag.In.keeps hK k, c⟩
theorem obsYG_eq {n : Nat} {fa : List He.Fa} {fn : List He.DefD} {gs : List Ga} {g : Addr → Option Obj} {s : Shared} (h : ∀ a, g a = s.heap.get? a) : obsYG n fa fn gs g = (hookY n fa fn gs).obs s := by
  have e : g = s.heap.get? := funext h
  rw [e] <;> rfl
section
variable {fa : List He.Fa} {fn : List He.DefD} {gs : List Ga} {K : PySem.W.Frag}
theorem SaysY.d (c : SaysY fa fn gs K) : He.SaysD fa fn K := congrArg (fun z : AlY => z.1) c
theorem SaysY.fact (c : SaysY fa fn gs K) (i : Nat) {f : He.Fa} (h : fa[i]? = some f := by rfl) : f.ok K = true := c.d.fact i h
theorem SaysY.def_ (c : SaysY fa fn gs K) (i : Nat) {d : He.DefD} (h : fn[i]? = some d := by rfl) : ∃ fd, FunD K d.name d.qual d.params d.body d.scope (d.dvs K) (d.kws K) (He.fAd K d.at_) fd := c.d.def_ i h
theorem SaysY.more (c : SaysY fa fn gs K) (i : Nat) {f : Ga} (h : gs[i]? = some f := by rfl) : f.ok K = true := by
  have e : (gs.all fun f => f.ok K) = true := congrArg (fun z : AlY => z.2) c
  exact List.all_eq_true.mp e f (List.mem_of_getElem? h)
end
end Z

set_option Elab.async false
set_option linter.all false
set_option maxRecDepth 100000
set_option maxHeartbeats 4000000
/-! Zp: the interpreter step by step, for plain proofs: each bind has a name and one equation. -/
namespace Z
theorem gt_z (o : Option W) (l : Env) : gt (o :: l) 0 = o := rfl
theorem gt_s (o : Option W) (l : Env) (n : Nat) : gt (o :: l) (n + 1) = gt l n := rfl
theorem st_z (o w : Option W) (l : Env) : st (o :: l) 0 w = w :: l := rfl
theorem st_s (o w : Option W) (l : Env) (n : Nat) : st (o :: l) (n + 1) w = o :: st l n w := rfl
theorem mkD_v (v : DV) : (mkD v).v = v := rfl
theorem mkD_o (v : DV) : (mkD v).o = oOf v := rfl
theorem mkD_r (v : DV) : (mkD v).r = rOf v := rfl
theorem mkD_t (v : DV) : (mkD v).t = tOf (oOf v) := rfl
theorem mkT_v (v : DV) (t) : (mkT v t).v = v := rfl
theorem mkT_o (v : DV) (t) : (mkT v t).o = oOf v := rfl
theorem mkT_r (v : DV) (t) : (mkT v t).r = rOf v := rfl
theorem mkT_t (v : DV) (t) : (mkT v t).t = t := rfl
theorem dC_e (d : D) (ρ : Env) : dC d ρ = .ok (.sh d, ρ) := rfl
def kO (r : R (W × Env)) : R (Opd × Env) := r.bind fun x => .ok (.v x.1.frz, x.2)
theorem oOf_e (v : DV) (ρ : Env) : oOf v ρ = kO (v ρ) := rfl
theorem kO_ok (w : W) (ρ : Env) : kO (.ok (w, ρ)) = .ok (.v w.frz, ρ) := rfl
def kR (r : R (W × Env)) : R (Arg × Env) := r.bind fun x => .ok (.v x.1.frz, x.2)
theorem rOf_e (v : DV) (ρ : Env) : rOf v ρ = kR (v ρ) := rfl
theorem kR_ok (w : W) (ρ : Env) : kR (.ok (w, ρ)) = .ok (.v w.frz, ρ) := rfl
def kT2 (r : Option Bool) (ρ : Env) : R (Bool × Env) := (ofO r).bind fun b => .ok (b, ρ)
theorem kT2_ok (b : Bool) (ρ : Env) : kT2 (some b) ρ = .ok (b, ρ) := rfl
def kT1 (r : R D) (ρ : Env) : R (Bool × Env) := r.bind fun d => kT2 (truD d) ρ
theorem kT1_ok (d : D) (ρ : Env) : kT1 (.ok d) ρ = kT2 (truD d) ρ := rfl
def kT (r : R (Opd × Env)) : R (Bool × Env) := r.bind fun x => kT1 (look x.2 x.1) x.2
theorem tOf_e (o) (ρ : Env) : tOf o ρ = kT (o ρ) := rfl
theorem kT_ok (o : Opd) (ρ : Env) : kT (.ok (o, ρ)) = kT1 (look ρ o) ρ := rfl
def kVar : Option W → Nat → Env → R (W × Env)
  | some (.sh d), _, ρ => .ok (.sh d, ρ)
  | some (.xc _ _), _, _ => .bad
  | some w, i, ρ => .ok (.sh w.frz, st ρ i (some (.sh w.frz)))
  | none, _, _ => .bad
theorem evVar_e (i : Nat) (ρ : Env) : evVar i ρ = kVar (gt ρ i) i ρ := by
  cases h : gt ρ i with
  | none => simp [evVar, kVar, h]
  | some w => cases w <;> simp [evVar, kVar, h]
theorem kVar_sh (d : D) (i : Nat) (ρ : Env) : kVar (some (.sh d)) i ρ = .ok (.sh d, ρ) := rfl
theorem kVar_ol (l : List D) (i : Nat) (ρ : Env) : kVar (some (.ol l)) i ρ = .ok (.sh (.lst l), st ρ i (some (.sh (.lst l)))) := rfl
theorem kVar_od (t : Bool) (l) (i : Nat) (ρ : Env) : kVar (some (.od t l)) i ρ = .ok (.sh (.dic t l), st ρ i (some (.sh (.dic t l)))) := rfl
def kOpd : Option W → Nat → Env → R (Opd × Env)
  | some (.sh d), _, ρ => .ok (.v d, ρ)
  | some (.ol _), i, ρ => .ok (.p i, ρ)
  | some (.od _ _), i, ρ => .ok (.p i, ρ)
  | _, _, _ => .bad
theorem opdV_e (i : Nat) (ρ : Env) : opdV i ρ = kOpd (gt ρ i) i ρ := by
  cases h : gt ρ i with
  | none => simp [opdV, kOpd, h]
  | some w => cases w <;> simp [opdV, kOpd, h]
theorem kOpd_sh (d : D) (i : Nat) (ρ : Env) : kOpd (some (.sh d)) i ρ = .ok (.v d, ρ) := rfl
theorem kOpd_ol (l : List D) (i : Nat) (ρ : Env) : kOpd (some (.ol l)) i ρ = .ok (.p i, ρ) := rfl
theorem kOpd_od (t : Bool) (l) (i : Nat) (ρ : Env) : kOpd (some (.od t l)) i ρ = .ok (.p i, ρ) := rfl
def kArg : Option W → Nat → Env → R (Arg × Env)
  | some (.sh d), _, ρ => .ok (.v d, ρ)
  | some (.xc _ _), _, _ => .bad
  | some _, i, ρ => .ok (.r i, ρ)
  | none, _, _ => .bad
theorem argV_e (i : Nat) (ρ : Env) : argV i ρ = kArg (gt ρ i) i ρ := by
  cases h : gt ρ i with
  | none => simp [argV, kArg, h]
  | some w => cases w <;> simp [argV, kArg, h]
theorem kArg_sh (d : D) (i : Nat) (ρ : Env) : kArg (some (.sh d)) i ρ = .ok (.v d, ρ) := rfl
theorem kArg_ol (l : List D) (i : Nat) (ρ : Env) : kArg (some (.ol l)) i ρ = .ok (.r i, ρ) := rfl
theorem kArg_od (t : Bool) (l) (i : Nat) (ρ : Env) : kArg (some (.od t l)) i ρ = .ok (.r i, ρ) := rfl
def kLook : Option W → R D
  | some (.sh d) => .ok d
  | some (.ol l) => .ok (.lst l)
  | some (.od t l) => .ok (.dic t l)
  | _ => .bad
theorem look_v (ρ : Env) (d : D) : look ρ (.v d) = .ok d := rfl
theorem look_p (ρ : Env) (i : Nat) : look ρ (.p i) = kLook (gt ρ i) := by
  cases h : gt ρ i with
  | none => simp [look, kLook, h]
  | some w => cases w <;> simp [look, kLook, h]
theorem kLook_sh (d : D) : kLook (some (.sh d)) = .ok d := rfl
theorem kLook_ol (l : List D) : kLook (some (.ol l)) = .ok (.lst l) := rfl
theorem kLook_od (t : Bool) (l) : kLook (some (.od t l)) = .ok (.dic t l) := rfl
def kW (r : R W) (ρ : Env) : R (W × Env) := r.bind fun w => .ok (w, ρ)
theorem kW_ok (w : W) (ρ : Env) : kW (.ok w) ρ = .ok (w, ρ) := rfl
def kOp3 (a b : R D) (f : D → D → R W) (ρ : Env) : R (W × Env) := a.bind fun p => b.bind fun q => kW (f p q) ρ
theorem kOp3_ok (p q : D) (f) (ρ : Env) : kOp3 (.ok p) (.ok q) f ρ = kW (f p q) ρ := rfl
def kOp2 (x : Opd) (r : R (Opd × Env)) (f : D → D → R W) : R (W × Env) := r.bind fun y => kOp3 (look y.2 x) (look y.2 y.1) f y.2
theorem kOp2_ok (x y : Opd) (ρ : Env) (f) : kOp2 x (.ok (y, ρ)) f = kOp3 (look ρ x) (look ρ y) f ρ := rfl
def kOp1 (r : R (Opd × Env)) (f : D → D → R W) (b : Dn) : R (W × Env) := r.bind fun x => kOp2 x.1 (b.o x.2) f
theorem dOp_e (f) (a b : Dn) (ρ : Env) : dOp f a b ρ = kOp1 (a.o ρ) f b := rfl
theorem kOp1_ok (x : Opd) (ρ : Env) (f) (b : Dn) : kOp1 (.ok (x, ρ)) f b = kOp2 x (b.o ρ) f := rfl
/-! ### operations -/
theorem add_ii (i j : Int) : binO .add (.int i) (.int j) = .ok (.sh (.int (i + j))) := rfl
theorem add_ll (a b : List D) : binO .add (.lst a) (.lst b) = if a.length + b.length ≤ line then .ok (.ol (a ++ b)) else .bad := rfl
theorem add_tt (a b : List D) : binO .add (.tup a) (.tup b) = if a.length + b.length ≤ line then .ok (.sh (.tup (a ++ b))) else .bad := rfl
theorem sub_ii (i j : Int) : binO .sub (.int i) (.int j) = .ok (.sh (.int (i - j))) := rfl
theorem mul_ii (i j : Int) : binO .mul (.int i) (.int j) = if mulOk i j then .ok (.sh (.int (i * j))) else .bad := rfl
theorem mul_li (l : List D) (k : Int) : binO .mul (.lst l) (.int k) = if -(2 ^ 63) ≤ k ∧ k < 2 ^ 63 ∧ l.length * k.toNat ≤ line then .ok (.ol (List.replicate k.toNat l).flatten) else .bad := rfl
theorem mul_ti (l : List D) (k : Int) : binO .mul (.tup l) (.int k) = if l.isEmpty = false ∧ 1 ≤ k ∧ k ≤ 1000 ∧ l.length ≤ 1000 then .ok (.sh (.tup (List.replicate k.toNat l).flatten)) else .bad := rfl
theorem fdiv_ii (i j : Int) : binO .fdiv (.int i) (.int j) = if 0 < j ∧ j < 1073741824 then .ok (.sh (.int (i / j))) else .bad := rfl
theorem mod_ii (i j : Int) : binO .mod (.int i) (.int j) = if 0 < j then .ok (.sh (.int (i % j))) else .bad := rfl
theorem pow_ii (i j : Int) : binO .pow (.int i) (.int j) = if 0 ≤ j ∧ j ≤ 1000000 ∧ i.natAbs < 2 ^ 64 then .ok (.sh (.int (i ^ j.toNat))) else .bad := rfl
def kB (o : Option Bool) : R W := (ofO o).bind fun b => .ok (.sh (.bl b))
theorem lt_ii (i j : Int) : cmpO .lt (.int i) (.int j) = .ok (.sh (.bl (decide (i < j)))) := rfl
theorem lt_tt (a b : List D) : cmpO .lt (.tup a) (.tup b) = kB (ltO (.tup a) (.tup b)) := rfl
theorem gt_tt (a b : List D) : cmpO .gt (.tup a) (.tup b) = kB (ltO (.tup b) (.tup a)) := rfl
theorem lt_ss (a b : PySem.Str) : cmpO .lt (.str a) (.str b) = kB (ltO (.str a) (.str b)) := rfl
theorem le_ii (i j : Int) : cmpO .le (.int i) (.int j) = .ok (.sh (.bl (decide (i ≤ j)))) := rfl
theorem gt_ii (i j : Int) : cmpO .gt (.int i) (.int j) = .ok (.sh (.bl (decide (j < i)))) := rfl
theorem ge_ii (i j : Int) : cmpO .ge (.int i) (.int j) = .ok (.sh (.bl (decide (j ≤ i)))) := rfl
theorem kB_ok (b : Bool) : kB (some b) = .ok (.sh (.bl b)) := rfl
def kBn (o : Option Bool) : R W := (ofO o).bind fun b => .ok (.sh (.bl !b))
theorem kBn_ok (b : Bool) : kBn (some b) = .ok (.sh (.bl !b)) := rfl
theorem eq_e (x y : D) : cmpO .eq x y = kB (eqO x y) := by cases x <;> cases y <;> rfl
theorem ne_e (x y : D) : cmpO .ne x y = kBn (eqO x y) := by cases x <;> cases y <;> rfl
theorem in_l (x : D) (l : List D) : cmpO .isin x (.lst l) = kB (inO x l) := by cases x <;> rfl
theorem in_t (x : D) (l : List D) : cmpO .isin x (.tup l) = kB (inO x l) := by cases x <;> rfl
theorem nin_l (x : D) (l : List D) : cmpO .notin x (.lst l) = kBn (inO x l) := by cases x <;> rfl
theorem nin_t (x : D) (l : List D) : cmpO .notin x (.tup l) = kBn (inO x l) := by cases x <;> rfl
theorem is_bb (a b : Bool) : cmpO .is_ (.bl a) (.bl b) = .ok (.sh (.bl (decide (a = b)))) := rfl
theorem isnot_bb (a b : Bool) : cmpO .isnot (.bl a) (.bl b) = .ok (.sh (.bl (!decide (a = b)))) := rfl
theorem is_n (x : D) : cmpO .is_ x .non = .ok (.sh (.bl (isNon x))) := by cases x <;> rfl
theorem isnot_n (x : D) : cmpO .isnot x .non = .ok (.sh (.bl (!isNon x))) := by cases x <;> rfl
def kD (o : Option D) : R W := (ofO o).bind fun d => .ok (.sh d)
theorem kD_ok (d : D) : kD (some d) = .ok (.sh d) := rfl
theorem ix_l (l : List D) (i : Int) : ixO (.lst l) (.int i) = kD (getL l i) := rfl
theorem ix_t (l : List D) (i : Int) : ixO (.tup l) (.int i) = kD (getL l i) := rfl
theorem getL_nat {α : Type} (l : List α) (k : Nat) : getL l (k : Int) = l[k]? := by
  unfold getL ixI
  by_cases h : k < l.length
  · simp [h]
  · simp [h, List.getElem?_eq_none (Nat.le_of_not_lt h)]
theorem setL_nat {α : Type} (l : List α) (k : Nat) (a : α) (h : k < l.length) : setL l (k : Int) a = some (l.set k a) := by
  unfold setL ixI
  simp [h]
theorem tru_bl (b : Bool) : truD (.bl b) = some b := rfl
theorem tru_int (i : Int) : truD (.int i) = some (i != 0) := rfl
theorem tru_l (l : List D) : truD (.lst l) = some !l.isEmpty := rfl
theorem tru_t (l : List D) : truD (.tup l) = some !l.isEmpty := rfl
theorem tru_n : truD .non = some false := rfl
theorem len_l (l : List D) : biO .len [.lst l] = .ok (.sh (.int l.length)) := rfl
theorem len_t (l : List D) : biO .len [.tup l] = .ok (.sh (.int l.length)) := rfl
theorem abs_i (i : Int) : biO .abs [.int i] = .ok (.sh (.int (if i < 0 then -i else i))) := rfl
theorem int_i (i : Int) : biO .int [.int i] = .ok (.sh (.int i)) := rfl
theorem int_b (b : Bool) : biO .int [.bl b] = .ok (.sh (.int (if b then 1 else 0))) := rfl
theorem tuple_l (l : List D) : biO .tuple [.lst l] = .ok (.sh (.tup l)) := rfl
theorem tuple_t (l : List D) : biO .tuple [.tup l] = .ok (.sh (.tup l)) := rfl
theorem list_l (l : List D) : biO .list [.lst l] = .ok (.ol l) := rfl
theorem list_t (l : List D) : biO .list [.tup l] = .ok (.ol l) := rfl
theorem max2_ii (i j : Int) : biO .max2 [.int i, .int j] = .ok (.sh (.int (if j > i then j else i))) := rfl
theorem min2_ii (i j : Int) : biO .min2 [.int i, .int j] = .ok (.sh (.int (if j < i then j else i))) := rfl
def kI (o : Option (List Int)) : R W := (ofO o).bind fun ns => .ok (.sh (.int ns.sum))
theorem kI_ok (ns : List Int) : kI (some ns) = .ok (.sh (.int ns.sum)) := rfl
theorem sum_l (l : List D) : biO .sum [.lst l] = kI (intsOf l) := rfl
theorem sum_t (l : List D) : biO .sum [.tup l] = kI (intsOf l) := rfl
theorem intsOf_map (ns : List Int) : intsOf (ns.map D.int) = some ns := by
  induction ns with
  | nil => rfl
  | cons a l ih => simp [intsOf, ih]
def kRp (o : Option PySem.Str) : R W := (ofO o).bind fun x => .ok (.sh (.str x))
theorem repr_e (d : D) : biO .repr [d] = kRp (reprO d) := by cases d <;> rfl
/-! ### lists of expressions -/
def kVs2 (d : D) (r : R (List D × Env)) : R (List D × Env) := r.bind fun y => .ok (d :: y.1, y.2)
theorem kVs2_ok (d : D) (l : List D) (ρ : Env) : kVs2 d (.ok (l, ρ)) = .ok (d :: l, ρ) := rfl
def kVs (r : R (W × Env)) (l : List Dn) : R (List D × Env) := r.bind fun x => kVs2 x.1.frz (dVs l x.2)
theorem dVs_n (ρ : Env) : dVs [] ρ = .ok ([], ρ) := rfl
theorem dVs_c (a : Dn) (l : List Dn) (ρ : Env) : dVs (a :: l) ρ = kVs (a.v ρ) l := rfl
theorem kVs_ok (w : W) (ρ : Env) (l : List Dn) : kVs (.ok (w, ρ)) l = kVs2 w.frz (dVs l ρ) := rfl
def kOs2 (d : Opd) (r : R (List Opd × Env)) : R (List Opd × Env) := r.bind fun y => .ok (d :: y.1, y.2)
theorem kOs2_ok (d : Opd) (l : List Opd) (ρ : Env) : kOs2 d (.ok (l, ρ)) = .ok (d :: l, ρ) := rfl
def kOs (r : R (Opd × Env)) (l : List Dn) : R (List Opd × Env) := r.bind fun x => kOs2 x.1 (dOs l x.2)
theorem dOs_n (ρ : Env) : dOs [] ρ = .ok ([], ρ) := rfl
theorem dOs_c (a : Dn) (l : List Dn) (ρ : Env) : dOs (a :: l) ρ = kOs (a.o ρ) l := rfl
theorem kOs_ok (w : Opd) (ρ : Env) (l : List Dn) : kOs (.ok (w, ρ)) l = kOs2 w (dOs l ρ) := rfl
def kAs2 (d : Arg) (r : R (List Arg × Env)) : R (List Arg × Env) := r.bind fun y => .ok (d :: y.1, y.2)
theorem kAs2_ok (d : Arg) (l : List Arg) (ρ : Env) : kAs2 d (.ok (l, ρ)) = .ok (d :: l, ρ) := rfl
def kAs (r : R (Arg × Env)) (l : List Dn) (bs : List Bool) : R (List Arg × Env) := r.bind fun x => kAs2 x.1 (dAs l bs x.2)
theorem dAs_n (bs : List Bool) (ρ : Env) : dAs [] bs ρ = .ok ([], ρ) := rfl
theorem dAs_t (a : Dn) (l : List Dn) (bs : List Bool) (ρ : Env) : dAs (a :: l) (true :: bs) ρ = kAs (a.r ρ) l bs := rfl
theorem dAs_f (a : Dn) (l : List Dn) (bs : List Bool) (ρ : Env) : dAs (a :: l) (false :: bs) ρ = kAs (rOf a.v ρ) l bs := rfl
theorem kAs_ok (w : Arg) (ρ : Env) (l : List Dn) (bs) : kAs (.ok (w, ρ)) l bs = kAs2 w (dAs l bs ρ) := rfl
def kTup (r : R (List D × Env)) : R (W × Env) := r.bind fun x => if x.1.length ≤ line then .ok (.sh (.tup x.1), x.2) else .bad
theorem dTup_e (l : List Dn) (ρ : Env) : dTup l ρ = kTup (dVs l ρ) := rfl
theorem kTup_ok (l : List D) (ρ : Env) : kTup (.ok (l, ρ)) = if l.length ≤ line then .ok (.sh (.tup l), ρ) else .bad := rfl
def kLst (r : R (List D × Env)) : R (W × Env) := r.bind fun x => if x.1.length ≤ line then .ok (.ol x.1, x.2) else .bad
theorem dLst_e (l : List Dn) (ρ : Env) : dLst l ρ = kLst (dVs l ρ) := rfl
theorem kLst_ok (l : List D) (ρ : Env) : kLst (.ok (l, ρ)) = if l.length ≤ line then .ok (.ol l, ρ) else .bad := rfl
def kNeg (r : R (W × Env)) : R (W × Env) := r.bind fun x => match x.1 with
  | .sh (.int i) => .ok (.sh (.int (-i)), x.2)
  | _ => .bad
theorem dNeg_e (a : Dn) (ρ : Env) : dNeg a ρ = kNeg (a.v ρ) := rfl
theorem kNeg_ok (i : Int) (ρ : Env) : kNeg (.ok (.sh (.int i), ρ)) = .ok (.sh (.int (-i)), ρ) := rfl
def kNot (r : R (Bool × Env)) : R (W × Env) := r.bind fun x => .ok (.sh (.bl !x.1), x.2)
theorem dNot_e (a : Dn) (ρ : Env) : dNot a ρ = kNot (tOf a.o ρ) := rfl
theorem kNot_ok (b : Bool) (ρ : Env) : kNot (.ok (b, ρ)) = .ok (.sh (.bl !b), ρ) := rfl
def kNotT (r : R (Bool × Env)) : R (Bool × Env) := r.bind fun x => .ok (!x.1, x.2)
theorem dNotT_e (a : Dn) (ρ : Env) : dNotT a ρ = kNotT (a.t ρ) := rfl
theorem kNotT_ok (b : Bool) (ρ : Env) : kNotT (.ok (b, ρ)) = .ok (!b, ρ) := rfl
def kAnd (r : R (W × Env)) (l : List Dn) : R (W × Env) := r.bind fun x => match x.1 with
  | .sh (.bl true) => dAnd l x.2
  | .sh (.bl false) => .ok (.sh (.bl false), x.2)
  | _ => .bad
theorem dAnd_1 (a : Dn) (ρ : Env) : dAnd [a] ρ = a.v ρ := rfl
theorem dAnd_c (a b : Dn) (l : List Dn) (ρ : Env) : dAnd (a :: b :: l) ρ = kAnd (a.v ρ) (b :: l) := rfl
theorem kAnd_t (ρ : Env) (l : List Dn) : kAnd (.ok (.sh (.bl true), ρ)) l = dAnd l ρ := rfl
theorem kAnd_f (ρ : Env) (l : List Dn) : kAnd (.ok (.sh (.bl false), ρ)) l = .ok (.sh (.bl false), ρ) := rfl
def kOr (r : R (W × Env)) (l : List Dn) : R (W × Env) := r.bind fun x => match x.1 with
  | .sh (.bl false) => dOr l x.2
  | .sh (.bl true) => .ok (.sh (.bl true), x.2)
  | _ => .bad
theorem dOr_1 (a : Dn) (ρ : Env) : dOr [a] ρ = a.v ρ := rfl
theorem dOr_c (a b : Dn) (l : List Dn) (ρ : Env) : dOr (a :: b :: l) ρ = kOr (a.v ρ) (b :: l) := rfl
theorem kOr_f (ρ : Env) (l : List Dn) : kOr (.ok (.sh (.bl false), ρ)) l = dOr l ρ := rfl
theorem kOr_t (ρ : Env) (l : List Dn) : kOr (.ok (.sh (.bl true), ρ)) l = .ok (.sh (.bl true), ρ) := rfl
def kAndT (r : R (Bool × Env)) (l : List Dn) : R (Bool × Env) := r.bind fun x => match x.1 with
  | true => dAndT l x.2
  | false => .ok (false, x.2)
theorem dAndT_n (ρ : Env) : dAndT [] ρ = .ok (true, ρ) := rfl
theorem dAndT_c (a : Dn) (l : List Dn) (ρ : Env) : dAndT (a :: l) ρ = kAndT (a.t ρ) l := rfl
theorem kAndT_t (ρ : Env) (l : List Dn) : kAndT (.ok (true, ρ)) l = dAndT l ρ := rfl
theorem kAndT_f (ρ : Env) (l : List Dn) : kAndT (.ok (false, ρ)) l = .ok (false, ρ) := rfl
def kOrT (r : R (Bool × Env)) (l : List Dn) : R (Bool × Env) := r.bind fun x => match x.1 with
  | true => .ok (true, x.2)
  | false => dOrT l x.2
theorem dOrT_n (ρ : Env) : dOrT [] ρ = .ok (false, ρ) := rfl
theorem dOrT_c (a : Dn) (l : List Dn) (ρ : Env) : dOrT (a :: l) ρ = kOrT (a.t ρ) l := rfl
theorem kOrT_t (ρ : Env) (l : List Dn) : kOrT (.ok (true, ρ)) l = .ok (true, ρ) := rfl
theorem kOrT_f (ρ : Env) (l : List Dn) : kOrT (.ok (false, ρ)) l = dOrT l ρ := rfl
def kIte (r : R (Bool × Env)) (a b : Dn) : R (W × Env) := r.bind fun x => match x.1 with
  | true => a.v x.2
  | false => b.v x.2
theorem dIte_e (t a b : Dn) (ρ : Env) : dIte t a b ρ = kIte (t.t ρ) a b := rfl
theorem kIte_t (ρ : Env) (a b : Dn) : kIte (.ok (true, ρ)) a b = a.v ρ := rfl
theorem kIte_f (ρ : Env) (a b : Dn) : kIte (.ok (false, ρ)) a b = b.v ρ := rfl
theorem looks_n (ρ : Env) : looks ρ [] = .ok [] := rfl
def kLs2 (d : D) (r : R (List D)) : R (List D) := r.bind fun ds => .ok (d :: ds)
theorem kLs2_ok (d : D) (l : List D) : kLs2 d (.ok l) = .ok (d :: l) := rfl
def kLs (r : R D) (ρ : Env) (l : List Opd) : R (List D) := r.bind fun d => kLs2 d (looks ρ l)
theorem looks_c (ρ : Env) (o : Opd) (l : List Opd) : looks ρ (o :: l) = kLs (look ρ o) ρ l := rfl
theorem kLs_ok (d : D) (ρ : Env) (l : List Opd) : kLs (.ok d) ρ l = kLs2 d (looks ρ l) := rfl
def kBi2 (r : R (List D)) (b : Bi) (ρ : Env) : R (W × Env) := r.bind fun ds => kW (biO b ds) ρ
theorem kBi2_ok (ds : List D) (b : Bi) (ρ : Env) : kBi2 (.ok ds) b ρ = kW (biO b ds) ρ := rfl
def kBi (r : R (List Opd × Env)) (b : Bi) : R (W × Env) := r.bind fun x => kBi2 (looks x.2 x.1) b x.2
theorem dBi_e (b : Bi) (l : List Dn) (ρ : Env) : dBi b l ρ = kBi (dOs l ρ) b := rfl
theorem kBi_ok (l : List Opd) (ρ : Env) (b : Bi) : kBi (.ok (l, ρ)) b = kBi2 (looks ρ l) b ρ := rfl
/-! ### calls -/
def kC2 (r : RF) (as : List Arg) (ρ : Env) : R (W × Env) := match r with
  | .ok w os => .ok (w, back ρ as os)
  | .ex c fs => if refsOf as = [] then .ex c fs ρ else .bad
  | .bad => .bad
theorem kC2_ok (w : W) (os : List W) (as : List Arg) (ρ : Env) : kC2 (.ok w os) as ρ = .ok (w, back ρ as os) := rfl
def kC1 (b : Bool) (r : R (List W)) (k : Cl) (f : String) (as : List Arg) (ρ : Env) : R (W × Env) := match b with
  | true => r.bind fun ws => kC2 (k.c f ws) as ρ
  | false => .bad
theorem kC1_ok (ws : List W) (k : Cl) (f : String) (as : List Arg) (ρ : Env) : kC1 true (.ok ws) k f as ρ = kC2 (k.c f ws) as ρ := rfl
theorem callO_e (k : Cl) (f : String) (as : List Arg) (ρ : Env) : callO k f as ρ = kC1 (decide (refsOf as).Nodup) (argW ρ as) k f as ρ := by
  unfold callO kC1
  by_cases h : (refsOf as).Nodup
  · rw [if_pos h, decide_eq_true h]
    cases argW ρ as with
    | ok ws => show (match k.c f ws with | .ok w os => _ | .ex c fs => _ | .bad => _) = kC2 _ _ _; cases k.c f ws <;> rfl
    | _ => rfl
  · rw [if_neg h, decide_eq_false h]
def kCall (r : R (List Arg × Env)) (k : Cl) (f : String) : R (W × Env) := r.bind fun x => callO k f x.1 x.2
theorem dCall_e (k : Cl) (f : String) (l : List Dn) (ρ : Env) : dCall k f l ρ = kCall (dAs l (k.br f) ρ) k f := rfl
theorem kCall_ok (as : List Arg) (ρ : Env) (k : Cl) (f : String) : kCall (.ok (as, ρ)) k f = callO k f as ρ := rfl
def kAw2 (w : W) (r : R (List W)) : R (List W) := r.bind fun l => .ok (w :: l)
theorem kAw2_ok (w : W) (l : List W) : kAw2 w (.ok l) = .ok (w :: l) := rfl
theorem argW_n (ρ : Env) : argW ρ [] = .ok [] := rfl
theorem argW_v (ρ : Env) (d : D) (r : List Arg) : argW ρ (.v d :: r) = kAw2 (.sh d) (argW ρ r) := rfl
def kAw (o : Option W) (ρ : Env) (r : List Arg) : R (List W) := match o with
  | some w => kAw2 w (argW ρ r)
  | none => .bad
theorem argW_r (ρ : Env) (i : Nat) (r : List Arg) : argW ρ (.r i :: r) = kAw (gt ρ i) ρ r := by
  cases h : gt ρ i <;> simp [argW, kAw, kAw2, h]
theorem kAw_ok (w : W) (ρ : Env) (r : List Arg) : kAw (some w) ρ r = kAw2 w (argW ρ r) := rfl
theorem back_n (ρ : Env) (ws : List W) : back ρ [] ws = ρ := by unfold back; rfl
theorem back_v (ρ : Env) (d : D) (as : List Arg) (w : W) (ws : List W) : back ρ (.v d :: as) (w :: ws) = back ρ as ws := rfl
theorem back_r (ρ : Env) (i : Nat) (as : List Arg) (w : W) (ws : List W) : back ρ (.r i :: as) (w :: ws) = back (st ρ i (some w)) as ws := rfl
theorem refs_n : refsOf [] = [] := rfl
theorem refs_v (d : D) (r : List Arg) : refsOf (.v d :: r) = refsOf r := rfl
theorem refs_r (i : Nat) (r : List Arg) : refsOf (.r i :: r) = i :: refsOf r := rfl

/-! ### what is walked, comprehensions -/
def kIs2 (o : Option (List D)) (ρ : Env) : R (List D × Env) := (ofO o).bind fun l => .ok (l, ρ)
theorem kIs2_ok (l : List D) (ρ : Env) : kIs2 (some l) ρ = .ok (l, ρ) := rfl
def kIs (r : R (List D × Env)) (f : List D → Option (List D)) : R (List D × Env) := r.bind fun x => kIs2 (f x.1) x.2
theorem dIs_e (f) (l : List Dn) (ρ : Env) : dIs f l ρ = kIs (dVs l ρ) f := rfl
theorem kIs_ok (l : List D) (ρ : Env) (f) : kIs (.ok (l, ρ)) f = kIs2 (f l) ρ := rfl
def kIe (r : R (W × Env)) : R (List D × Env) := r.bind fun x => kIs2 (itemsO x.1.frz) x.2
theorem dIe_e (a : Dn) (ρ : Env) : dIe a ρ = kIe (a.v ρ) := rfl
theorem kIe_ok (w : W) (ρ : Env) : kIe (.ok (w, ρ)) = kIs2 (itemsO w.frz) ρ := rfl
theorem items_l (l : List D) : itemsO (.lst l) = some l := rfl
theorem items_t (l : List D) : itemsO (.tup l) = some l := rfl
def kComp2 (r : R (List D × Env)) (ρ : Env) (own : List Nat) : R (W × Env) := r.nox.bind fun y => .ok (.ol y.1, restE ρ y.2 own)
theorem kComp2_ok (l : List D) (ρ' ρ : Env) (own : List Nat) : kComp2 (.ok (l, ρ')) ρ own = .ok (.ol l, restE ρ ρ' own) := rfl
def kComp (r : R (List D × Env)) (e : Dn) (t : T) (cs : List Dn) (own : List Nat) : R (W × Env) := r.bind fun x => kComp2 (cmpL t own (dTurn cs e) x.1 (wipeE x.2 own)) x.2 own
theorem dComp_e (e : Dn) (t : T) (it) (cs : List Dn) (own : List Nat) (ρ : Env) : dComp e t it cs own ρ = kComp (it ρ) e t cs own := rfl
theorem kComp_ok (l : List D) (ρ : Env) (e : Dn) (t : T) (cs : List Dn) (own : List Nat) : kComp (.ok (l, ρ)) e t cs own = kComp2 (cmpL t own (dTurn cs e) l (wipeE ρ own)) ρ own := rfl

/-! ### statements -/
def kS (r : R (Fl × Env)) (k : Cl) (l : List S) : R (Fl × Env) := r.bind fun x => match x.1 with
  | .nx => execs k l x.2
  | fl => .ok (fl, x.2)
theorem execs_n (k : Cl) (ρ : Env) : execs k [] ρ = .ok (.nx, ρ) := rfl
theorem execs_c (k : Cl) (s : S) (l : List S) (ρ : Env) : execs k (s :: l) ρ = kS (exec k s ρ) k l := rfl
theorem kS_nx (ρ : Env) (k : Cl) (l : List S) : kS (.ok (.nx, ρ)) k l = execs k l ρ := rfl
theorem kS_rt (w : W) (ρ : Env) (k : Cl) (l : List S) : kS (.ok (.rt w, ρ)) k l = .ok (.rt w, ρ) := rfl
theorem kS_brk (ρ : Env) (k : Cl) (l : List S) : kS (.ok (.brk, ρ)) k l = .ok (.brk, ρ) := rfl
theorem kS_cnt (ρ : Env) (k : Cl) (l : List S) : kS (.ok (.cnt, ρ)) k l = .ok (.cnt, ρ) := rfl
def kAsgo (r : R (W × Env)) (i : Nat) : R (Fl × Env) := r.bind fun x => .ok (.nx, st x.2 i (some x.1))
theorem asgo_e (k : Cl) (i : Nat) (e : E) (ρ : Env) : exec k (.asgo i e) ρ = kAsgo ((den k e).v ρ) i := rfl
theorem kAsgo_ok (w : W) (ρ : Env) (i : Nat) : kAsgo (.ok (w, ρ)) i = .ok (.nx, st ρ i (some w)) := rfl
def kEx (r : R (W × Env)) : R (Fl × Env) := r.bind fun x => .ok (.nx, x.2)
theorem ex_e (k : Cl) (e : E) (ρ : Env) : exec k (.ex e) ρ = kEx ((den k e).v ρ) := rfl
theorem kEx_ok (w : W) (ρ : Env) : kEx (.ok (w, ρ)) = .ok (.nx, ρ) := rfl
def kRet (r : R (W × Env)) : R (Fl × Env) := r.bind fun x => .ok (.rt (.sh x.1.frz), x.2)
theorem ret_e (k : Cl) (e : E) (ρ : Env) : exec k (.ret e) ρ = kRet ((den k e).v ρ) := rfl
theorem kRet_ok (w : W) (ρ : Env) : kRet (.ok (w, ρ)) = .ok (.rt (.sh w.frz), ρ) := rfl
theorem retn_e (k : Cl) (ρ : Env) : exec k .retn ρ = .ok (.rt (.sh .non), ρ) := rfl
theorem cnt_e (k : Cl) (ρ : Env) : exec k .cnt ρ = .ok (.cnt, ρ) := rfl
theorem brk_e (k : Cl) (ρ : Env) : exec k .brk ρ = .ok (.brk, ρ) := rfl
theorem pass_e (k : Cl) (ρ : Env) : exec k .pass ρ = .ok (.nx, ρ) := rfl
def kIf (r : R (Bool × Env)) (k : Cl) (a b : List S) : R (Fl × Env) := r.bind fun x => match x.1 with
  | true => execs k a x.2
  | false => execs k b x.2
theorem ife_e (k : Cl) (t : E) (a b : List S) (ρ : Env) : exec k (.ife t a b) ρ = kIf ((den k t).t ρ) k a b := rfl
theorem kIf_t (ρ : Env) (k : Cl) (a b : List S) : kIf (.ok (true, ρ)) k a b = execs k a ρ := rfl
theorem kIf_f (ρ : Env) (k : Cl) (a b : List S) : kIf (.ok (false, ρ)) k a b = execs k b ρ := rfl
def kFor (r : R (List D × Env)) (k : Cl) (t : T) (b : List S) : R (Fl × Env) := r.bind fun x => forL t (execs k b) x.1 x.2
theorem for_e (k : Cl) (t : T) (it : I) (b : List S) (ρ : Env) : exec k (.for t it b) ρ = kFor (denI k it ρ) k t b := rfl
theorem kFor_ok (l : List D) (ρ : Env) (k : Cl) (t : T) (b : List S) : kFor (.ok (l, ρ)) k t b = forL t (execs k b) l ρ := rfl
def kApp2 (o : Option W) (d : D) (i : Nat) (ρ : Env) : R (Fl × Env) := match o with
  | some (.ol l) => if l.length < line then .ok (.nx, st ρ i (some (.ol (l ++ [d])))) else .bad
  | _ => .bad
theorem kApp2_ok (l : List D) (d : D) (i : Nat) (ρ : Env) : kApp2 (some (.ol l)) d i ρ = if l.length < line then .ok (.nx, st ρ i (some (.ol (l ++ [d])))) else .bad := rfl
def kApp1 (r : R (W × Env)) (i : Nat) : R (Fl × Env) := r.bind fun x => kApp2 (gt x.2 i) x.1.frz i x.2
theorem kApp1_ok (w : W) (ρ : Env) (i : Nat) : kApp1 (.ok (w, ρ)) i = kApp2 (gt ρ i) w.frz i ρ := rfl
def kApp (b : Bool) (i : Nat) (e : Dn) (ρ : Env) : R (Fl × Env) := match b with
  | true => kApp1 (e.v ρ) i
  | false => .bad
theorem kApp_t (i : Nat) (e : Dn) (ρ : Env) : kApp true i e ρ = kApp1 (e.v ρ) i := rfl
theorem app_e (k : Cl) (i : Nat) (e : E) (ρ : Env) : exec k (.app i e) ρ = kApp (isOl (gt ρ i)) i (den k e) ρ := by
  show (if isOl (gt ρ i) = true then _ else _) = _
  cases isOl (gt ρ i) with
  | false => rfl
  | true =>
    show ((den k e).v ρ).bind _ = kApp1 _ i
    cases (den k e).v ρ with
    | ok x =>
      show (match gt x.2 i with | some (.ol l) => _ | _ => _) = kApp2 _ _ _ _
      cases gt x.2 i with
      | none => rfl
      | some w => cases w <;> rfl
    | _ => rfl
theorem isOl_ol (l : List D) : isOl (some (.ol l)) = true := rfl
theorem isOwn_ol (l : List D) : isOwn (some (.ol l)) = true := rfl
theorem isOwn_od (t : Bool) (l) : isOwn (some (.od t l)) = true := rfl
def kSet2 (o : Option W) (q d : D) (i : Nat) (ρ : Env) : R (Fl × Env) := match o, q with
  | some (.ol l), .int n => (ofO (setL l n d)).bind fun l' => .ok (.nx, st ρ i (some (.ol l')))
  | some (.od t l), q => (ofO (keyD t q)).bind fun kk => if l.length < line then .ok (.nx, st ρ i (some (.od t (dput t kk q d l)))) else .bad
  | _, _ => .bad
def kSet3 (o : Option (List D)) (i : Nat) (ρ : Env) : R (Fl × Env) := (ofO o).bind fun l' => .ok (.nx, st ρ i (some (.ol l')))
theorem kSet3_ok (l : List D) (i : Nat) (ρ : Env) : kSet3 (some l) i ρ = .ok (.nx, st ρ i (some (.ol l))) := rfl
theorem kSet2_ol (l : List D) (n : Int) (d : D) (i : Nat) (ρ : Env) : kSet2 (some (.ol l)) (.int n) d i ρ = kSet3 (setL l n d) i ρ := rfl
def kSet1 (r : R (W × Env)) (d : D) (i : Nat) : R (Fl × Env) := r.bind fun y => kSet2 (gt y.2 i) y.1.frz d i y.2
theorem kSet1_ok (w : W) (ρ : Env) (d : D) (i : Nat) : kSet1 (.ok (w, ρ)) d i = kSet2 (gt ρ i) w.frz d i ρ := rfl
def kSet (r : R (W × Env)) (x : Dn) (i : Nat) : R (Fl × Env) := r.bind fun v => kSet1 (x.v v.2) v.1.frz i
theorem kSet_ok (w : W) (ρ : Env) (x : Dn) (i : Nat) : kSet (.ok (w, ρ)) x i = kSet1 (x.v ρ) w.frz i := rfl
def kSet0 (b : Bool) (x e : Dn) (i : Nat) (ρ : Env) : R (Fl × Env) := match b with
  | true => kSet (e.v ρ) x i
  | false => .bad
theorem kSet0_t (x e : Dn) (i : Nat) (ρ : Env) : kSet0 true x e i ρ = kSet (e.v ρ) x i := rfl
theorem seti_e (k : Cl) (i : Nat) (x e : E) (ρ : Env) : exec k (.seti i x e) ρ = kSet0 (isOwn (gt ρ i)) (den k x) (den k e) i ρ := by
  show (if isOwn (gt ρ i) = true then _ else _) = _
  cases isOwn (gt ρ i) <;> rfl
def kAug2 (r : R D) (i : Nat) (ρ : Env) : R (Fl × Env) := r.bind fun w => .ok (.nx, st ρ i (some (.sh w)))
theorem kAug2_ok (d : D) (i : Nat) (ρ : Env) : kAug2 (.ok d) i ρ = .ok (.nx, st ρ i (some (.sh d))) := rfl
def kAug1 (r : R (W × Env)) (i : Nat) (o : Bop) (d : D) : R (Fl × Env) := r.bind fun x => kAug2 (augO o d x.1.frz) i x.2
theorem kAug1_ok (w : W) (ρ : Env) (i : Nat) (o : Bop) (d : D) : kAug1 (.ok (w, ρ)) i o d = kAug2 (augO o d w.frz) i ρ := rfl
def kAug (g : Option W) (i : Nat) (o : Bop) (e : Dn) (ρ : Env) : R (Fl × Env) := match g with
  | some (.sh d) => kAug1 (e.v ρ) i o d
  | _ => .bad
theorem kAug_sh (d : D) (i : Nat) (o : Bop) (e : Dn) (ρ : Env) : kAug (some (.sh d)) i o e ρ = kAug1 (e.v ρ) i o d := rfl
theorem aug_e (k : Cl) (i : Nat) (o : Bop) (e : E) (ρ : Env) : exec k (.aug i o e) ρ = kAug (gt ρ i) i o (den k e) ρ := by
  show (match gt ρ i with | some (.sh d) => _ | _ => _) = _
  cases gt ρ i with
  | none => rfl
  | some w => cases w <;> rfl
theorem fgt_e (k : Cl) (l : List Nat) (ρ : Env) : exec k (.fgt l) ρ = .ok (.nx, wipeE ρ l) := rfl
theorem fgts_e (k : Cl) (l : List Nat) (r : List S) (ρ : Env) : execs k (.fgt l :: r) ρ = execs k r (wipeE ρ l) := rfl
theorem frz_e (k : Cl) (l : List Nat) (ρ : Env) : exec k (.frz l) ρ = .ok (.nx, frzE ρ l) := rfl
theorem frzs_e (k : Cl) (l : List Nat) (r : List S) (ρ : Env) : execs k (.frz l :: r) ρ = execs k r (frzE ρ l) := rfl
theorem frzE_n (ρ : Env) : frzE ρ [] = ρ := rfl
theorem frzE_c (ρ : Env) (i : Nat) (r : List Nat) : frzE ρ (i :: r) = frz1 (frzE ρ r) i := rfl
def kFz (o : Option W) (i : Nat) (ρ : Env) : Env := match o with
  | some w => st ρ i (some (frzW w))
  | none => ρ
theorem frz1_e (ρ : Env) (i : Nat) : frz1 ρ i = kFz (gt ρ i) i ρ := rfl
theorem kFz_s (w : W) (i : Nat) (ρ : Env) : kFz (some w) i ρ = st ρ i (some (frzW w)) := rfl
theorem kFz_n (i : Nat) (ρ : Env) : kFz none i ρ = ρ := rfl
theorem frzW_sh (d : D) : frzW (.sh d) = .sh d := rfl
theorem frzW_ol (l : List D) : frzW (.ol l) = .sh (.lst l) := rfl
theorem frzW_od (t : Bool) (l) : frzW (.od t l) = .sh (.dic t l) := rfl
theorem frzW_oi (c : String) (fs) : frzW (.oi c fs) = .sh (.ins c (frzF fs)) := rfl
theorem frzW_xc (c : String) (fs) : frzW (.xc c fs) = .xc c fs := rfl
theorem aug_add (i j : Int) : augO .add (.int i) (.int j) = .ok (.int (i + j)) := rfl
theorem aug_sub (i j : Int) : augO .sub (.int i) (.int j) = .ok (.int (i - j)) := rfl
/-! ### a def is called -/
def kRun (r : R (Fl × Env)) (fd : Fd) (ws : List W) : RF := fin fd ws r
theorem kRun_rt (w : W) (ρ : Env) (fd : Fd) (ws : List W) : kRun (.ok (.rt w, ρ)) fd ws = finW fd ws w ρ := rfl
theorem kRun_nx (ρ : Env) (fd : Fd) (ws : List W) : kRun (.ok (.nx, ρ)) fd ws = finW fd ws (.sh .non) ρ := rfl
theorem run_call {Γ : Tab} {wf n : Nat} {f : String} {fd : Fd} {ws : List W} (h : Γ f = some fd) (hl : ws.length = fd.np) : run Γ wf (n + 1) f ws = kRun (execs (clK Γ wf n) fd.body (entry fd ws)) fd ws := by
  show callT Γ (clK Γ wf n) f ws = _
  unfold callT
  rw [h]
  exact if_pos hl
theorem runI_call {Γ : Tab} {wf n : Nat} {f : String} : runI Γ wf (n + 1) f = run Γ wf n f := rfl
theorem clK_c (Γ : Tab) (wf n : Nat) : (clK Γ wf n).c = run Γ wf n := rfl
theorem clK_br (Γ : Tab) (wf n : Nat) : (clK Γ wf n).br = brs Γ := rfl
theorem clK_wf (Γ : Tab) (wf n : Nat) : (clK Γ wf n).wf = wf := rfl
theorem clK_ini (Γ : Tab) (wf n : Nat) : (clK Γ wf n).ini = runI Γ wf n := rfl
theorem clK_g (Γ : Tab) (wf n : Nat) : (clK Γ wf n).g = Γ.g := rfl
theorem low_c (k : Cl) : k.low.c = k.ini := rfl
theorem low_br (k : Cl) : k.low.br = k.br := rfl
/-! ### instances -/
theorem kVar_oi (c : String) (fs) (i : Nat) (ρ : Env) : kVar (some (.oi c fs)) i ρ = .ok (.sh (.ins c (frzF fs)), st ρ i (some (.sh (.ins c (frzF fs))))) := rfl
theorem kArg_oi (c : String) (fs) (i : Nat) (ρ : Env) : kArg (some (.oi c fs)) i ρ = .ok (.r i, ρ) := rfl
def kFv (o : Option D) (ρ : Env) : R (W × Env) := (ofO o).bind fun d => .ok (.sh d, ρ)
theorem kFv_ok (d : D) (ρ : Env) : kFv (some d) ρ = .ok (.sh d, ρ) := rfl
def kFi (b : Bool) (x y : Option D) : Option D := if b then x else y
theorem kFi_t (x y : Option D) : kFi true x y = x := rfl
theorem kFi_f (x y : Option D) : kFi false x y = y := rfl
theorem dFldV_e (g : GX) (i : Nat) (f : String) (ρ : Env) : dFldV g i f ρ = kFv (kFi (isXc (gt ρ i)) (fldX g (gt ρ i) f) (fldS (fldW g (gt ρ i) f))) ρ := rfl
theorem isXc_n : isXc none = false := rfl
theorem isXc_sh (d : D) : isXc (some (.sh d)) = false := rfl
theorem isXc_ol (l : List D) : isXc (some (.ol l)) = false := rfl
theorem isXc_od (t : Bool) (l) : isXc (some (.od t l)) = false := rfl
theorem isXc_oi (c : String) (fs) : isXc (some (.oi c fs)) = false := rfl
theorem isXc_xc (c : String) (fs) : isXc (some (.xc c fs)) = true := rfl
theorem fldX_xc (g : GX) (c : String) (fs) (f : String) : fldX g (some (.xc c fs)) f = if g.exB c f = true then lkF fs f else none := rfl
/-! ### exceptions, classes -/
theorem clK_n (Γ : Tab) (wf n : Nat) : (clK Γ wf n).n = n := rfl
theorem kS_ex (c fs ρ) (k : Cl) (l : List S) : kS (.ex c fs ρ) k l = .ex c fs ρ := rfl
theorem kEx_ex (c fs ρ) : kEx (.ex c fs ρ) = .ex c fs ρ := rfl
theorem kAsgo_ex (c fs ρ) (i : Nat) : kAsgo (.ex c fs ρ) i = .ex c fs ρ := rfl
theorem kRet_ex (c fs ρ) : kRet (.ex c fs ρ) = .ex c fs ρ := rfl
theorem kRun_ex (c fs ρ) (fd : Fd) (ws : List W) : kRun (.ex c fs ρ) fd ws = .ex c fs := rfl
def kCx (l : List Nat) (c : String) (fs : Xfs) (ρ : Env) : R (W × Env) := if l = [] then .ex c fs ρ else .bad
theorem kCx_n (c : String) (fs : Xfs) (ρ : Env) : kCx [] c fs ρ = .ex c fs ρ := rfl
theorem kC2_ex (c : String) (fs : Xfs) (as : List Arg) (ρ : Env) : kC2 (.ex c fs) as ρ = kCx (refsOf as) c fs ρ := rfl
def kRse2 (r : R (List D × Env)) (c : String) (ns : List String) : R (Fl × Env) := r.bind fun x => if ns.length = x.1.length ∧ x.1.length ≤ 100 then .ex c (ns.zip x.1) x.2 else .bad
def kRse (b : Bool) (o : Option (List String)) (c : String) (ns : List String) (r : R (List D × Env)) : R (Fl × Env) := if b = true ∧ o = some ns then kRse2 r c ns else .bad
theorem rse_e (k : Cl) (c : String) (ns : List String) (l : List E) (ρ : Env) : exec k (.rse c ns l) ρ = kRse (decide (1 < k.n)) (k.g.exa.lookup c) c ns (dVs (dens k l) ρ) := by
  unfold kRse
  simp only [decide_eq_true_eq]
  rfl
theorem kRse_ok (c : String) (ns : List String) (r) : kRse true (some ns) c ns r = kRse2 r c ns := if_pos ⟨rfl, rfl⟩
theorem kRse2_1 (d : D) (ρ : Env) (c n : String) : kRse2 (.ok ([d], ρ)) c [n] = .ex c [(n, d)] ρ := rfl
theorem kRse2_2 (d e : D) (ρ : Env) (c n m : String) : kRse2 (.ok ([d, e], ρ)) c [n, m] = .ex c [(n, d), (m, e)] ρ := rfl
def kTry2 (o : Option Bool) (c' : String) (fs : Xfs) (ρ : Env) (k : Cl) (i : Nat) (h : List S) : R (Fl × Env) := match o with
  | some true => outX i (execs k h (st ρ i (some (.xc c' fs))))
  | some false => .ex c' fs ρ
  | none => .bad
def kTry (r : R (Fl × Env)) (k : Cl) (c : String) (i : Nat) (h : List S) : R (Fl × Env) := match r with
  | .ex c' fs ρ' => kTry2 (k.g.esb.lookup (c', c)) c' fs ρ' k i h
  | r => r
theorem trye_e (k : Cl) (b : List S) (c : String) (i : Nat) (h : List S) (ρ : Env) : exec k (.trye b c i h) ρ = kTry (execs k b ρ) k c i h := by
  show (match execs k b ρ with
    | .ex c' fs ρ' => match k.g.esb.lookup (c', c) with
      | some true => outX i (execs k h (st ρ' i (some (.xc c' fs))))
      | some false => .ex c' fs ρ'
      | none => .bad
    | r => r) = _
  unfold kTry kTry2
  rfl
theorem kTry_ok (x : Fl × Env) (k : Cl) (c : String) (i : Nat) (h : List S) : kTry (.ok x) k c i h = .ok x := rfl
theorem kTry_ex (c' : String) (fs : Xfs) (ρ : Env) (k : Cl) (c : String) (i : Nat) (h : List S) : kTry (.ex c' fs ρ) k c i h = kTry2 (k.g.esb.lookup (c', c)) c' fs ρ k i h := rfl
theorem kTry2_t (c' : String) (fs : Xfs) (ρ : Env) (k : Cl) (i : Nat) (h : List S) : kTry2 (some true) c' fs ρ k i h = outX i (execs k h (st ρ i (some (.xc c' fs)))) := rfl
theorem kTry2_f (c' : String) (fs : Xfs) (ρ : Env) (k : Cl) (i : Nat) (h : List S) : kTry2 (some false) c' fs ρ k i h = .ex c' fs ρ := rfl
def kOx (b : Bool) (d : D) (i : Nat) (ρ : Env) : R (Fl × Env) := if b then .ok (.rt (.sh d), st (clE ρ) i none) else .bad
theorem kOx_t (d : D) (i : Nat) (ρ : Env) : kOx true d i ρ = .ok (.rt (.sh d), st (clE ρ) i none) := rfl
theorem outX_rt (i : Nat) (d : D) (ρ : Env) : outX i (.ok (.rt (.sh d), ρ)) = kOx (noX d) d i ρ := rfl
theorem outX_nx (i : Nat) (ρ : Env) : outX i (.ok (.nx, ρ)) = .ok (.nx, st (clE ρ) i none) := rfl
theorem clE_n : clE [] = [] := rfl
theorem clE_c (o : Option W) (l : Env) : clE (o :: l) = clW o :: clE l := rfl
def kClW (b : Bool) (w : W) : Option W := if b then some w else none
theorem kClW_t (w : W) : kClW true w = some w := rfl
theorem clW_n : clW none = none := rfl
theorem clW_sh (d : D) : clW (some (.sh d)) = kClW (noX d) (.sh d) := rfl
theorem clW_ol (l : List D) : clW (some (.ol l)) = kClW (noXs l) (.ol l) := rfl
theorem clW_xc (c fs) : clW (some (.xc c fs)) = none := rfl
theorem noX_non : noX .non = true := rfl
theorem noX_bl (b : Bool) : noX (.bl b) = true := rfl
theorem noX_int (i : Int) : noX (.int i) = true := rfl
theorem noX_str (s) : noX (.str s) = true := rfl
theorem noX_tup (l : List D) : noX (.tup l) = noXs l := rfl
theorem noX_lst (l : List D) : noX (.lst l) = noXs l := rfl
theorem noXs_n : noXs [] = true := rfl
theorem noXs_c (d : D) (l : List D) : noXs (d :: l) = (noX d && noXs l) := rfl
def kIb (o : Option Bool) (ρ : Env) : R (W × Env) := (ofO o).bind fun b => .ok (.sh (.bl b), ρ)
theorem kIb_ok (b : Bool) (ρ : Env) : kIb (some b) ρ = .ok (.sh (.bl b), ρ) := rfl
def kIc2 (r : R D) (g : GX) (c : String) (ρ : Env) : R (W × Env) := r.bind fun d => kIb (iscD g d c) ρ
theorem kIc2_ok (d : D) (g : GX) (c : String) (ρ : Env) : kIc2 (.ok d) g c ρ = kIb (iscD g d c) ρ := rfl
def kIc (r : R (Opd × Env)) (g : GX) (c : String) : R (W × Env) := r.bind fun x => kIc2 (look x.2 x.1) g c x.2
theorem kIc_ok (x : Opd) (ρ : Env) (g : GX) (c : String) : kIc (.ok (x, ρ)) g c = kIc2 (look ρ x) g c ρ := rfl
def kIx (b : Bool) (x y : R (W × Env)) : R (W × Env) := if b then x else y
theorem kIx_t (x y) : kIx true x y = x := rfl
theorem kIx_f (x y) : kIx false x y = y := rfl
def kIdx2 (d : D) (r : R (W × Env)) : R (W × Env) := match d with
  | .lst l => r.bind fun y => kW (idxO y.1.frz l) y.2
  | _ => .bad
def kIdx (r : R (W × Env)) (b : Dn) : R (W × Env) := r.bind fun x => kIdx2 x.1.frz (b.v x.2)
theorem dIdx_e (a b : Dn) (ρ : Env) : dIdx a b ρ = kIdx (a.v ρ) b := by
  unfold dIdx kIdx kIdx2 kW
  congr 1
theorem kIdx_ok (w : W) (ρ : Env) (b : Dn) : kIdx (.ok (w, ρ)) b = kIdx2 w.frz (b.v ρ) := rfl
theorem kIdx2_ok (l : List D) (w : W) (ρ : Env) : kIdx2 (.lst l) (.ok (w, ρ)) = kW (idxO w.frz l) ρ := rfl
def kExt2 (o : Option W) (w : W) (i : Nat) (ρ : Env) : R (Fl × Env) := match w, o with
  | .ol m, some (.ol l) => if l.length + m.length ≤ line then .ok (.nx, st ρ i (some (.ol (l ++ m)))) else .bad
  | _, _ => .bad
def kExt1 (r : R (W × Env)) (i : Nat) : R (Fl × Env) := r.bind fun x => kExt2 (gt x.2 i) x.1 i x.2
theorem kExt1_ok (w : W) (ρ : Env) (i : Nat) : kExt1 (.ok (w, ρ)) i = kExt2 (gt ρ i) w i ρ := rfl
def kExt (b : Bool) (i : Nat) (d : Dn) (ρ : Env) : R (Fl × Env) := if b then kExt1 (d.v ρ) i else .bad
theorem kExt_t (i : Nat) (d : Dn) (ρ : Env) : kExt true i d ρ = kExt1 (d.v ρ) i := rfl
theorem ext_e (k : Cl) (i : Nat) (e : E) (ρ : Env) : exec k (.ext i e) ρ = kExt (isOl (gt ρ i)) i (den k e) ρ := by
  show (if isOl (gt ρ i) then _ else _) = _
  unfold kExt kExt1 kExt2
  rfl
def kPv : Option W → Option D
  | some (.sh d) => some d
  | _ => none
theorem pureD_var (i : Nat) (ρ : Env) : pureD (.var i) ρ = kPv (gt ρ i) := by
  cases h : gt ρ i with
  | none => simp [pureD, kPv, h]
  | some w => cases w <;> simp [pureD, kPv, h]
theorem kPv_sh (d : D) : kPv (some (.sh d)) = some d := rfl
theorem pureD_int (i : Int) (ρ : Env) : pureD (.int i) ρ = some (.int i) := rfl
def kPd (a : Option D) (b : Option (List D)) : Option (List D) := match a, b with
  | some d, some ds => some (d :: ds)
  | _, _ => none
theorem pureDs_n (ρ : Env) : pureDs [] ρ = some [] := rfl
theorem pureDs_c (e : E) (l : List E) (ρ : Env) : pureDs (e :: l) ρ = kPd (pureD e ρ) (pureDs l ρ) := rfl
theorem kPd_ok (d : D) (ds : List D) : kPd (some d) (some ds) = some (d :: ds) := rfl
def kOw (r : RF) (ρ : Env) : R (W × Env) := match r with
  | .ok w' _ => .ok (w', ρ)
  | .ex c fs => .ex c fs ρ
  | .bad => .bad
theorem callOw_e (k : Cl) (f : String) (w : W) (ds : List D) (ρ : Env) : callOw k f w ds ρ = kOw (k.c f (w :: ds.map W.sh)) ρ := rfl
theorem kOw_ok (w : W) (os : List W) (ρ : Env) : kOw (.ok w os) ρ = .ok (w, ρ) := rfl
theorem kOw_ex (c fs) (ρ : Env) : kOw (.ex c fs) ρ = .ex c fs ρ := rfl
def kMo3 (o : Option String) (ds : Option (List D)) (k : Cl) (w : W) (ρ : Env) : R (W × Env) := (ofO o).bind fun f => (ofO ds).bind fun ds => callOw k f w ds ρ
theorem kMo3_ok (f : String) (ds : List D) (k : Cl) (w : W) (ρ : Env) : kMo3 (some f) (some ds) k w ρ = callOw k f w ds ρ := rfl
def kMo (r : R (W × Env)) (k : Cl) (m : String) (l : List E) : R (W × Env) := r.bind fun x => match x.1 with
  | .oi c fs => kMo3 (if (lkF fs m).isNone then k.g.mtO c m else none) (pureDs l x.2) k (.oi c fs) x.2
  | _ => .bad
theorem dMethO_e (k : Cl) (a : Dn) (m : String) (l : List E) (ρ : Env) : dMethO k a m l ρ = kMo (a.v ρ) k m l := rfl
theorem kMo_ok (c : String) (fs) (ρ : Env) (k : Cl) (m : String) (l : List E) : kMo (.ok (.oi c fs, ρ)) k m l = kMo3 (if (lkF fs m).isNone then k.g.mtO c m else none) (pureDs l ρ) k (.oi c fs) ρ := rfl
theorem dIsc_var (g : GX) (i : Nat) (a : Dn) (c : String) (ρ : Env) : dIsc g (.var i) a c ρ = kIx (isXc (gt ρ i)) (kIb (iscX g (gt ρ i) c) ρ) (kIc (a.o ρ) g c) := rfl
theorem dIsc_ix (g : GX) (e f : E) (a : Dn) (c : String) (ρ : Env) : dIsc g (.ix e f) a c ρ = kIc (a.o ρ) g c := rfl
theorem dIsc_fld (g : GX) (e : E) (f : String) (a : Dn) (c : String) (ρ : Env) : dIsc g (.fld e f) a c ρ = kIc (a.o ρ) g c := rfl
theorem dIsc_call (g : GX) (f : String) (l : List E) (a : Dn) (c : String) (ρ : Env) : dIsc g (.call f l) a c ρ = kIc (a.o ρ) g c := rfl
theorem iscX_xc (g : GX) (c' : String) (fs) (c : String) : iscX g (some (.xc c' fs)) c = g.esb.lookup (c', c) := rfl
theorem iscD_ins (g : GX) (c' : String) (fs) (c : String) : iscD g (.ins c' fs) c = g.isx.lookup (c', c) := rfl
def kDc (b : Bool) : Option Bool := if b then some false else none
theorem kDc_t : kDc true = some false := rfl
theorem iscD_non (g : GX) (c : String) : iscD g .non c = kDc (g.isd.contains c) := rfl
theorem iscD_bl (g : GX) (b : Bool) (c : String) : iscD g (.bl b) c = kDc (g.isd.contains c) := rfl
theorem iscD_int (g : GX) (i : Int) (c : String) : iscD g (.int i) c = kDc (g.isd.contains c) := rfl
theorem iscD_str (g : GX) (i) (c : String) : iscD g (.str i) c = kDc (g.isd.contains c) := rfl
theorem iscD_tup (g : GX) (i) (c : String) : iscD g (.tup i) c = kDc (g.isd.contains c) := rfl
theorem iscD_lst (g : GX) (i) (c : String) : iscD g (.lst i) c = kDc (g.isd.contains c) := rfl
theorem fldS_sh (d : D) : fldS (some (.sh d)) = some d := rfl
theorem fldW_ins (g : GX) (c : String) (fs) (f : String) : fldW g (some (.sh (.ins c fs))) f = if g.atB c f = true then (lkF fs f).map Fw.sh else none := rfl
theorem fldW_oi (g : GX) (c : String) (fs) (f : String) : fldW g (some (.oi c fs)) f = if g.atB c f = true then lkF fs f else none := rfl
theorem lkF_n {α : Type} (f : String) : lkF ([] : List (String × α)) f = none := rfl
theorem lkF_c {α : Type} (n : String) (a : α) (r : List (String × α)) (f : String) : lkF ((n, a) :: r) f = if n = f then some a else lkF r f := rfl
theorem fldD_ins (g : GX) (c : String) (fs) (f : String) : fldD g (.ins c fs) f = if g.atB c f = true then lkF fs f else none := rfl
def kFld (r : R (W × Env)) (g : GX) (f : String) : R (W × Env) := r.bind fun x => kFv (fldD g x.1.frz f) x.2
theorem dFld_e (g : GX) (a : Dn) (f : String) (ρ : Env) : dFld g a f ρ = kFld (a.v ρ) g f := rfl
theorem kFld_ok (w : W) (ρ : Env) (g : GX) (f : String) : kFld (.ok (w, ρ)) g f = kFv (fldD g w.frz f) ρ := rfl
theorem fldE_var (g : GX) (i : Nat) (a : Dn) (f : String) : fldE g (.var i) a f = dFldV g i f := rfl
theorem fldE_ix (g : GX) (x y : E) (a : Dn) (f : String) : fldE g (.ix x y) a f = dFld g a f := rfl
theorem fldE_pix (g : GX) (x y : E) (a : Dn) (f : String) : fldE g (.pix x y) a f = dFld g a f := rfl
theorem fldE_fld (g : GX) (x : E) (y : String) (a : Dn) (f : String) : fldE g (.fld x y) a f = dFld g a f := rfl
theorem fldE_call (g : GX) (x : String) (y : List E) (a : Dn) (f : String) : fldE g (.call x y) a f = dFld g a f := rfl
theorem fldE_mk (g : GX) (x : String) (y : List E) (a : Dn) (f : String) : fldE g (.mk x y) a f = dFld g a f := rfl
def kPu (x y : Option D) (f : D → D → R W) (ρ : Env) : R (W × Env) := (ofO x).bind fun x => (ofO y).bind fun y => kW (f x y) ρ
theorem kPu_ok (x y : D) (f) (ρ : Env) : kPu (some x) (some y) f ρ = kW (f x y) ρ := rfl
theorem dPix_e (g : GX) (a b : E) (ρ : Env) : dPix g a b ρ = kPu (pu g a ρ) (pu g b ρ) ixO ρ := rfl
theorem dPcmp_e (g : GX) (o : Cop) (a b : E) (ρ : Env) : dPcmp g o a b ρ = kPu (pu g a ρ) (pu g b ρ) (cmpO o) ρ := rfl
def kPl (x : Option D) (ρ : Env) : R (W × Env) := (ofO x).bind fun x => kW (biO .len [x]) ρ
theorem kPl_ok (x : D) (ρ : Env) : kPl (some x) ρ = kW (biO .len [x]) ρ := rfl
theorem dPlen_e (g : GX) (a : E) (ρ : Env) : dPlen g a ρ = kPl (pu g a ρ) ρ := rfl
theorem pu_var (g : GX) (i : Nat) (ρ : Env) : pu g (.var i) ρ = vwW (gt ρ i) := rfl
theorem pu_int (g : GX) (i : Int) (ρ : Env) : pu g (.int i) ρ = some (.int i) := rfl
theorem pu_str (g : GX) (i : PySem.Str) (ρ : Env) : pu g (.str i) ρ = some (.str i) := rfl
theorem pu_fldv (g : GX) (i : Nat) (f : String) (ρ : Env) : pu g (.fld (.var i) f) ρ = (fldW g (gt ρ i) f).map Fw.frz := rfl
def kPf (x : Option D) (g : GX) (f : String) : Option D := x.bind fun x => fldD g x f
theorem kPf_ok (x : D) (g : GX) (f : String) : kPf (some x) g f = fldD g x f := rfl
theorem pu_fldf (g : GX) (a : E) (h f : String) (ρ : Env) : pu g (.fld (.fld a h) f) ρ = kPf (pu g (.fld a h) ρ) g f := rfl
theorem pu_fldp (g : GX) (a b : E) (f : String) (ρ : Env) : pu g (.fld (.pix a b) f) ρ = kPf (pu g (.pix a b) ρ) g f := rfl
def kPx (x y : Option D) : Option D := x.bind fun x => y.bind fun y => rOk (ixO x y)
theorem kPx_ok (x y : D) : kPx (some x) (some y) = rOk (ixO x y) := rfl
theorem pu_ix_ (g : GX) (a b : E) (ρ : Env) : pu g (.ix a b) ρ = kPx (pu g a ρ) (pu g b ρ) := rfl
theorem pu_pix (g : GX) (a b : E) (ρ : Env) : pu g (.pix a b) ρ = kPx (pu g a ρ) (pu g b ρ) := rfl
theorem rOk_ok (d : D) : rOk (.ok (.sh d)) = some d := rfl
theorem vwW_sh (d : D) : vwW (some (.sh d)) = some d := rfl
theorem vwW_ol (l : List D) : vwW (some (.ol l)) = some (.lst l) := rfl
theorem vwW_od (t : Bool) (l) : vwW (some (.od t l)) = some (.dic t l) := rfl
def kRc (o : Option W) (m : String) : Option String := match o with
  | some (.oi c fs) => if (lkF fs m).isNone = true then some c else none
  | _ => none
theorem recv_r (ρ : Env) (m : String) (i : Nat) : recvC ρ m (.r i) = kRc (gt ρ i) m := rfl
theorem kRc_oi (c : String) (fs) (m : String) : kRc (some (.oi c fs)) m = if (lkF fs m).isNone = true then some c else none := rfl
theorem recv_v (ρ : Env) (m : String) (c : String) (fs) : recvC ρ m (.v (.ins c fs)) = if (lkF fs m).isNone = true then some c else none := rfl
theorem isR_v (d : D) : isR (.v d) = false := rfl
theorem isR_r (i : Nat) : isR (.r i) = true := rfl
def kMt (o : Option String) (k : Cl) (m : String) : Option String := o.bind fun c => k.g.mtO c m
theorem kMt_ok (c : String) (k : Cl) (m : String) : kMt (some c) k m = k.g.mtO c m := rfl
def kMe4 (r : R (List Arg × Env)) (x : Arg) (k : Cl) (f : String) : R (W × Env) := r.bind fun y => callO k f (x :: y.1) y.2
theorem kMe4_ok (as : List Arg) (ρ : Env) (x : Arg) (k : Cl) (f : String) : kMe4 (.ok (as, ρ)) x k f = callO k f (x :: as) ρ := rfl
def kMe3 (b : Bool) (x : Arg) (k : Cl) (f : String) (l : List Dn) (ρ : Env) : R (W × Env) := match b with
  | true => .bad
  | false => kMe4 (dAs l (k.br f).tail ρ) x k f
theorem kMe3_f (x : Arg) (k : Cl) (f : String) (l : List Dn) (ρ : Env) : kMe3 false x k f l ρ = kMe4 (dAs l (k.br f).tail ρ) x k f := rfl
def kMe2 (o : Option String) (x : Arg) (k : Cl) (l : List Dn) (ρ : Env) : R (W × Env) := (ofO o).bind fun f => kMe3 (isR x && !(k.br f).headD false) x k f l ρ
theorem kMe2_ok (f : String) (x : Arg) (k : Cl) (l : List Dn) (ρ : Env) : kMe2 (some f) x k l ρ = kMe3 (isR x && !(k.br f).headD false) x k f l ρ := rfl
def kMe (r : R (Arg × Env)) (k : Cl) (m : String) (l : List Dn) : R (W × Env) := r.bind fun x => kMe2 (kMt (recvC x.2 m x.1) k m) x.1 k l x.2
theorem kMe_ok (x : Arg) (ρ : Env) (k : Cl) (m : String) (l : List Dn) : kMe (.ok (x, ρ)) k m l = kMe2 (kMt (recvC ρ m x) k m) x k l ρ := rfl
theorem dMeth_e (k : Cl) (a : Dn) (m : String) (l : List Dn) (ρ : Env) : dMeth k a m l ρ = kMe (a.r ρ) k m l := by
  unfold dMeth kMe kMe2 kMt
  cases a.r ρ with
  | ok x =>
    show (ofO ((recvC x.2 m x.1).bind fun c => k.g.mtO c m)).bind _ = (ofO _).bind _
    cases (recvC x.2 m x.1).bind fun c => k.g.mtO c m with
    | none => rfl
    | some f =>
      show (if (isR x.1 && !(k.br f).headD false) = true then _ else _) = kMe3 (isR x.1 && !(k.br f).headD false) x.1 k f l x.2
      cases (isR x.1 && !(k.br f).headD false) <;> rfl
  | _ => rfl
def kMk3 (b : Bool) (r : RF) (ρ : Env) : R (W × Env) := match b with
  | true => mkO r ρ
  | false => .bad
theorem kMk3_t (r : RF) (ρ : Env) : kMk3 true r ρ = mkO r ρ := rfl
theorem mkO_ok (c : String) (fs) (os : List W) (ρ : Env) : mkO (.ok (.sh .non) (.oi c fs :: os)) ρ = .ok (.oi c fs, ρ) := rfl
def kMk2 (o : Option String) (ds : List D) (k : Cl) (c : String) (ρ : Env) : R (W × Env) := (ofO o).bind fun f => kMk3 ((k.br f).headD false) (k.ini f (.oi c [] :: ds.map W.sh)) ρ
theorem kMk2_ok (f : String) (ds : List D) (k : Cl) (c : String) (ρ : Env) : kMk2 (some f) ds k c ρ = kMk3 ((k.br f).headD false) (k.ini f (.oi c [] :: ds.map W.sh)) ρ := rfl
def kMk (r : R (List D × Env)) (k : Cl) (c : String) : R (W × Env) := r.bind fun x => kMk2 (k.g.mkO c) x.1 k c x.2
theorem kMk_ok (ds : List D) (ρ : Env) (k : Cl) (c : String) : kMk (.ok (ds, ρ)) k c = kMk2 (k.g.mkO c) ds k c ρ := rfl
theorem dMk_e (k : Cl) (c : String) (l : List Dn) (ρ : Env) : dMk k c l ρ = kMk (dVs l ρ) k c := by
  unfold dMk kMk kMk2
  cases dVs l ρ with
  | ok x =>
    show (ofO (k.g.mkO c)).bind _ = (ofO (k.g.mkO c)).bind _
    cases k.g.mkO c with
    | none => rfl
    | some f =>
      show (if (k.br f).headD false = true then _ else _) = kMk3 ((k.br f).headD false) _ _
      cases (k.br f).headD false <;> rfl
  | _ => rfl
def kLi3 (b : Bool) (r : R (W × Env)) : R (W × Env) := match b with
  | true => .bad
  | false => lenO r
theorem kLi3_f (r : R (W × Env)) : kLi3 false r = lenO r := rfl
theorem lenO_ok (n : Int) (ρ : Env) : lenO (.ok (.sh (.int n), ρ)) = if 0 ≤ n ∧ n < 4611686018427387904 then .ok (.sh (.int n), ρ) else .bad := rfl
def kLi2 (o : Option String) (x : Arg) (k : Cl) (ρ : Env) : R (W × Env) := (ofO o).bind fun f => kLi3 (isR x && !(k.br f).headD false) (callO k.low f [x] ρ)
theorem kLi2_ok (f : String) (x : Arg) (k : Cl) (ρ : Env) : kLi2 (some f) x k ρ = kLi3 (isR x && !(k.br f).headD false) (callO k.low f [x] ρ) := rfl
def kLi (r : R (Arg × Env)) (k : Cl) : R (W × Env) := r.bind fun x => kLi2 (kMt (recvC x.2 "__len__" x.1) k "__len__") x.1 k x.2
theorem kLi_ok (x : Arg) (ρ : Env) (k : Cl) : kLi (.ok (x, ρ)) k = kLi2 (kMt (recvC ρ "__len__" x) k "__len__") x k ρ := rfl
theorem dLenI_e (k : Cl) (a : Dn) (ρ : Env) : dLenI k a ρ = kLi (a.r ρ) k := by
  unfold dLenI kLi kLi2 kMt
  cases a.r ρ with
  | ok x =>
    show (ofO ((recvC x.2 "__len__" x.1).bind fun c => k.g.mtO c "__len__")).bind _ = (ofO _).bind _
    cases (recvC x.2 "__len__" x.1).bind fun c => k.g.mtO c "__len__" with
    | none => rfl
    | some f =>
      show (if (isR x.1 && !(k.br f).headD false) = true then _ else _) = kLi3 (isR x.1 && !(k.br f).headD false) _
      cases (isR x.1 && !(k.br f).headD false) <;> rfl
  | _ => rfl
def kStf (r : R (W × Env)) (g : GX) (i : Nat) (f : String) : R (Fl × Env) := r.bind fun x => setF g i f x.1.fw x.2
theorem setf_e (k : Cl) (i : Nat) (f : String) (e : E) (ρ : Env) : exec k (.setf i f e) ρ = kStf ((den k e).v ρ) k.g i f := rfl
theorem kStf_ok (w : W) (ρ : Env) (g : GX) (i : Nat) (f : String) : kStf (.ok (w, ρ)) g i f = setF g i f w.fw ρ := rfl
def kSf (o : Option W) (g : GX) (i : Nat) (f : String) (w : Fw) (ρ : Env) : R (Fl × Env) := match o with
  | some (.oi c fs) => if (g.atB c f && decide (fs.length < 100)) = true then .ok (.nx, st ρ i (some (.oi c (putW fs f w)))) else .bad
  | _ => .bad
theorem setF_e (g : GX) (i : Nat) (f : String) (w : Fw) (ρ : Env) : setF g i f w ρ = kSf (gt ρ i) g i f w ρ := rfl
theorem kSf_oi (c : String) (fs) (g : GX) (i : Nat) (f : String) (w : Fw) (ρ : Env) : kSf (some (.oi c fs)) g i f w ρ = if (g.atB c f && decide (fs.length < 100)) = true then .ok (.nx, st ρ i (some (.oi c (putW fs f w)))) else .bad := rfl
theorem fw_sh (d : D) : W.fw (.sh d) = .sh d := rfl
theorem fw_ol (l : List D) : W.fw (.ol l) = .ol l := rfl
theorem fw_od (t : Bool) (l) : W.fw (.od t l) = .od t l := rfl
theorem putW_n (f : String) (w : Fw) : putW [] f w = [(f, w)] := rfl
theorem putW_c (n : String) (a : Fw) (r) (f : String) (w : Fw) : putW ((n, a) :: r) f w = if n = f then (n, w) :: r else (n, a) :: putW r f w := rfl
def kSif2 (o : Option W) (g : GX) (i : Nat) (f : String) (q d : D) (ρ : Env) : R (Fl × Env) := match o with
  | some (.oi c fs) => if g.atB c f = true then (ofO (setIF2 (lkF fs f) q d)).bind fun w => .ok (.nx, st ρ i (some (.oi c (putW fs f w)))) else .bad
  | _ => .bad
theorem kSif2_oi (c : String) (fs) (g : GX) (i : Nat) (f : String) (q d : D) (ρ : Env) : kSif2 (some (.oi c fs)) g i f q d ρ = if g.atB c f = true then (ofO (setIF2 (lkF fs f) q d)).bind fun w => .ok (.nx, st ρ i (some (.oi c (putW fs f w)))) else .bad := rfl
def kSif1 (o : Option D) (g : GX) (i : Nat) (f : String) (d : D) (ρ : Env) : R (Fl × Env) := (ofO o).bind fun q => kSif2 (gt ρ i) g i f q d ρ
theorem kSif1_ok (q : D) (g : GX) (i : Nat) (f : String) (d : D) (ρ : Env) : kSif1 (some q) g i f d ρ = kSif2 (gt ρ i) g i f q d ρ := rfl
def kSif (r : R (W × Env)) (g : GX) (i : Nat) (f : String) (x : E) : R (Fl × Env) := r.bind fun v => kSif1 (pu g x v.2) g i f v.1.frz v.2
theorem kSif_ok (w : W) (ρ : Env) (g : GX) (i : Nat) (f : String) (x : E) : kSif (.ok (w, ρ)) g i f x = kSif1 (pu g x ρ) g i f w.frz ρ := rfl
theorem setif_e (k : Cl) (i : Nat) (f : String) (x e : E) (ρ : Env) : exec k (.setif i f x e) ρ = kSif ((den k e).v ρ) k.g i f x := rfl
theorem brs_of {Γ : Tab} {f : String} {fd : Fd} (h : Γ f = some fd) : brs Γ f = fd.br := by unfold brs; rw [h]
theorem getL_0 {α : Type} (l : List α) : getL l 0 = l[0]? := getL_nat l 0
theorem getL_1 {α : Type} (l : List α) : getL l 1 = l[1]? := getL_nat l 1
theorem getL_2 {α : Type} (l : List α) : getL l 2 = l[2]? := getL_nat l 2
theorem getL_3 {α : Type} (l : List α) : getL l 3 = l[3]? := getL_nat l 3
theorem getL_4 {α : Type} (l : List α) : getL l 4 = l[4]? := getL_nat l 4
theorem getL_5 {α : Type} (l : List α) : getL l 5 = l[5]? := getL_nat l 5
theorem getL_6 {α : Type} (l : List α) : getL l 6 = l[6]? := getL_nat l 6
theorem getL_7 {α : Type} (l : List α) : getL l 7 = l[7]? := getL_nat l 7
theorem getL_8 {α : Type} (l : List α) : getL l 8 = l[8]? := getL_nat l 8
theorem getL_9 {α : Type} (l : List α) : getL l 9 = l[9]? := getL_nat l 9
theorem getL_10 {α : Type} (l : List α) : getL l 10 = l[10]? := getL_nat l 10
theorem getL_11 {α : Type} (l : List α) : getL l 11 = l[11]? := getL_nat l 11
theorem setL_0 {α : Type} (x : α) (l : List α) (a : α) : setL (x :: l) 0 a = some (a :: l) := by
  have := setL_nat (x :: l) 0 a (by simp)
  simpa using this
theorem setL_1 {α : Type} (x y : α) (l : List α) (a : α) : setL (x :: y :: l) 1 a = some (x :: a :: l) := by
  have := setL_nat (x :: y :: l) 1 a (by simp)
  simpa using this
/-! ### loops -/
/-- what holds of a result -/
def Gives {α : Type} (r : R α) (Q : α → Prop) : Prop := ∃ a, r = .ok a ∧ Q a
theorem Gives.ok {α : Type} {a : α} {Q : α → Prop} (h : Q a) : Gives (.ok a) Q := ⟨a, rfl, h⟩
/-- a loop that may leave: I the invariant by the turns that are to come, Q what holds behind -/
theorem forL_gives {t : T} {b : Env → R (Fl × Env)} (I : List D → Env → Prop) (Q : Fl × Env → Prop) (hd : ∀ ρ, I [] ρ → Q (.nx, ρ))
    (hs : ∀ d ds ρ, I (d :: ds) ρ → ∃ ρ1 fl ρ2, setT t d ρ = .ok ρ1 ∧ b ρ1 = .ok (fl, ρ2) ∧ match fl with | .nx => I ds ρ2 | .cnt => I ds ρ2 | .brk => Q (.nx, ρ2) | .rt w => Q (.rt w, ρ2)) :
    ∀ ds ρ, I ds ρ → Gives (forL t b ds ρ) Q
  | [], ρ, h => ⟨_, rfl, hd ρ h⟩
  | d :: ds, ρ, h => by
    obtain ⟨ρ1, fl, ρ2, e1, e2, h2⟩ := hs d ds ρ h
    unfold forL
    rw [e1]
    show Gives ((b ρ1).bind _) Q
    rw [e2]
    cases fl with
    | nx => exact forL_gives I Q hd hs ds ρ2 h2
    | cnt => exact forL_gives I Q hd hs ds ρ2 h2
    | brk => exact ⟨_, rfl, h2⟩
    | rt w => exact ⟨_, rfl, h2⟩
/-- a comprehension whose turns leave the names as they were -/
theorem cmpL_gives {t : T} {own : List Nat} {f : Env → R (Option D × Env)} (ρ0 : Env) (g : D → Option D) :
    ∀ (ds : List D) (ρ : Env), wipeE ρ own = ρ0 → (∀ d ∈ ds, ∃ ρ1 ρ2, setT t d ρ0 = .ok ρ1 ∧ f ρ1 = .ok (g d, ρ2) ∧ wipeE ρ2 own = ρ0) → ∃ ρ', cmpL t own f ds ρ = .ok (ds.filterMap g, ρ') ∧ wipeE ρ' own = ρ0
  | [], ρ, h, _ => ⟨ρ, rfl, h⟩
  | d :: ds, ρ, h, hs => by
    obtain ⟨ρ1, ρ2, e1, e2, e3⟩ := hs d (by simp)
    obtain ⟨ρ', e4, e5⟩ := cmpL_gives ρ0 g ds ρ2 e3 fun d' hd => hs d' (by simp [hd])
    refine ⟨ρ', ?_, e5⟩
    unfold cmpL
    rw [h, e1]
    show ((f ρ1).bind _) = _
    rw [e2]
    show ((cmpL t own f ds ρ2).bind _) = _
    rw [e4]
    cases hg : g d <;> simp [List.filterMap_cons, hg]
/-! ### draws and takes -/
abbrev Hd (ds : List Int) (k : Nat) : W := .ol [.lst (ds.map D.int), .int k]
def takeF (ds : List Int) (k : Nat) (m : Int) : Int := if k < ds.length then ds.getD k 0 / 7 % m else 0
theorem takeF_lt {ds : List Int} {k : Nat} {m : Int} (h : 0 < m) : 0 ≤ takeF ds k m ∧ takeF ds k m < m := by
  unfold takeF
  split
  · exact ⟨Int.emod_nonneg _ (by omega), Int.emod_lt_of_pos _ h⟩
  · omega
/-! ### more -/
theorem len_d (t : Bool) (l : List (D × D)) : biO .len [.dic t l] = .ok (.sh (.int l.length)) := rfl
def kReto (r : R (W × Env)) : R (Fl × Env) := r.bind fun x => .ok (.rt x.1, x.2)
theorem reto_e (k : Cl) (e : E) (ρ : Env) : exec k (.reto e) ρ = kReto (retV e (den k e).v ρ) := rfl
theorem kReto_ok (w : W) (ρ : Env) : kReto (.ok (w, ρ)) = .ok (.rt w, ρ) := rfl
theorem kReto_ex (c fs ρ) : kReto (.ex c fs ρ) = .ex c fs ρ := rfl
theorem retV_var (i : Nat) (v : DV) (ρ : Env) : retV (.var i) v ρ = mvW i (gt ρ i) ρ := rfl
theorem retV_dicl (ks : List PySem.Str) (l : List E) (v : DV) : retV (.dicl ks l) v = v := rfl
theorem retV_lst (l : List E) (v : DV) : retV (.lst l) v = v := rfl
theorem mvW_sh (i : Nat) (d : D) (ρ : Env) : mvW i (some (.sh d)) ρ = .ok (.sh d, ρ) := rfl
theorem mvW_ol (i : Nat) (l : List D) (ρ : Env) : mvW i (some (.ol l)) ρ = .ok (.ol l, st ρ i none) := rfl
theorem mvW_od (i : Nat) (t : Bool) (l) (ρ : Env) : mvW i (some (.od t l)) ρ = .ok (.od t l, st ρ i none) := rfl
theorem mvW_oi (i : Nat) (c : String) (fs) (ρ : Env) : mvW i (some (.oi c fs)) ρ = .ok (.oi c fs, st ρ i none) := rfl
def kG6 (o : Option (List Key)) (t : Bool) (l : List (D × D)) (d : D) : R W := (ofO o).bind fun kk => .ok (.sh ((dget t kk l).getD d))
theorem kG6_ok (kk : List Key) (t : Bool) (l) (d : D) : kG6 (some kk) t l d = .ok (.sh ((dget t kk l).getD d)) := rfl
theorem get_d (t : Bool) (l) (y d : D) : getO (.dic t l) y d = kG6 (keyD t y) t l d := rfl
def kG5 (p : R D) (y d : D) (ρ : Env) : R (W × Env) := p.bind fun p => kW (getO p y d) ρ
theorem kG5_ok (p y d : D) (ρ : Env) : kG5 (.ok p) y d ρ = kW (getO p y d) ρ := rfl
def kG4 (r : R (W × Env)) (x : Opd) (y : D) : R (W × Env) := r.bind fun z => kG5 (look z.2 x) y z.1.frz z.2
theorem kG4_ok (w : W) (ρ : Env) (x : Opd) (y : D) : kG4 (.ok (w, ρ)) x y = kG5 (look ρ x) y w.frz ρ := rfl
def kG3 (r : R (W × Env)) (x : Opd) (c : Dn) : R (W × Env) := r.bind fun y => kG4 (c.v y.2) x y.1.frz
theorem kG3_ok (w : W) (ρ : Env) (x : Opd) (c : Dn) : kG3 (.ok (w, ρ)) x c = kG4 (c.v ρ) x w.frz := rfl
def kG2 (p : R D) (x : Opd) (ρ : Env) (b c : Dn) : R (W × Env) := p.bind fun p0 => if isDic p0 then kG3 (b.v ρ) x c else .bad
theorem kG2_ok (t : Bool) (l) (x : Opd) (ρ : Env) (b c : Dn) : kG2 (.ok (.dic t l)) x ρ b c = kG3 (b.v ρ) x c := rfl
def kG1 (r : R (Opd × Env)) (b c : Dn) : R (W × Env) := r.bind fun x => kG2 (look x.2 x.1) x.1 x.2 b c
theorem kG1_ok (x : Opd) (ρ : Env) (b c : Dn) : kG1 (.ok (x, ρ)) b c = kG2 (look ρ x) x ρ b c := rfl
theorem dGet2_e (a b c : Dn) (ρ : Env) : dGet2 a b c ρ = kG1 (a.o ρ) b c := rfl
def kDicl (r : R (List D × Env)) (ks : List PySem.Str) : R (W × Env) := r.bind fun x => if ks.length = x.1.length ∧ ks.Nodup ∧ 0 < ks.length ∧ ks.length ≤ 15 then .ok (.od false ((ks.map D.str).zip x.1), x.2) else .bad
theorem dDicl_e (ks : List PySem.Str) (l : List Dn) (ρ : Env) : dDicl ks l ρ = kDicl (dVs l ρ) ks := rfl
def kCs2 (r : R (List Arg × Env)) (k : Cl) (f : String) (s : Sh) (as : List Arg) : R (W × Env) := r.bind fun y => callO k f (mergeG s.dv (as ++ y.1) ((defsOf s.dv).map Arg.v)) y.2
theorem kCs2_ok (as2 : List Arg) (ρ : Env) (k : Cl) (f : String) (s : Sh) (as : List Arg) : kCs2 (.ok (as2, ρ)) k f s as = callO k f (mergeG s.dv (as ++ as2) ((defsOf s.dv).map Arg.v)) ρ := rfl
def kCs1 (r : R (List Arg × Env)) (k : Cl) (f : String) (s : Sh) (kl : List Dn) (n : Nat) : R (W × Env) := r.bind fun x => kCs2 (dAs kl ((givB s.dv (k.br f)).drop n) x.2) k f s x.1
theorem kCs1_ok (as : List Arg) (ρ : Env) (k : Cl) (f : String) (s : Sh) (kl : List Dn) (n : Nat) : kCs1 (.ok (as, ρ)) k f s kl n = kCs2 (dAs kl ((givB s.dv (k.br f)).drop n) ρ) k f s as := rfl
def kCs (o : Option (String × Sh)) (k : Cl) (l kl : List Dn) (ρ : Env) : R (W × Env) := match o with
  | some (f, s) => kCs1 (dAs l (givB s.dv (k.br f)) ρ) k f s kl l.length
  | none => .bad
theorem dCallS_e (k : Cl) (sk : String) (l kl : List Dn) (ρ : Env) : dCallS k sk l kl ρ = kCs (k.g.shp.lookup sk) k l kl ρ := by
  unfold dCallS kCs
  cases k.g.shp.lookup sk <;> rfl
theorem kCs_ok (f : String) (s : Sh) (k : Cl) (l kl : List Dn) (ρ : Env) : kCs (some (f, s)) k l kl ρ = kCs1 (dAs l (givB s.dv (k.br f)) ρ) k f s kl l.length := rfl
theorem givB_nil (bs : List Bool) : givB [] bs = [] := by unfold givB; rfl
theorem givB_n (r : List (Option D)) (b : Bool) (bs : List Bool) : givB (none :: r) (b :: bs) = b :: givB r bs := rfl
theorem givB_s (d : D) (r : List (Option D)) (b : Bool) (bs : List Bool) : givB (some d :: r) (b :: bs) = givB r bs := rfl
theorem mergeG_nil {α : Type} (as ds : List α) : mergeG [] as ds = [] := by unfold mergeG; rfl
theorem mergeG_n {α : Type} (r : List (Option D)) (a : α) (as ds : List α) : mergeG (none :: r) (a :: as) ds = a :: mergeG r as ds := rfl
theorem mergeG_s {α : Type} (x : D) (r : List (Option D)) (as : List α) (d : α) (ds : List α) : mergeG (some x :: r) as (d :: ds) = d :: mergeG r as ds := rfl
theorem defsOf_nil : defsOf [] = [] := rfl
theorem defsOf_n (r : List (Option D)) : defsOf (none :: r) = defsOf r := rfl
theorem defsOf_s (d : D) (r : List (Option D)) : defsOf (some d :: r) = d :: defsOf r := rfl
def kPop (o : Option Fw) (i : Nat) (c : String) (fs : List (String × Fw)) (f : String) (ρ : Env) : R (W × Env) := match o with
  | some (.ol (d :: l)) => .ok (.sh d, st ρ i (some (.oi c (putW fs f (.ol l)))))
  | _ => .bad
theorem kPop_ol (d : D) (l : List D) (i : Nat) (c : String) (fs) (f : String) (ρ : Env) : kPop (some (.ol (d :: l))) i c fs f ρ = .ok (.sh d, st ρ i (some (.oi c (putW fs f (.ol l))))) := rfl
theorem popW_oi (g : GX) (i : Nat) (f c : String) (fs : List (String × Fw)) (ρ : Env) : popW g i f (some (.oi c fs)) ρ = if g.atB c f = true then kPop (lkF fs f) i c fs f ρ else .bad := by
  unfold popW kPop
  rfl
theorem dPopF_e (g : GX) (i : Nat) (f : String) (ρ : Env) : dPopF g i f ρ = popW g i f (gt ρ i) ρ := rfl
end Z

set_option Elab.async false
set_option linter.all false
set_option maxRecDepth 100000
set_option maxHeartbeats 4000000
/-! Zq: more of the interpreter's steps, for plain proofs. -/
namespace Z
/-! ### chains, slices, walks -/
def kChn4 (b : D) (r : R (W × Env)) (o' : Cop) : R (W × Env) := r.bind fun z => kW (cmpO o' b z.1.frz) z.2
theorem kChn4_ok (b : D) (w : W) (ρ : Env) (o' : Cop) : kChn4 b (.ok (w, ρ)) o' = kW (cmpO o' b w.frz) ρ := rfl
def kChn3 (w : R W) (b : D) (o' : Cop) (c : Dn) (ρ : Env) : R (W × Env) := w.bind fun w => match w with
  | .sh (.bl false) => .ok (.sh (.bl false), ρ)
  | .sh (.bl true) => kChn4 b (c.v ρ) o'
  | _ => .bad
theorem kChn3_f (b : D) (o' : Cop) (c : Dn) (ρ : Env) : kChn3 (.ok (.sh (.bl false))) b o' c ρ = .ok (.sh (.bl false), ρ) := rfl
theorem kChn3_t (b : D) (o' : Cop) (c : Dn) (ρ : Env) : kChn3 (.ok (.sh (.bl true))) b o' c ρ = kChn4 b (c.v ρ) o' := rfl
def kChn2 (a : D) (r : R (W × Env)) (o o' : Cop) (c : Dn) : R (W × Env) := r.bind fun y => kChn3 (cmpO o a y.1.frz) y.1.frz o' c y.2
theorem kChn2_ok (a : D) (w : W) (ρ : Env) (o o' : Cop) (c : Dn) : kChn2 a (.ok (w, ρ)) o o' c = kChn3 (cmpO o a w.frz) w.frz o' c ρ := rfl
def kChn1 (r : R (W × Env)) (o o' : Cop) (b c : Dn) : R (W × Env) := r.bind fun x => kChn2 x.1.frz (b.v x.2) o o' c
theorem kChn1_ok (w : W) (ρ : Env) (o o' : Cop) (b c : Dn) : kChn1 (.ok (w, ρ)) o o' b c = kChn2 w.frz (b.v ρ) o o' c := rfl
theorem dChn_e (o o' : Cop) (a b c : Dn) (ρ : Env) : dChn o o' a b c ρ = kChn1 (a.v ρ) o o' b c := rfl
def kOfI (r : R (List D × Env)) (b : Bool) : R (W × Env) := r.bind fun x => if b then .ok (.sh (.tup x.1), x.2) else .ok (.ol x.1, x.2)
theorem dOfI_e (b : Bool) (it) (ρ : Env) : dOfI b it ρ = kOfI (it ρ) b := rfl
theorem kOfI_t (l : List D) (ρ : Env) : kOfI (.ok (l, ρ)) true = .ok (.sh (.tup l), ρ) := rfl
theorem kOfI_f (l : List D) (ρ : Env) : kOfI (.ok (l, ρ)) false = .ok (.ol l, ρ) := rfl
def kPart (r : R (W × Env)) : R (Option Int × Env) := r.bind fun x => match x.1 with
    | .sh (.int i) => .ok (some i, x.2)
    | _ => .bad
theorem dPart_n (ρ : Env) : dPart none ρ = .ok (none, ρ) := rfl
theorem dPart_s (d : Dn) (ρ : Env) : dPart (some d) ρ = kPart (d.v ρ) := rfl
theorem kPart_ok (i : Int) (ρ : Env) : kPart (.ok (.sh (.int i), ρ)) = .ok (some i, ρ) := rfl
def kSl4 (r : R D) (lo hi : Option Int) (ρ : Env) : R (W × Env) := r.bind fun p => kW (slO p lo hi) ρ
theorem kSl4_ok (d : D) (lo hi : Option Int) (ρ : Env) : kSl4 (.ok d) lo hi ρ = kW (slO d lo hi) ρ := rfl
def kSl3 (r : R (Option Int × Env)) (x : Opd) (lo : Option Int) : R (W × Env) := r.bind fun z => kSl4 (look z.2 x) lo z.1 z.2
theorem kSl3_ok (hi : Option Int) (ρ : Env) (x : Opd) (lo : Option Int) : kSl3 (.ok (hi, ρ)) x lo = kSl4 (look ρ x) lo hi ρ := rfl
def kSl2 (r : R (Option Int × Env)) (x : Opd) (hi : Option Dn) : R (W × Env) := r.bind fun y => kSl3 (dPart hi y.2) x y.1
theorem kSl2_ok (lo : Option Int) (ρ : Env) (x : Opd) (hi : Option Dn) : kSl2 (.ok (lo, ρ)) x hi = kSl3 (dPart hi ρ) x lo := rfl
def kSl1 (r : R (Opd × Env)) (lo hi : Option Dn) : R (W × Env) := r.bind fun x => kSl2 (dPart lo x.2) x.1 hi
theorem kSl1_ok (x : Opd) (ρ : Env) (lo hi : Option Dn) : kSl1 (.ok (x, ρ)) lo hi = kSl2 (dPart lo ρ) x hi := rfl
theorem dSl_e (a : Dn) (lo hi : Option Dn) (ρ : Env) : dSl a lo hi ρ = kSl1 (a.o ρ) lo hi := rfl
theorem optD_non (d : Dn) : optD .non d = none := rfl
theorem optD_var (i : Nat) (d : Dn) : optD (.var i) d = some d := rfl
theorem optD_int (i : Int) (d : Dn) : optD (.int i) d = some d := rfl
theorem optD_bin (o : Bop) (a b : E) (d : Dn) : optD (.bin o a b) d = some d := rfl
theorem optD_neg (a : E) (d : Dn) : optD (.neg a) d = some d := rfl
theorem optD_ix (a b : E) (d : Dn) : optD (.ix a b) d = some d := rfl
theorem optD_bi (a : Bi) (b : List E) (d : Dn) : optD (.bi a b) d = some d := rfl
theorem optD_call (f : String) (b : List E) (d : Dn) : optD (.call f b) d = some d := rfl
theorem sl_l (l : List D) (lo hi : Option Int) : slO (.lst l) lo hi = .ok (.ol (cut l lo hi)) := rfl
theorem sl_t (l : List D) (lo hi : Option Int) : slO (.tup l) lo hi = .ok (.sh (.tup (cut l lo hi))) := rfl
def kRvs2 (r : R D) (ρ : Env) : R (W × Env) := r.bind fun p => match p with
  | .lst l => .ok (.ol l.reverse, ρ)
  | _ => .bad
theorem kRvs2_ok (l : List D) (ρ : Env) : kRvs2 (.ok (.lst l)) ρ = .ok (.ol l.reverse, ρ) := rfl
def kRvs (r : R (Opd × Env)) : R (W × Env) := r.bind fun x => kRvs2 (look x.2 x.1) x.2
theorem dRvs_e (a : Dn) (ρ : Env) : dRvs a ρ = kRvs (a.o ρ) := rfl
theorem kRvs_ok (x : Opd) (ρ : Env) : kRvs (.ok (x, ρ)) = kRvs2 (look ρ x) ρ := rfl
def kTupRev (r : R (W × Env)) : R (W × Env) := r.bind fun x => match x.1.frz with
  | .lst l => .ok (.sh (.tup l.reverse), x.2)
  | _ => .bad
theorem dTupRev_e (a : Dn) (ρ : Env) : dTupRev a ρ = kTupRev (a.v ρ) := rfl
theorem kTupRev_sh (l : List D) (ρ : Env) : kTupRev (.ok (.sh (.lst l), ρ)) = .ok (.sh (.tup l.reverse), ρ) := rfl
theorem kTupRev_ol (l : List D) (ρ : Env) : kTupRev (.ok (.ol l, ρ)) = .ok (.sh (.tup l.reverse), ρ) := rfl
def kIrev2 (o : Option (List D)) (ρ : Env) : R (List D × Env) := (ofO o).bind fun l => .ok (l.reverse, ρ)
theorem kIrev2_ok (l : List D) (ρ : Env) : kIrev2 (some l) ρ = .ok (l.reverse, ρ) := rfl
def kIrev (r : R (W × Env)) : R (List D × Env) := r.bind fun x => kIrev2 (itemsO x.1.frz) x.2
theorem dIrev_e (a : Dn) (ρ : Env) : dIrev a ρ = kIrev (a.v ρ) := rfl
theorem kIrev_ok (w : W) (ρ : Env) : kIrev (.ok (w, ρ)) = kIrev2 (itemsO w.frz) ρ := rfl
theorem zip_l (a b : List D) : zipO [.lst a, .lst b] = some (zipD a b) := rfl
theorem zip_t (a b : List D) : zipO [.tup a, .tup b] = some (zipD a b) := rfl
theorem zip_tl (a b : List D) : zipO [.tup a, .lst b] = some (zipD a b) := rfl
theorem zip_lt (a b : List D) : zipO [.lst a, .tup b] = some (zipD a b) := rfl
theorem enum_l (a : List D) : enumO [.lst a] = some (enumD 0 a) := rfl
theorem enum_t (a : List D) : enumO [.tup a] = some (enumD 0 a) := rfl
/-! ### tests of a comprehension, its turns -/
theorem dIf_n (ρ : Env) : dIf [] ρ = .ok (true, ρ) := rfl
theorem dIf_1 (a : Dn) (ρ : Env) : dIf [a] ρ = a.t ρ := rfl
def kTurn1 (r : R (W × Env)) : R (Option D × Env) := r.bind fun y => .ok (some y.1.frz, y.2)
theorem kTurn1_ok (w : W) (ρ : Env) : kTurn1 (.ok (w, ρ)) = .ok (some w.frz, ρ) := rfl
def kTurn (r : R (Bool × Env)) (e : Dn) : R (Option D × Env) := r.bind fun b => match b.1 with
  | false => .ok (none, b.2)
  | true => kTurn1 (e.v b.2)
theorem dTurn_e (cs : List Dn) (e : Dn) (ρ : Env) : dTurn cs e ρ = kTurn (dIf cs ρ) e := rfl
theorem kTurn_f (ρ : Env) (e : Dn) : kTurn (.ok (false, ρ)) e = .ok (none, ρ) := rfl
theorem kTurn_t (ρ : Env) (e : Dn) : kTurn (.ok (true, ρ)) e = kTurn1 (e.v ρ) := rfl
theorem wipe_n (ρ : Env) : wipeE ρ [] = ρ := rfl
theorem wipe_c (ρ : Env) (i : Nat) (r : List Nat) : wipeE ρ (i :: r) = st (wipeE ρ r) i none := rfl
theorem rest_n (ρ0 ρ : Env) : restE ρ0 ρ [] = ρ := rfl
theorem rest_c (ρ0 ρ : Env) (i : Nat) (r : List Nat) : restE ρ0 ρ (i :: r) = st (restE ρ0 ρ r) i (shO (gt ρ0 i)) := rfl
theorem shO_n : shO none = none := rfl
theorem shO_sh (d : D) : shO (some (.sh d)) = some (.sh d) := rfl
theorem shO_ol (l : List D) : shO (some (.ol l)) = none := rfl
/-! ### statements -/
def kAsg2 (r : R Env) : R (Fl × Env) := r.bind fun ρ => .ok (.nx, ρ)
theorem kAsg2_ok (ρ : Env) : kAsg2 (.ok ρ) = .ok (.nx, ρ) := rfl
def kAsg (r : R (W × Env)) (t : T) : R (Fl × Env) := r.bind fun x => kAsg2 (setT t x.1.frz x.2)
theorem asg_e (k : Cl) (t : T) (e : E) (ρ : Env) : exec k (.asg t e) ρ = kAsg ((den k e).v ρ) t := rfl
theorem kAsg_ok (w : W) (ρ : Env) (t : T) : kAsg (.ok (w, ρ)) t = kAsg2 (setT t w.frz ρ) := rfl
theorem kAsg_ex (c : String) (fs : Xfs) (ρ : Env) (t : T) : kAsg (.ex c fs ρ) t = .ex c fs ρ := rfl
theorem setT_v (i : Nat) (d : D) (ρ : Env) : setT (.v i) d ρ = .ok (st ρ i (some (.sh d))) := rfl
theorem setT_tt (ts : List T) (ds : List D) (ρ : Env) : setT (.t ts) (.tup ds) ρ = setTs ts ds ρ := rfl
theorem setT_tl (ts : List T) (ds : List D) (ρ : Env) : setT (.t ts) (.lst ds) ρ = setTs ts ds ρ := rfl
def kSt (r : R Env) (ts : List T) (ds : List D) : R Env := r.bind fun ρ => setTs ts ds ρ
theorem setTs_n (ρ : Env) : setTs [] [] ρ = .ok ρ := rfl
theorem setTs_c (t : T) (ts : List T) (d : D) (ds : List D) (ρ : Env) : setTs (t :: ts) (d :: ds) ρ = kSt (setT t d ρ) ts ds := rfl
theorem kSt_ok (ρ : Env) (ts : List T) (ds : List D) : kSt (.ok ρ) ts ds = setTs ts ds ρ := rfl
def kPar2 (r : R (W × Env)) (d : D) (i j : Nat) : R (Fl × Env) := r.bind fun y => .ok (.nx, st (st y.2 i (some (.sh d))) j (some (.sh y.1.frz)))
theorem kPar2_ok (w : W) (ρ : Env) (d : D) (i j : Nat) : kPar2 (.ok (w, ρ)) d i j = .ok (.nx, st (st ρ i (some (.sh d))) j (some (.sh w.frz))) := rfl
def kPar1 (r : R (W × Env)) (b : Dn) (i j : Nat) : R (Fl × Env) := r.bind fun x => kPar2 (b.v x.2) x.1.frz i j
theorem kPar1_ok (w : W) (ρ : Env) (b : Dn) (i j : Nat) : kPar1 (.ok (w, ρ)) b i j = kPar2 (b.v ρ) w.frz i j := rfl
theorem par_e (k : Cl) (i j : Nat) (a b : E) (ρ : Env) : exec k (.par i j a b) ρ = kPar1 ((den k a).v ρ) (den k b) i j := rfl
def kWhl (w : Nat) (k : Cl) (t : E) (b : List S) (ρ : Env) : R (Fl × Env) := whlL (den k t).t (execs k b) w ρ
theorem whl_e (k : Cl) (t : E) (b : List S) (ρ : Env) : exec k (.whl t b) ρ = kWhl k.wf k t b ρ := rfl
/-! ### built-ins -/
theorem isa_e (ts : List Ty) (d : D) (h : isIns d = false) : biO (.isa ts) [d] = .ok (.sh (.bl (ts.any fun t => isaD t d))) := by
  show (if isIns d = true then _ else _) = _
  rw [h]; rfl
def kAll (o : Option (List Bool)) : R W := (ofO o).bind fun bs => .ok (.sh (.bl (bs.all id)))
theorem all_l (l : List D) : biO .all [.lst l] = kAll (blsOf l) := rfl
theorem kAll_ok (bs : List Bool) : kAll (some bs) = .ok (.sh (.bl (bs.all id))) := rfl
def kAny (o : Option (List Bool)) : R W := (ofO o).bind fun bs => .ok (.sh (.bl (bs.any id)))
theorem any_l (l : List D) : biO .any [.lst l] = kAny (blsOf l) := rfl
theorem kAny_ok (bs : List Bool) : kAny (some bs) = .ok (.sh (.bl (bs.any id))) := rfl
theorem kRp_ok (s : PySem.Str) : kRp (some s) = .ok (.sh (.str s)) := rfl
theorem blsOf_map (bs : List Bool) : blsOf (bs.map D.bl) = some bs := by
  induction bs with
  | nil => rfl
  | cons a l ih => simp [blsOf, ih]
theorem within_i {i : Int} (h1 : -4611686018427387904 ≤ i) (h2 : i < 4611686018427387904) : within i = true := by
  unfold within
  simp
  exact ⟨h1, h2⟩
theorem rng1 (n : Nat) (h : n ≤ line) : rngO [.int (n : Int)] = some ((List.range n).map fun (k : Nat) => D.int (k : Int)) := by
  have hl : line = 16777216 := rfl
  have hw : within (n : Int) = true := within_i (by omega) (by omega)
  have e : rngO [.int (n : Int)] = if (within (n : Int) && decide ((n : Int).toNat ≤ line)) = true then some (rngL 0 1 (n : Int).toNat) else none := rfl
  rw [e, hw]
  simp only [Int.toNat_natCast, Bool.true_and, decide_eq_true h, if_true]
  unfold rngL
  simp
theorem rng2 (i : Int) (n : Nat) (h1 : -4611686018427387904 ≤ i) (h2 : i + n < 4611686018427387904) (h : n ≤ line) :
    rngO [.int i, .int (i + n)] = some ((List.range n).map fun (k : Nat) => D.int (i + k)) := by
  have hw : within i = true := within_i (by omega) (by omega)
  have hw2 : within (i + n) = true := within_i (by omega) (by omega)
  have e : (i + n - i).toNat = n := by omega
  have e2 : rngO [.int i, .int (i + n)] = if (within i && within (i + n) && decide ((i + n - i).toNat ≤ line)) = true then some (rngL i 1 (i + n - i).toNat) else none := rfl
  rw [e2, hw, hw2, e]
  simp only [Bool.true_and, decide_eq_true h, if_true]
  unfold rngL
  simp
/-! ### slots -/
theorem st_stq (ρ : Env) (i : Nat) (x y : Option W) : st (st ρ i x) i y = st ρ i y := by
  induction ρ generalizing i with
  | nil => rfl
  | cons o l ih => cases i with
    | zero => rfl
    | succ i => exact congrArg (o :: ·) (ih i)
theorem st_comm (ρ : Env) (i j : Nat) (x y : Option W) (h : i ≠ j) : st (st ρ i x) j y = st (st ρ j y) i x := by
  induction ρ generalizing i j with
  | nil => rfl
  | cons o l ih => cases i with
    | zero => cases j with
      | zero => exact absurd rfl h
      | succ j => rfl
    | succ i => cases j with
      | zero => rfl
      | succ j => exact congrArg (o :: ·) (ih i j (by omega))
theorem rest_stA (ρ0 X : Env) (i : Nat) (w y : Option W) : ∀ r, st (restE ρ0 (st X i w) r) i y = st (restE ρ0 X r) i y
  | [] => st_stq _ _ _ _
  | j :: r => by
    by_cases h : j = i
    · subst h
      rw [rest_c, rest_c, st_stq, st_stq]
      exact rest_stA ρ0 X j w y r
    · rw [rest_c, rest_c, st_comm _ j i _ _ h, st_comm _ j i _ _ h, rest_stA ρ0 X i w y r]
theorem rest_wipe (ρ0 X : Env) : ∀ own, restE ρ0 (wipeE X own) own = restE ρ0 X own
  | [] => rfl
  | i :: r => by
    rw [rest_c, rest_c, wipe_c, rest_stA, rest_wipe ρ0 X r]
/-- a comprehension whose turns change nothing but its own names -/
theorem comp_run {t : T} {own : List Nat} {cs : List Dn} {e : Dn} (g : D → Option D) (ds : List D) (ρ : Env)
    (hs : ∀ d ∈ ds, ∃ ρ1 ρ2, setT t d (wipeE ρ own) = .ok ρ1 ∧ dTurn cs e ρ1 = .ok (g d, ρ2) ∧ wipeE ρ2 own = wipeE ρ own) (hw : wipeE (wipeE ρ own) own = wipeE ρ own) :
    kComp (.ok (ds, ρ)) e t cs own = .ok (.ol (ds.filterMap g), restE ρ (wipeE ρ own) own) := by
  obtain ⟨ρ', e1, e2⟩ := cmpL_gives (wipeE ρ own) g ds (wipeE ρ own) hw hs
  rw [kComp_ok, e1, kComp2_ok, ← rest_wipe ρ ρ' own, e2]
/-- a comprehension with an invariant: what is made, what is to come -/
theorem cmpL_inv {t : T} {own : List Nat} {f : Env → R (Option D × Env)} (I : List D → List D → Env → Prop)
    (hs : ∀ acc d ds ρ, I acc (d :: ds) ρ → ∃ ρ1 o ρ2, setT t d (wipeE ρ own) = .ok ρ1 ∧ f ρ1 = .ok (o, ρ2) ∧ I (acc ++ o.toList) ds ρ2) :
    ∀ ds acc ρ, I acc ds ρ → ∃ l ρ', cmpL t own f ds ρ = .ok (l, ρ') ∧ I (acc ++ l) [] ρ'
  | [], acc, ρ, h => ⟨[], ρ, rfl, by simpa using h⟩
  | d :: ds, acc, ρ, h => by
    obtain ⟨ρ1, o, ρ2, e1, e2, h2⟩ := hs acc d ds ρ h
    obtain ⟨l, ρ', e3, h3⟩ := cmpL_inv I hs ds _ ρ2 h2
    refine ⟨o.toList ++ l, ρ', ?_, by simpa using h3⟩
    unfold cmpL
    rw [e1]
    show ((f ρ1).bind _) = _
    rw [e2]
    show ((cmpL t own f ds ρ2).bind _) = _
    rw [e3]
    rfl
/-- one of a list's items -/
theorem getL_mem {α : Type} {l : List α} {i : Int} (h0 : 0 ≤ i) (h : i < l.length) : ∃ a, getL l i = some a ∧ a ∈ l := by
  obtain ⟨k, rfl⟩ := Int.eq_ofNat_of_zero_le h0
  have hk : k < l.length := by simpa using h
  exact ⟨l[k], by rw [getL_nat, List.getElem?_eq_getElem hk], List.getElem_mem hk⟩
theorem isa_int_n : isaD .int .non = false := rfl
theorem isa_int_b (x : Bool) : isaD .int (.bl x) = true := rfl
theorem isa_int_i (x : Int) : isaD .int (.int x) = true := rfl
theorem isa_int_s (x : PySem.Str) : isaD .int (.str x) = false := rfl
theorem isa_int_t (x : List D) : isaD .int (.tup x) = false := rfl
theorem isa_int_l (x : List D) : isaD .int (.lst x) = false := rfl
theorem isa_bool_n : isaD .bool .non = false := rfl
theorem isa_bool_b (x : Bool) : isaD .bool (.bl x) = true := rfl
theorem isa_bool_i (x : Int) : isaD .bool (.int x) = false := rfl
theorem isa_bool_s (x : PySem.Str) : isaD .bool (.str x) = false := rfl
theorem isa_bool_t (x : List D) : isaD .bool (.tup x) = false := rfl
theorem isa_bool_l (x : List D) : isaD .bool (.lst x) = false := rfl
theorem isa_str_n : isaD .str .non = false := rfl
theorem isa_str_b (x : Bool) : isaD .str (.bl x) = false := rfl
theorem isa_str_i (x : Int) : isaD .str (.int x) = false := rfl
theorem isa_str_s (x : PySem.Str) : isaD .str (.str x) = true := rfl
theorem isa_str_t (x : List D) : isaD .str (.tup x) = false := rfl
theorem isa_str_l (x : List D) : isaD .str (.lst x) = false := rfl
theorem isa_list_n : isaD .list .non = false := rfl
theorem isa_list_b (x : Bool) : isaD .list (.bl x) = false := rfl
theorem isa_list_i (x : Int) : isaD .list (.int x) = false := rfl
theorem isa_list_s (x : PySem.Str) : isaD .list (.str x) = false := rfl
theorem isa_list_t (x : List D) : isaD .list (.tup x) = false := rfl
theorem isa_list_l (x : List D) : isaD .list (.lst x) = true := rfl
theorem isa_tuple_n : isaD .tuple .non = false := rfl
theorem isa_tuple_b (x : Bool) : isaD .tuple (.bl x) = false := rfl
theorem isa_tuple_i (x : Int) : isaD .tuple (.int x) = false := rfl
theorem isa_tuple_s (x : PySem.Str) : isaD .tuple (.str x) = false := rfl
theorem isa_tuple_t (x : List D) : isaD .tuple (.tup x) = true := rfl
theorem isa_tuple_l (x : List D) : isaD .tuple (.lst x) = false := rfl
theorem isIns_n : isIns .non = false := rfl
theorem isIns_b (x : Bool) : isIns (.bl x) = false := rfl
theorem isIns_i (x : Int) : isIns (.int x) = false := rfl
theorem isIns_s (x : PySem.Str) : isIns (.str x) = false := rfl
theorem isIns_t (x : List D) : isIns (.tup x) = false := rfl
theorem isIns_l (x : List D) : isIns (.lst x) = false := rfl
theorem anyT_1 (f : Ty → Bool) (a : Ty) : List.any [a] f = f a := by simp
theorem anyT_2 (f : Ty → Bool) (a b : Ty) : List.any [a, b] f = (f a || f b) := by simp
theorem pow_10_18 : binO .pow (.int 10) (.int 18) = .ok (.sh (.int 1000000000000000000)) := rfl
theorem pow_10_30 : binO .pow (.int 10) (.int 30) = .ok (.sh (.int 1000000000000000000000000000000)) := rfl
theorem tru_neq (b : Bool) : (b != true) = !b := by cases b <;> rfl
theorem ln_1 : (1 ≤ line) = True := by unfold line; simp
theorem ln_2 : (2 ≤ line) = True := by unfold line; simp
theorem ln_3 : (3 ≤ line) = True := by unfold line; simp
theorem ln_4 : (4 ≤ line) = True := by unfold line; simp
theorem ln_5 : (5 ≤ line) = True := by unfold line; simp
theorem ln_6 : (6 ≤ line) = True := by unfold line; simp
theorem ln_7 : (7 ≤ line) = True := by unfold line; simp
theorem ln_8 : (8 ≤ line) = True := by unfold line; simp
theorem ln_9 : (9 ≤ line) = True := by unfold line; simp
theorem ln_10 : (10 ≤ line) = True := by unfold line; simp
theorem ln_11 : (11 ≤ line) = True := by unfold line; simp
theorem ln_12 : (12 ≤ line) = True := by unfold line; simp
theorem ln_13 : (13 ≤ line) = True := by unfold line; simp
theorem ln_14 : (14 ≤ line) = True := by unfold line; simp
theorem ln_15 : (15 ≤ line) = True := by unfold line; simp
theorem ln_16 : (16 ≤ line) = True := by unfold line; simp
theorem ln_17 : (17 ≤ line) = True := by unfold line; simp
theorem ln_18 : (18 ≤ line) = True := by unfold line; simp
theorem ln_19 : (19 ≤ line) = True := by unfold line; simp
theorem ln_20 : (20 ≤ line) = True := by unfold line; simp
theorem ln_21 : (21 ≤ line) = True := by unfold line; simp
theorem ln_22 : (22 ≤ line) = True := by unfold line; simp
theorem ln_23 : (23 ≤ line) = True := by unfold line; simp
theorem ln_24 : (24 ≤ line) = True := by unfold line; simp
theorem ln_25 : (25 ≤ line) = True := by unfold line; simp
def kFin (o : Option (List W)) (w : W) : RF := match o with
  | some os => .ok w os
  | none => .bad
theorem finW_e (fd : Fd) (ws : List W) (w : W) (ρ : Env) : finW fd ws w ρ = kFin (outs ρ fd.br ws 0) w := rfl
theorem kFin_ok (os : List W) (w : W) : kFin (some os) w = .ok w os := rfl
def kOut (o : Option W) (r : Option (List W)) : Option (List W) := match o, r with
  | some o, some os => some (o :: os)
  | _, _ => none
theorem outs_n (ρ : Env) (bs : List Bool) (i : Nat) : outs ρ bs [] i = some [] := by unfold outs; rfl
theorem outs_f (ρ : Env) (bs : List Bool) (w : W) (ws : List W) (i : Nat) : outs ρ (false :: bs) (w :: ws) i = kOut (some (.sh .non)) (outs ρ bs ws (i + 1)) := rfl
theorem outs_t (ρ : Env) (bs : List Bool) (w : W) (ws : List W) (i : Nat) : outs ρ (true :: bs) (w :: ws) i = kOut (gt ρ i) (outs ρ bs ws (i + 1)) := rfl
theorem kOut_ok (o : W) (os : List W) : kOut (some o) (some os) = some (o :: os) := rfl
theorem nodup_0 : decide ([] : List Nat).Nodup = true := rfl
theorem nodup_1 (i : Nat) : decide [i].Nodup = true := by simp
theorem nodup_2 (i j : Nat) : decide [i, j].Nodup = !decide (i = j) := by simp
end Z

set_option Elab.async false
set_option linter.all false
set_option maxRecDepth 100000
set_option maxHeartbeats 4000000
/-! Zr: shown texts: that they are there, and are texts that compare. -/
namespace Z
open PySem (Str PyData)
open PySem.PyData (strOk)
theorem ok_of (s : String) : strOk (Str.ofString s) = true := by
  unfold strOk
  rw [Str.ofString_eq_toList]
  rw [List.all_toArray]
  rw [List.all_eq_true]
  intro c hc
  obtain ⟨x, _, rfl⟩ := List.mem_map.mp hc
  have hv := x.valid
  have : x.toNat < 1114112 := by
    have h2 : x.val.toNat < 0xD800 ∨ (0xDFFF < x.val.toNat ∧ x.val.toNat < 0x110000) := hv
    show x.val.toNat < _
    omega
  simpa using this
theorem ok_app (a b : Str) : strOk (a ++ b) = (strOk a && strOk b) := by
  show (a.cps ++ b.cps).all _ = _
  rw [Array.all_append]; rfl
theorem ok_join (sep : Str) (hs : strOk sep = true) : ∀ ts : List Str, (∀ t ∈ ts, strOk t = true) → strOk (Str.join sep ts) = true
  | [], _ => by unfold Str.join; exact ok_of ""
  | [x], h => by unfold Str.join; exact h x (by simp)
  | x :: y :: r, h => by
    have := ok_join sep hs (y :: r) fun t ht => h t (List.mem_cons_of_mem _ ht)
    show strOk (x ++ sep ++ Str.join sep (y :: r)) = true
    rw [ok_app, ok_app, h x (by simp), hs, this]; rfl
theorem ok_textFrom : ∀ (ts : List Str) (k : Nat) (acc : Str), strOk acc = true → (∀ t ∈ ts, strOk t = true) → strOk (PySem.textFrom k acc ts) = true
  | [], k, acc, ha, _ => ha
  | t :: r, k, acc, ha, h => by
    unfold PySem.textFrom
    apply ok_textFrom r
    · rw [ok_app, ok_app, ha, h t (by simp), ok_of]; rfl
    · exact fun u hu => h u (by simp [hu])
theorem ok_listText (ts : List Str) (h : ∀ t ∈ ts, strOk t = true) : strOk (PySem.listText ts) = true := by
  unfold PySem.listText
  rw [ok_app, ok_textFrom ts 0 _ (ok_of _) h, ok_of]; rfl
theorem ok_tupleText (ts : List Str) (h : ∀ t ∈ ts, strOk t = true) : strOk (PySem.tupleText ts) = true := by
  unfold PySem.tupleText
  rw [ok_app, ok_app, ok_join _ (ok_of _) ts h, ok_of, ok_of]; rfl
theorem ok_reprChar (q c : Nat) (hq : q < 1114112) (hc : c < 1114112) : ∀ d ∈ PySem.Builtin.Str.reprChar q c, d < 1114112 := by
  have hx : ∀ (w : Nat), ∀ d ∈ (List.replicate (w - ((Nat.toDigits 16 c).map Char.toNat).length) 48 ++ (Nat.toDigits 16 c).map Char.toNat), d < 1114112 := by
    intro w d hd
    rcases List.mem_append.mp hd with hd | hd
    · have := List.eq_of_mem_replicate hd; omega
    · obtain ⟨x, _, rfl⟩ := List.mem_map.mp hd
      have h2 : x.val.toNat < 0xD800 ∨ (0xDFFF < x.val.toNat ∧ x.val.toNat < 0x110000) := x.valid
      show x.val.toNat < _
      omega
  intro d hd
  unfold PySem.Builtin.Str.reprChar at hd
  simp only at hd
  split at hd
  · simp at hd; omega
  split at hd
  · simp at hd; omega
  split at hd
  · simp at hd; omega
  split at hd
  · simp at hd; omega
  split at hd
  · simp at hd; omega
  split at hd
  · rcases List.mem_append.mp hd with hd | hd
    · simp at hd; omega
    · exact hx 2 d hd
  split at hd
  · rcases List.mem_append.mp hd with hd | hd
    · simp at hd; omega
    · exact hx 4 d hd
  · rcases List.mem_append.mp hd with hd | hd
    · simp at hd; omega
    · exact hx 8 d hd
theorem ok_reprText (x : Str) (h : strOk x = true) : strOk (PySem.reprText x) = true := by
  have hc : ∀ c ∈ x.cps.toList, c < 1114112 := by
    have h0 : x.cps.all (· < 0x110000) = true := h
    rw [← Array.all_toList, List.all_eq_true] at h0
    intro c hm
    simpa using h0 c hm
  have hq : PySem.reprQuote x < 1114112 := by unfold PySem.reprQuote; split <;> omega
  have hf : ∀ (l : List Nat) (acc : Array Nat), (∀ c ∈ l, c < 1114112) → acc.all (· < 0x110000) = true → (l.foldl (fun out c => out ++ (PySem.Builtin.Str.reprChar (PySem.reprQuote x) c).toArray) acc).all (· < 0x110000) = true := by
    intro l
    induction l with
    | nil => intro acc _ h; exact h
    | cons c r ih =>
      intro acc hl ha
      rw [List.foldl_cons]
      refine ih _ (fun d hd => hl d (by simp [hd])) ?_
      rw [Array.all_append, ha, List.all_toArray]
      simp only [Bool.true_and, List.all_eq_true]
      intro d hd
      simpa using ok_reprChar _ _ hq (hl c (by simp)) d hd
  unfold strOk PySem.reprText
  simp only
  rw [Array.all_push, ← Array.foldl_toList, hf x.cps.toList _ hc (by simpa using hq)]
  simpa using hq
mutual
theorem ok_shown : ∀ d : PyData, d.canLay0 = true → strOk d.shown = true
  | .none, _ => ok_of _
  | .bool b, _ => by cases b <;> exact ok_of _
  | .int i, _ => ok_of _
  | .str x, h => ok_reprText x (by simpa [PyData.canLay0] using h)
  | .list xs, h => by
    simp only [PyData.shown]
    exact ok_listText _ (ok_shownAll xs (by simpa [PyData.canLay0] using h))
  | .tuple xs, h => by
    simp only [PyData.shown]
    exact ok_tupleText _ (ok_shownAll xs (by simpa [PyData.canLay0] using h))
  | .dict _, h => by simp [PyData.canLay0] at h
theorem ok_shownAll : ∀ xs : List PyData, PyData.canLayAll0 xs = true → ∀ t ∈ PyData.shownAll xs, strOk t = true
  | [], _, t, ht => by simp [PyData.shownAll] at ht
  | x :: xs, h, t, ht => by
    have h' : x.canLay0 = true ∧ PyData.canLayAll0 xs = true := by simpa [PyData.canLayAll0] using h
    simp only [PyData.shownAll, List.mem_cons] at ht
    rcases ht with rfl | ht
    · exact ok_shown x h'.1
    · exact ok_shownAll xs h'.2 t ht
end
/-! ### data that is shown -/
mutual
/-- k bounds the depth, n the weight -/
inductive Pr : Nat → Nat → D → Prop
  | non {k n} : Pr k n .non
  | bl {k n} (b : Bool) : Pr k n (.bl b)
  | int {k n} (i : Int) : i.natAbs < 1000000000000 → 40 ≤ n → Pr k n (.int i)
  | str {k n} (s : Str) : strOk s = true → s.length ≤ n → Pr k n (.str s)
  | tup {k n} (l : List D) : Prs k n l → Pr (k + 1) n (.tup l)
  | lst {k n} (l : List D) : Prs k n l → Pr (k + 1) n (.lst l)
inductive Prs : Nat → Nat → List D → Prop
  | nil {k n} : Prs k n []
  | cons {k n m} (d : D) (l : List D) : Pr k n d → Prs k m l → Prs k (n + 1 + m) (d :: l)
end
mutual
theorem Pr.data : ∀ {k n : Nat} {d : D}, Pr k n d → ∃ p, toP d = some p ∧ p.canLay0 = true ∧ p.leavesShort 13 = true ∧ p.showable = true ∧ p.depth ≤ k ∧ p.weight ≤ n
  | k, n, _, .non => ⟨_, rfl, rfl, rfl, rfl, Nat.zero_le _, Nat.zero_le _⟩
  | k, n, _, .bl b => ⟨_, rfl, rfl, rfl, rfl, Nat.zero_le _, Nat.zero_le _⟩
  | k, n, _, .int i h h2 => by
    refine ⟨_, rfl, by simp [PyData.canLay0], ?_, ?_, by simp [PyData.depth], ?_⟩
    · have := PySem.int_text_length_le10 (a := i) (k := 12) (by omega) (by simpa using h)
      simp only [PyData.leavesShort, PyData.shown]
      have e : (Str.ofString (toString i)).length = (toString i).length := PySem.ofString_length _
      exact decide_eq_true (show (Str.ofString (toString i)).length ≤ 13 by rw [e]; exact this)
    · have : i.natAbs < 2 ^ 1920 := Nat.lt_of_lt_of_le h (Nat.le_trans (by decide : 1000000000000 ≤ 2 ^ 40) (Nat.pow_le_pow_right (by decide) (by decide)))
      have := PySem.Spec.log2_small this
      simp only [PyData.showable]
      simpa using this
    · simp only [PyData.weight]
      split
      · omega
      · rename_i h0
        have h0' : i.natAbs ≠ 0 := by simp at h0; omega
        have : i.natAbs.log2 < 40 := (Nat.log2_lt h0').2 (by omega)
        omega
  | k, n, _, .str s h h2 => ⟨_, rfl, by simpa [PyData.canLay0] using h, by
      simp only [PyData.leavesShort, List.all_eq_true, decide_eq_true_eq]
      have h0 : s.cps.all (· < 0x110000) = true := h
      rw [← Array.all_toList, List.all_eq_true] at h0
      intro c hm
      have := h0 c hm
      simp at this
      omega, by simp only [PyData.showable], by simp [PyData.depth], by simp only [PyData.weight]; exact h2⟩
  | _, n, _, .tup l h => by
    obtain ⟨ps, e, h1, h2, h3, h4, h5⟩ := Prs.data h
    refine ⟨.tuple ps, by simp [toP, e], by simpa [PyData.canLay0] using h1, by simpa [PyData.leavesShort] using h2, by simpa [PyData.showable] using h3, by simpa [PyData.depth] using h4, by simpa [PyData.weight] using h5⟩
  | _, n, _, .lst l h => by
    obtain ⟨ps, e, h1, h2, h3, h4, h5⟩ := Prs.data h
    refine ⟨.list ps, by simp [toP, e], by simpa [PyData.canLay0] using h1, by simpa [PyData.leavesShort] using h2, by simpa [PyData.showable] using h3, by simpa [PyData.depth] using h4, by simpa [PyData.weight] using h5⟩
theorem Prs.data : ∀ {k n : Nat} {l : List D}, Prs k n l → ∃ ps, toPs l = some ps ∧ PyData.canLayAll0 ps = true ∧ PyData.leavesShortAll 13 ps = true ∧ PyData.showableAll ps = true ∧ PyData.depthAll ps ≤ k ∧ PyData.weightAll ps ≤ n
  | k, n, _, .nil => ⟨[], rfl, rfl, rfl, rfl, Nat.zero_le _, Nat.zero_le _⟩
  | k, _, _, .cons (n := n) (m := m) d l h hl => by
    obtain ⟨p, e, h1, h2, h3, h4, h5⟩ := Pr.data h
    obtain ⟨ps, e', h1', h2', h3', h4', h5'⟩ := Prs.data hl
    refine ⟨p :: ps, by simp [toPs, e, e'], by simp [PyData.canLayAll0, h1, h1'], by simp [PyData.leavesShortAll, h2, h2'], by simp [PyData.showableAll, h3, h3'], ?_, ?_⟩
    · simp only [PyData.depthAll]; omega
    · simp only [PyData.weightAll]; omega
end
theorem Prs.of {k n : Nat} : ∀ {l : List D}, (∀ d ∈ l, Pr k n d) → Prs k (l.length * (n + 1)) l
  | [], _ => .nil
  | d :: l, h => by
    have := Prs.cons d l (h d (by simp)) (Prs.of fun x hx => h x (by simp [hx]))
    have e : n + 1 + l.length * (n + 1) = (d :: l).length * (n + 1) := by rw [List.length_cons, Nat.add_mul]; omega
    rwa [e] at this
mutual
theorem Pr.mono : ∀ {k n k' n' : Nat} {d : D}, Pr k n d → k ≤ k' → n ≤ n' → Pr k' n' d
  | _, _, _, _, _, .non, _, _ => .non
  | _, _, _, _, _, .bl b, _, _ => .bl b
  | _, _, _, _, _, .int i h h2, _, hn => .int i h (by omega)
  | _, _, _, _, _, .str s h h2, _, hn => .str s h (by omega)
  | _, _, 0, _, _, .tup l h, hk, _ => by omega
  | _, _, k' + 1, _, _, .tup l h, hk, hn => .tup l (Prs.mono h (by omega) hn)
  | _, _, 0, _, _, .lst l h, hk, _ => by omega
  | _, _, k' + 1, _, _, .lst l h, hk, hn => .lst l (Prs.mono h (by omega) hn)
theorem Prs.mono : ∀ {k n k' n' : Nat} {l : List D}, Prs k n l → k ≤ k' → n ≤ n' → Prs k' n' l
  | _, _, _, _, _, .nil, _, _ => .nil
  | _, _, _, n', _, .cons (n := n) (m := m) d l h hl, hk, hn => by
    have := Prs.cons d l (Pr.mono h hk (Nat.le_refl n)) (Prs.mono hl hk (show m ≤ n' - (n + 1) by omega))
    have e : n + 1 + (n' - (n + 1)) = n' := by omega
    rwa [e] at this
end
theorem Pr.ints (ns : List Int) (h : ∀ i ∈ ns, i.natAbs < 1000000000000) : Prs 0 (ns.length * 41) (ns.map D.int) := by
  have := Prs.of (k := 0) (n := 40) (l := ns.map D.int) fun d hd => by
    obtain ⟨i, hi, rfl⟩ := List.mem_map.mp hd
    exact .int i (h i hi) (Nat.le_refl _)
  simpa using this
/-- the shown text -/
def shD (d : D) : Str := (reprO d).getD Str.empty
/-- small enough to be shown -/
def Pd (d : D) : Prop := Pr 32 1048576 d
theorem reprO_ok {d : D} (h : Pd d) : reprO d = some (shD d) ∧ strOk (shD d) = true := by
  obtain ⟨p, e, h1, h2, h3, h4, h5⟩ := Pr.data h
  have h6 : p.shown.length ≤ line := PyData.shown_fits (B := 13) (by decide) (by decide) h2 h5
  have h7 := PyData.hasDict_of_canLay p h1
  have h8 : reprO d = some p.shown := by
    unfold reprO
    rw [e]
    simp [h3, h7, h4, h6]
  have h9 : shD d = p.shown := by unfold shD; rw [h8]; rfl
  exact ⟨by rw [h8, h9], by rw [h9]; exact ok_shown p h1⟩
theorem repr_run {d : D} (h : Pd d) : biO .repr [d] = .ok (.sh (.str (shD d))) := by
  rw [repr_e, (reprO_ok h).1]; rfl
theorem eqO_str {a b : Str} (ha : strOk a = true) (hb : strOk b = true) : eqO (.str a) (.str b) = some (decide (a = b)) := by
  have h1 : PySem.SeqAt.shaped (.str a) = true := by simp [PySem.SeqAt.shaped, PyData.canLay0, PyData.depth, ha]
  have h2 : PySem.SeqAt.shaped (.str b) = true := by simp [PySem.SeqAt.shaped, PyData.canLay0, PyData.depth, hb]
  show (if (PySem.SeqAt.shaped (.str a) && PySem.SeqAt.shaped (.str b)) = true then some (PyData.eqv (.str a) (.str b)) else none) = _
  rw [h1, h2]
  simp [PyData.eqv]
  rfl
theorem eqO_sh {d e : D} (h : Pd d) (h' : Pd e) : eqO (.str (shD d)) (.str (shD e)) = some (decide (shD d = shD e)) := eqO_str (reprO_ok h).2 (reprO_ok h').2
theorem eqO_same {d : D} (h : Pd d) : eqO (.str (shD d)) (.str (shD d)) = some true := by
  rw [eqO_sh h h]; simp
theorem eqO_ii (i j : Int) : eqO (.int i) (.int j) = some (decide (i = j)) := by
  show (if (PySem.SeqAt.shaped (.int i) && PySem.SeqAt.shaped (.int j)) = true then some (PyData.eqv (.int i) (.int j)) else none) = _
  simp [PySem.SeqAt.shaped, PyData.canLay0, PyData.depth, PyData.eqv]
  rfl
theorem eqO_bb (i j : Bool) : eqO (.bl i) (.bl j) = some (decide (i = j)) := by
  show (if (PySem.SeqAt.shaped (.bool i) && PySem.SeqAt.shaped (.bool j)) = true then some (PyData.eqv (.bool i) (.bool j)) else none) = _
  simp [PySem.SeqAt.shaped, PyData.canLay0, PyData.depth, PyData.eqv]
  cases i <;> cases j <;> rfl
/-- ints among ints -/
theorem inO_ints (i : Int) (ns : List Int) : inO (.int i) (ns.map D.int) = some (decide (i ∈ ns)) := by
  have h1 : (ns.map D.int).all flatD = true := by simp [flatD]
  unfold inO
  rw [h1]
  show some _ = _
  congr 1
  unfold L2.inV
  rw [List.map_map, List.any_map]
  have e : ((fun y => L2.eqV y (toV (.int i))) ∘ (toV ∘ D.int)) = fun a => a == i := by funext a; rfl
  rw [e]
  clear h1 e
  induction ns with
  | nil => rfl
  | cons a l ih =>
    rw [List.any_cons, ih]
    by_cases h : a = i
    · subst h; simp
    · have h' : ¬ i = a := fun e => h e.symm
      simp [h, h']
end Z

set_option Elab.async false
set_option linter.all false
set_option maxRecDepth 100000
set_option maxHeartbeats 0
/-! Zs: the draws and the takes that many laws begin with. -/
namespace Z
def lDraws : List S := [.asgo 5 (.var 4),
   .ife (.cmp .gt (.bi .len [.var 0]) (.int 0))
  [.asgo 7 (.bin .mod (.var 4) (.bi .len [.var 0])),
   .asgo 5 (.bi .int [.ix (.var 0) (.var 7)]),
   .ife (.and [.cmp .ge (.var 5) (.bin .pow (.int 10) (.int 18)), .cmp .gt (.ix (.var 2) (.var 7)) (.int 0)])
  [.app 3 (.bin .mod (.bi .int [.ix (.var 2) (.var 7)]) (.int 1000003)),
   .seti 2 (.var 7) (.bin .fdiv (.bi .int [.ix (.var 2) (.var 7)]) (.int 1000003)),
   .fgt [4, 5, 6, 7],
   .cnt]
  []]
  [],
   .asgo 6 (.bin .mod (.bi .int [.bin .add (.bin .add (.bin .mul (.var 5) (.int 48271)) (.bin .mul (.var 4) (.int 69621))) (.int 11)]) (.int 2147483647)),
   .asgo 6 (.bin .mod (.bi .int [.bin .add (.bin .fdiv (.bin .mul (.var 6) (.var 6)) (.int 4096)) (.var 6)]) (.int 2147483629)),
   .app 3 (.bin .mod (.bi .int [.bin .add (.bin .fdiv (.bin .mul (.var 6) (.var 6)) (.int 4096)) (.bin .mul (.var 4) (.int 7919))]) (.int 2147483629)),
   .fgt [4, 5, 6, 7]]
def bDraws : List S := [.asgo 2 (.comp (.bi .abs [.bi .int [.var 5]]) (.v 5) (.e (.var 0)) [] [5]),
   .asgo 3 (.lst []),
   .for (.v 4) (.rng [.var 1]) lDraws,
   .fgt [4, 5, 6, 7],
   .ret (.var 3)]
def dDraws : Fd := ⟨2, 8, [false, false], bDraws⟩
def bTake : List S := [.asgo 2 (.ix (.var 0) (.int 1)),
   .seti 0 (.int 1) (.bin .add (.var 2) (.int 1)),
   .asgo 3 (.ix (.var 0) (.int 0)),
   .ife (.cmp .ge (.var 2) (.bi .len [.var 3]))
  [.ret (.int 0)]
  [],
   .ret (.bin .mod (.bin .fdiv (.bi .int [.ix (.var 3) (.var 2)]) (.int 7)) (.var 1))]
def dTake : Fd := ⟨2, 4, [true, false], bTake⟩
theorem take_run {Γ : Tab} (hΓ : Γ "_law_take" = some dTake) (ds : List Int) (k : Nat) (m : Int) (hm : 0 < m) (wf n : Nat) :
   run Γ wf (n+1) "_law_take" [Hd ds k, .sh (.int m)] = .ok (.sh (.int (takeF ds k m))) [Hd ds (k+1), .sh .non] := by
  rw [run_call (fd := dTake) hΓ rfl]
  by_cases hk : k < ds.length
  · have h1 : decide ((ds.length : Int) ≤ (k : Int)) = false := by simp; omega
    have h2 : ds[k]? = some ds[k] := List.getElem?_eq_getElem hk
    have h3 : takeF ds k m = ds[k] / 7 % m := by unfold takeF; simp [hk]
    have gk : getL (ds.map D.int) (k : Int) = some (.int ds[k]) := by rw [getL_nat]; simp [h2]
    have h7 : (0 : Int) < 7 ∧ (7 : Int) < 1073741824 := by omega
    simp -implicitDefEqProofs only [dTake, bTake, h1, gk, h3, h7, hm, gt_z, gt_s, st_z, st_s, mkD_v, mkD_o, mkD_r, mkD_t, mkT_v, mkT_o, mkT_r, mkT_t, dC_e, oOf_e, kO_ok, rOf_e, kR_ok, kT2_ok, kT1_ok, tOf_e, kT_ok, evVar_e, kVar_sh, kVar_ol, kVar_od, opdV_e, kOpd_sh, kOpd_ol, kOpd_od, argV_e, kArg_sh, kArg_ol, kArg_od, look_v, look_p, kLook_sh, kLook_ol, kLook_od, kW_ok, kOp3_ok, kOp2_ok, dOp_e, kOp1_ok, add_ii, add_ll, add_tt, sub_ii, mul_ii, mul_li, mul_ti, fdiv_ii, mod_ii, lt_ii, lt_tt, gt_tt, lt_ss, le_ii, gt_ii, ge_ii, kB_ok, kBn_ok, in_l, in_t, nin_l, nin_t, is_bb, isnot_bb, is_n, isnot_n, kD_ok, ix_l, ix_t, tru_bl, tru_int, tru_l, tru_t, tru_n, len_l, len_t, abs_i, int_i, int_b, tuple_l, tuple_t, list_l, list_t, max2_ii, min2_ii, kI_ok, sum_l, sum_t, kVs2_ok, dVs_n, dVs_c, kVs_ok, kOs2_ok, dOs_n, dOs_c, kOs_ok, kAs2_ok, dAs_n, dAs_t, dAs_f, kAs_ok, dTup_e, kTup_ok, dLst_e, kLst_ok, dNeg_e, kNeg_ok, dNot_e, kNot_ok, dNotT_e, kNotT_ok, dAnd_1, dAnd_c, kAnd_t, kAnd_f, dOr_1, dOr_c, kOr_f, kOr_t, dAndT_n, dAndT_c, kAndT_t, kAndT_f, dOrT_n, dOrT_c, kOrT_t, kOrT_f, dIte_e, kIte_t, kIte_f, looks_n, kLs2_ok, looks_c, kLs_ok, kBi2_ok, dBi_e, kBi_ok, kC2_ok, kC1_ok, dCall_e, kCall_ok, kAw2_ok, argW_n, argW_v, argW_r, kAw_ok, back_n, back_v, back_r, refs_n, refs_v, refs_r, kIs2_ok, dIs_e, kIs_ok, dIe_e, kIe_ok, items_l, items_t, kComp2_ok, dComp_e, execs_n, execs_c, kS_nx, kS_rt, kS_brk, kS_cnt, asgo_e, kAsgo_ok, ex_e, kEx_ok, ret_e, kRet_ok, retn_e, cnt_e, brk_e, pass_e, ife_e, kIf_t, kIf_f, for_e, kFor_ok, kApp2_ok, kApp1_ok, kApp_t, app_e, isOl_ol, isOwn_ol, isOwn_od, kSet3_ok, kSet2_ol, kSet1_ok, kSet_ok, kSet0_t, seti_e, kAug2_ok, kAug1_ok, kAug_sh, aug_e, fgt_e, fgts_e, frz_e, frzs_e, frzE_n, frzE_c, frz1_e, kFz_s, kFz_n, frzW_sh, frzW_ol, frzW_od, frzW_oi, frzW_xc, aug_add, aug_sub, kRun_rt, kRun_nx, clK_c, clK_br, clK_wf, clK_ini, clK_g, low_c, low_br, kVar_oi, kArg_oi, kFv_ok, kFi_t, kFi_f, dFldV_e, isXc_n, isXc_sh, isXc_ol, isXc_od, isXc_oi, isXc_xc, fldX_xc, clK_n, kS_ex, kEx_ex, kAsgo_ex, kRet_ex, kRun_ex, kCx_n, kC2_ex, rse_e, kRse_ok, kRse2_1, kRse2_2, trye_e, kTry_ok, kTry_ex, kTry2_t, kTry2_f, kOx_t, outX_rt, outX_nx, clE_n, clE_c, kClW_t, clW_n, clW_sh, clW_ol, clW_xc, noX_non, noX_bl, noX_int, noX_str, noX_tup, noX_lst, noXs_n, noXs_c, kIb_ok, kIc2_ok, kIc_ok, kIx_t, kIx_f, dIdx_e, kIdx_ok, kIdx2_ok, kExt1_ok, kExt_t, ext_e, pureD_var, kPv_sh, pureD_int, pureDs_n, pureDs_c, kPd_ok, callOw_e, kOw_ok, kOw_ex, kMo3_ok, dMethO_e, kMo_ok, dIsc_var, dIsc_ix, dIsc_fld, dIsc_call, iscX_xc, iscD_ins, kDc_t, iscD_non, iscD_bl, iscD_int, iscD_str, iscD_tup, iscD_lst, fldS_sh, fldW_ins, fldW_oi, lkF_n, lkF_c, fldD_ins, dFld_e, kFld_ok, fldE_var, fldE_ix, fldE_pix, fldE_fld, fldE_call, fldE_mk, kPu_ok, dPix_e, dPcmp_e, kPl_ok, dPlen_e, pu_var, pu_int, pu_str, pu_fldv, kPf_ok, pu_fldf, pu_fldp, kPx_ok, pu_ix_, pu_pix, rOk_ok, vwW_sh, vwW_ol, vwW_od, recv_r, kRc_oi, recv_v, isR_v, isR_r, kMt_ok, kMe4_ok, kMe3_f, kMe2_ok, kMe_ok, dMeth_e, kMk3_t, mkO_ok, kMk2_ok, kMk_ok, dMk_e, kLi3_f, lenO_ok, kLi2_ok, kLi_ok, dLenI_e, setf_e, kStf_ok, setF_e, kSf_oi, fw_sh, fw_ol, fw_od, putW_n, putW_c, kSif2_oi, kSif1_ok, kSif_ok, setif_e, getL_0, getL_1, getL_2, getL_3, getL_4, getL_5, getL_6, getL_7, getL_8, getL_9, getL_10, getL_11, setL_0, setL_1, Gives, len_d, reto_e, kReto_ok, kReto_ex, retV_var, retV_dicl, retV_lst, mvW_sh, mvW_ol, mvW_od, mvW_oi, kG6_ok, get_d, kG5_ok, kG4_ok, kG3_ok, kG2_ok, kG1_ok, dGet2_e, dDicl_e, kCs2_ok, kCs1_ok, dCallS_e, kCs_ok, givB_nil, givB_n, givB_s, mergeG_nil, mergeG_n, mergeG_s, defsOf_nil, defsOf_n, defsOf_s, kPop_ol, popW_oi, dPopF_e, kChn4_ok, kChn3_f, kChn3_t, kChn2_ok, kChn1_ok, dChn_e, dOfI_e, kOfI_t, kOfI_f, dPart_n, dPart_s, kPart_ok, kSl4_ok, kSl3_ok, kSl2_ok, kSl1_ok, dSl_e, optD_non, optD_var, optD_int, optD_bin, optD_neg, optD_ix, optD_bi, optD_call, sl_l, sl_t, kRvs2_ok, dRvs_e, kRvs_ok, dTupRev_e, kTupRev_sh, kTupRev_ol, kIrev2_ok, dIrev_e, kIrev_ok, zip_l, zip_t, zip_tl, zip_lt, enum_l, enum_t, dIf_n, dIf_1, kTurn1_ok, dTurn_e, kTurn_f, kTurn_t, wipe_n, wipe_c, rest_n, rest_c, shO_n, shO_sh, shO_ol, kAsg2_ok, asg_e, kAsg_ok, kAsg_ex, setT_v, setT_tt, setT_tl, setTs_n, setTs_c, kSt_ok, kPar2_ok, kPar1_ok, par_e, whl_e, isa_e, all_l, kAll_ok, any_l, kAny_ok, kRp_ok, isa_int_n, isa_int_b, isa_int_i, isa_int_s, isa_int_t, isa_int_l, isa_bool_n, isa_bool_b, isa_bool_i, isa_bool_s, isa_bool_t, isa_bool_l, isa_str_n, isa_str_b, isa_str_i, isa_str_s, isa_str_t, isa_str_l, isa_list_n, isa_list_b, isa_list_i, isa_list_s, isa_list_t, isa_list_l, isa_tuple_n, isa_tuple_b, isa_tuple_i, isa_tuple_s, isa_tuple_t, isa_tuple_l, isIns_n, isIns_b, isIns_i, isIns_s, isIns_t, isIns_l, anyT_1, anyT_2, pow_10_18, pow_10_30, tru_neq, ln_1, ln_2, ln_3, ln_4, ln_5, ln_6, ln_7, ln_8, ln_9, ln_10, ln_11, ln_12, ln_13, ln_14, ln_15, ln_16, ln_17, ln_18, ln_19, ln_20, ln_21, ln_22, ln_23, ln_24, ln_25, finW_e, kFin_ok, outs_n, outs_f, outs_t, kOut_ok, nodup_0, nodup_1, nodup_2, callO_e, eq_e, ne_e, den, dens, denI, W.frz, Fw.frz, frzF, String.reduceEq, Option.isNone_none, Option.isNone_some, Option.map_some, Bool.true_and, Bool.false_and, Bool.false_eq_true, Bool.not_true, Bool.not_false, List.headD_cons, List.tail_cons, entry, List.map_cons, List.map_nil, List.cons_append, List.nil_append, List.replicate,  List.length_cons, List.length_nil, List.getElem?_cons_zero, List.getElem?_cons_succ, List.getElem?_map, List.length_map, Int.reduceLT, Int.reduceLE, Nat.reduceLT, Nat.reduceLeDiff, and_self, and_true, true_and, if_true, if_false, Nat.reduceAdd, Int.reduceAdd, Int.reduceMul, Int.reducePow, Int.reduceToNat, Int.reduceNeg, decide_true, decide_false, Nat.reduceEqDiff, reduceCtorEq, Bool.not_true, Bool.not_false, intsOf_map, Option.map_some, Nat.zero_le, pow_10_18, fgt_e, fgts_e]
    rfl
  · have h1 : decide ((ds.length : Int) ≤ (k : Int)) = true := by simp; omega
    have h3 : takeF ds k m = 0 := by unfold takeF; simp [hk]
    simp -implicitDefEqProofs only [dTake, bTake, h1, h3, gt_z, gt_s, st_z, st_s, mkD_v, mkD_o, mkD_r, mkD_t, mkT_v, mkT_o, mkT_r, mkT_t, dC_e, oOf_e, kO_ok, rOf_e, kR_ok, kT2_ok, kT1_ok, tOf_e, kT_ok, evVar_e, kVar_sh, kVar_ol, kVar_od, opdV_e, kOpd_sh, kOpd_ol, kOpd_od, argV_e, kArg_sh, kArg_ol, kArg_od, look_v, look_p, kLook_sh, kLook_ol, kLook_od, kW_ok, kOp3_ok, kOp2_ok, dOp_e, kOp1_ok, add_ii, add_ll, add_tt, sub_ii, mul_ii, mul_li, mul_ti, fdiv_ii, mod_ii, lt_ii, lt_tt, gt_tt, lt_ss, le_ii, gt_ii, ge_ii, kB_ok, kBn_ok, in_l, in_t, nin_l, nin_t, is_bb, isnot_bb, is_n, isnot_n, kD_ok, ix_l, ix_t, tru_bl, tru_int, tru_l, tru_t, tru_n, len_l, len_t, abs_i, int_i, int_b, tuple_l, tuple_t, list_l, list_t, max2_ii, min2_ii, kI_ok, sum_l, sum_t, kVs2_ok, dVs_n, dVs_c, kVs_ok, kOs2_ok, dOs_n, dOs_c, kOs_ok, kAs2_ok, dAs_n, dAs_t, dAs_f, kAs_ok, dTup_e, kTup_ok, dLst_e, kLst_ok, dNeg_e, kNeg_ok, dNot_e, kNot_ok, dNotT_e, kNotT_ok, dAnd_1, dAnd_c, kAnd_t, kAnd_f, dOr_1, dOr_c, kOr_f, kOr_t, dAndT_n, dAndT_c, kAndT_t, kAndT_f, dOrT_n, dOrT_c, kOrT_t, kOrT_f, dIte_e, kIte_t, kIte_f, looks_n, kLs2_ok, looks_c, kLs_ok, kBi2_ok, dBi_e, kBi_ok, kC2_ok, kC1_ok, dCall_e, kCall_ok, kAw2_ok, argW_n, argW_v, argW_r, kAw_ok, back_n, back_v, back_r, refs_n, refs_v, refs_r, kIs2_ok, dIs_e, kIs_ok, dIe_e, kIe_ok, items_l, items_t, kComp2_ok, dComp_e, execs_n, execs_c, kS_nx, kS_rt, kS_brk, kS_cnt, asgo_e, kAsgo_ok, ex_e, kEx_ok, ret_e, kRet_ok, retn_e, cnt_e, brk_e, pass_e, ife_e, kIf_t, kIf_f, for_e, kFor_ok, kApp2_ok, kApp1_ok, kApp_t, app_e, isOl_ol, isOwn_ol, isOwn_od, kSet3_ok, kSet2_ol, kSet1_ok, kSet_ok, kSet0_t, seti_e, kAug2_ok, kAug1_ok, kAug_sh, aug_e, fgt_e, fgts_e, frz_e, frzs_e, frzE_n, frzE_c, frz1_e, kFz_s, kFz_n, frzW_sh, frzW_ol, frzW_od, frzW_oi, frzW_xc, aug_add, aug_sub, kRun_rt, kRun_nx, clK_c, clK_br, clK_wf, clK_ini, clK_g, low_c, low_br, kVar_oi, kArg_oi, kFv_ok, kFi_t, kFi_f, dFldV_e, isXc_n, isXc_sh, isXc_ol, isXc_od, isXc_oi, isXc_xc, fldX_xc, clK_n, kS_ex, kEx_ex, kAsgo_ex, kRet_ex, kRun_ex, kCx_n, kC2_ex, rse_e, kRse_ok, kRse2_1, kRse2_2, trye_e, kTry_ok, kTry_ex, kTry2_t, kTry2_f, kOx_t, outX_rt, outX_nx, clE_n, clE_c, kClW_t, clW_n, clW_sh, clW_ol, clW_xc, noX_non, noX_bl, noX_int, noX_str, noX_tup, noX_lst, noXs_n, noXs_c, kIb_ok, kIc2_ok, kIc_ok, kIx_t, kIx_f, dIdx_e, kIdx_ok, kIdx2_ok, kExt1_ok, kExt_t, ext_e, pureD_var, kPv_sh, pureD_int, pureDs_n, pureDs_c, kPd_ok, callOw_e, kOw_ok, kOw_ex, kMo3_ok, dMethO_e, kMo_ok, dIsc_var, dIsc_ix, dIsc_fld, dIsc_call, iscX_xc, iscD_ins, kDc_t, iscD_non, iscD_bl, iscD_int, iscD_str, iscD_tup, iscD_lst, fldS_sh, fldW_ins, fldW_oi, lkF_n, lkF_c, fldD_ins, dFld_e, kFld_ok, fldE_var, fldE_ix, fldE_pix, fldE_fld, fldE_call, fldE_mk, kPu_ok, dPix_e, dPcmp_e, kPl_ok, dPlen_e, pu_var, pu_int, pu_str, pu_fldv, kPf_ok, pu_fldf, pu_fldp, kPx_ok, pu_ix_, pu_pix, rOk_ok, vwW_sh, vwW_ol, vwW_od, recv_r, kRc_oi, recv_v, isR_v, isR_r, kMt_ok, kMe4_ok, kMe3_f, kMe2_ok, kMe_ok, dMeth_e, kMk3_t, mkO_ok, kMk2_ok, kMk_ok, dMk_e, kLi3_f, lenO_ok, kLi2_ok, kLi_ok, dLenI_e, setf_e, kStf_ok, setF_e, kSf_oi, fw_sh, fw_ol, fw_od, putW_n, putW_c, kSif2_oi, kSif1_ok, kSif_ok, setif_e, getL_0, getL_1, getL_2, getL_3, getL_4, getL_5, getL_6, getL_7, getL_8, getL_9, getL_10, getL_11, setL_0, setL_1, Gives, len_d, reto_e, kReto_ok, kReto_ex, retV_var, retV_dicl, retV_lst, mvW_sh, mvW_ol, mvW_od, mvW_oi, kG6_ok, get_d, kG5_ok, kG4_ok, kG3_ok, kG2_ok, kG1_ok, dGet2_e, dDicl_e, kCs2_ok, kCs1_ok, dCallS_e, kCs_ok, givB_nil, givB_n, givB_s, mergeG_nil, mergeG_n, mergeG_s, defsOf_nil, defsOf_n, defsOf_s, kPop_ol, popW_oi, dPopF_e, kChn4_ok, kChn3_f, kChn3_t, kChn2_ok, kChn1_ok, dChn_e, dOfI_e, kOfI_t, kOfI_f, dPart_n, dPart_s, kPart_ok, kSl4_ok, kSl3_ok, kSl2_ok, kSl1_ok, dSl_e, optD_non, optD_var, optD_int, optD_bin, optD_neg, optD_ix, optD_bi, optD_call, sl_l, sl_t, kRvs2_ok, dRvs_e, kRvs_ok, dTupRev_e, kTupRev_sh, kTupRev_ol, kIrev2_ok, dIrev_e, kIrev_ok, zip_l, zip_t, zip_tl, zip_lt, enum_l, enum_t, dIf_n, dIf_1, kTurn1_ok, dTurn_e, kTurn_f, kTurn_t, wipe_n, wipe_c, rest_n, rest_c, shO_n, shO_sh, shO_ol, kAsg2_ok, asg_e, kAsg_ok, kAsg_ex, setT_v, setT_tt, setT_tl, setTs_n, setTs_c, kSt_ok, kPar2_ok, kPar1_ok, par_e, whl_e, isa_e, all_l, kAll_ok, any_l, kAny_ok, kRp_ok, isa_int_n, isa_int_b, isa_int_i, isa_int_s, isa_int_t, isa_int_l, isa_bool_n, isa_bool_b, isa_bool_i, isa_bool_s, isa_bool_t, isa_bool_l, isa_str_n, isa_str_b, isa_str_i, isa_str_s, isa_str_t, isa_str_l, isa_list_n, isa_list_b, isa_list_i, isa_list_s, isa_list_t, isa_list_l, isa_tuple_n, isa_tuple_b, isa_tuple_i, isa_tuple_s, isa_tuple_t, isa_tuple_l, isIns_n, isIns_b, isIns_i, isIns_s, isIns_t, isIns_l, anyT_1, anyT_2, pow_10_18, pow_10_30, tru_neq, ln_1, ln_2, ln_3, ln_4, ln_5, ln_6, ln_7, ln_8, ln_9, ln_10, ln_11, ln_12, ln_13, ln_14, ln_15, ln_16, ln_17, ln_18, ln_19, ln_20, ln_21, ln_22, ln_23, ln_24, ln_25, finW_e, kFin_ok, outs_n, outs_f, outs_t, kOut_ok, nodup_0, nodup_1, nodup_2, callO_e, eq_e, ne_e, den, dens, denI, W.frz, Fw.frz, frzF, String.reduceEq, Option.isNone_none, Option.isNone_some, Option.map_some, Bool.true_and, Bool.false_and, Bool.false_eq_true, Bool.not_true, Bool.not_false, List.headD_cons, List.tail_cons, entry, List.map_cons, List.map_nil, List.cons_append, List.nil_append, List.replicate,  List.length_cons, List.length_nil, List.getElem?_cons_zero, List.getElem?_cons_succ, List.getElem?_map, List.length_map, Int.reduceLT, Int.reduceLE, Nat.reduceLT, Nat.reduceLeDiff, and_self, and_true, true_and, if_true, if_false, Nat.reduceAdd, Int.reduceAdd, Int.reduceMul, Int.reducePow, Int.reduceToNat, Int.reduceNeg, decide_true, decide_false, Nat.reduceEqDiff, reduceCtorEq, Bool.not_true, Bool.not_false, intsOf_map, Option.map_some, Nat.zero_le, pow_10_18, fgt_e, fgts_e]
    rfl
theorem mulOk_r {i j : Int} (h : -18446744073709551616 < j ∧ j < 18446744073709551616) : mulOk i j = true := by
  unfold mulOk
  simp
  exact .inr h
theorem mulOk_m1 (i : Int) : mulOk i 48271 = true := mulOk_r (by omega)
theorem mulOk_m2 (i : Int) : mulOk i 69621 = true := mulOk_r (by omega)
theorem mulOk_m3 (i : Int) : mulOk i 7919 = true := mulOk_r (by omega)
theorem mulOk_m4 (x : Int) : mulOk (x % 2147483647) (x % 2147483647) = true := mulOk_r (by omega)
theorem mulOk_m5 (x : Int) : mulOk (x % 2147483629) (x % 2147483629) = true := mulOk_r (by omega)
abbrev rhoD (ns : List Int) (N : Nat) (rs acc : List Int) (x4 x5 x6 x7 : Option W) : Env := [some (.sh (.lst (ns.map D.int))), some (.sh (.int N)), some (.ol (rs.map D.int)), some (.ol (acc.map D.int)), x4, x5, x6, x7]
theorem draws_turn (k : Cl) (ns rs acc : List Int) (N : Nat) (i : Int) (hi : 0 ≤ i) (hl : rs.length = ns.length) (ha : acc.length < line) (x5 x6 x7 : Option W) :
    ∃ fl rs' acc', execs k lDraws (rhoD ns N rs acc (some (.sh (.int i))) x5 x6 x7) = .ok (fl, rhoD ns N rs' acc' none none none none) ∧ rs'.length = ns.length ∧ acc'.length = acc.length + 1 ∧ (fl = .nx ∨ fl = .cnt) := by
  have hm : ∀ v, (acc ++ [v]).map D.int = acc.map D.int ++ [.int v] := fun v => by simp
  by_cases h0 : ns.length = 0
  · have d0 : decide ((0 : Int) < (ns.length : Int)) = false := by simp [h0]
    simp -implicitDefEqProofs only [lDraws, d0, mulOk_m1, mulOk_m2, mulOk_m3, mulOk_m4, mulOk_m5, ha, gt_z, gt_s, st_z, st_s, mkD_v, mkD_o, mkD_r, mkD_t, mkT_v, mkT_o, mkT_r, mkT_t, dC_e, oOf_e, kO_ok, rOf_e, kR_ok, kT2_ok, kT1_ok, tOf_e, kT_ok, evVar_e, kVar_sh, kVar_ol, kVar_od, opdV_e, kOpd_sh, kOpd_ol, kOpd_od, argV_e, kArg_sh, kArg_ol, kArg_od, look_v, look_p, kLook_sh, kLook_ol, kLook_od, kW_ok, kOp3_ok, kOp2_ok, dOp_e, kOp1_ok, add_ii, add_ll, add_tt, sub_ii, mul_ii, mul_li, mul_ti, fdiv_ii, mod_ii, lt_ii, lt_tt, gt_tt, lt_ss, le_ii, gt_ii, ge_ii, kB_ok, kBn_ok, in_l, in_t, nin_l, nin_t, is_bb, isnot_bb, is_n, isnot_n, kD_ok, ix_l, ix_t, tru_bl, tru_int, tru_l, tru_t, tru_n, len_l, len_t, abs_i, int_i, int_b, tuple_l, tuple_t, list_l, list_t, max2_ii, min2_ii, kI_ok, sum_l, sum_t, kVs2_ok, dVs_n, dVs_c, kVs_ok, kOs2_ok, dOs_n, dOs_c, kOs_ok, kAs2_ok, dAs_n, dAs_t, dAs_f, kAs_ok, dTup_e, kTup_ok, dLst_e, kLst_ok, dNeg_e, kNeg_ok, dNot_e, kNot_ok, dNotT_e, kNotT_ok, dAnd_1, dAnd_c, kAnd_t, kAnd_f, dOr_1, dOr_c, kOr_f, kOr_t, dAndT_n, dAndT_c, kAndT_t, kAndT_f, dOrT_n, dOrT_c, kOrT_t, kOrT_f, dIte_e, kIte_t, kIte_f, looks_n, kLs2_ok, looks_c, kLs_ok, kBi2_ok, dBi_e, kBi_ok, kC2_ok, kC1_ok, dCall_e, kCall_ok, kAw2_ok, argW_n, argW_v, argW_r, kAw_ok, back_n, back_v, back_r, refs_n, refs_v, refs_r, kIs2_ok, dIs_e, kIs_ok, dIe_e, kIe_ok, items_l, items_t, kComp2_ok, dComp_e, execs_n, execs_c, kS_nx, kS_rt, kS_brk, kS_cnt, asgo_e, kAsgo_ok, ex_e, kEx_ok, ret_e, kRet_ok, retn_e, cnt_e, brk_e, pass_e, ife_e, kIf_t, kIf_f, for_e, kFor_ok, kApp2_ok, kApp1_ok, kApp_t, app_e, isOl_ol, isOwn_ol, isOwn_od, kSet3_ok, kSet2_ol, kSet1_ok, kSet_ok, kSet0_t, seti_e, kAug2_ok, kAug1_ok, kAug_sh, aug_e, fgt_e, fgts_e, frz_e, frzs_e, frzE_n, frzE_c, frz1_e, kFz_s, kFz_n, frzW_sh, frzW_ol, frzW_od, frzW_oi, frzW_xc, aug_add, aug_sub, kRun_rt, kRun_nx, clK_c, clK_br, clK_wf, clK_ini, clK_g, low_c, low_br, kVar_oi, kArg_oi, kFv_ok, kFi_t, kFi_f, dFldV_e, isXc_n, isXc_sh, isXc_ol, isXc_od, isXc_oi, isXc_xc, fldX_xc, clK_n, kS_ex, kEx_ex, kAsgo_ex, kRet_ex, kRun_ex, kCx_n, kC2_ex, rse_e, kRse_ok, kRse2_1, kRse2_2, trye_e, kTry_ok, kTry_ex, kTry2_t, kTry2_f, kOx_t, outX_rt, outX_nx, clE_n, clE_c, kClW_t, clW_n, clW_sh, clW_ol, clW_xc, noX_non, noX_bl, noX_int, noX_str, noX_tup, noX_lst, noXs_n, noXs_c, kIb_ok, kIc2_ok, kIc_ok, kIx_t, kIx_f, dIdx_e, kIdx_ok, kIdx2_ok, kExt1_ok, kExt_t, ext_e, pureD_var, kPv_sh, pureD_int, pureDs_n, pureDs_c, kPd_ok, callOw_e, kOw_ok, kOw_ex, kMo3_ok, dMethO_e, kMo_ok, dIsc_var, dIsc_ix, dIsc_fld, dIsc_call, iscX_xc, iscD_ins, kDc_t, iscD_non, iscD_bl, iscD_int, iscD_str, iscD_tup, iscD_lst, fldS_sh, fldW_ins, fldW_oi, lkF_n, lkF_c, fldD_ins, dFld_e, kFld_ok, fldE_var, fldE_ix, fldE_pix, fldE_fld, fldE_call, fldE_mk, kPu_ok, dPix_e, dPcmp_e, kPl_ok, dPlen_e, pu_var, pu_int, pu_str, pu_fldv, kPf_ok, pu_fldf, pu_fldp, kPx_ok, pu_ix_, pu_pix, rOk_ok, vwW_sh, vwW_ol, vwW_od, recv_r, kRc_oi, recv_v, isR_v, isR_r, kMt_ok, kMe4_ok, kMe3_f, kMe2_ok, kMe_ok, dMeth_e, kMk3_t, mkO_ok, kMk2_ok, kMk_ok, dMk_e, kLi3_f, lenO_ok, kLi2_ok, kLi_ok, dLenI_e, setf_e, kStf_ok, setF_e, kSf_oi, fw_sh, fw_ol, fw_od, putW_n, putW_c, kSif2_oi, kSif1_ok, kSif_ok, setif_e, getL_0, getL_1, getL_2, getL_3, getL_4, getL_5, getL_6, getL_7, getL_8, getL_9, getL_10, getL_11, setL_0, setL_1, Gives, len_d, reto_e, kReto_ok, kReto_ex, retV_var, retV_dicl, retV_lst, mvW_sh, mvW_ol, mvW_od, mvW_oi, kG6_ok, get_d, kG5_ok, kG4_ok, kG3_ok, kG2_ok, kG1_ok, dGet2_e, dDicl_e, kCs2_ok, kCs1_ok, dCallS_e, kCs_ok, givB_nil, givB_n, givB_s, mergeG_nil, mergeG_n, mergeG_s, defsOf_nil, defsOf_n, defsOf_s, kPop_ol, popW_oi, dPopF_e, kChn4_ok, kChn3_f, kChn3_t, kChn2_ok, kChn1_ok, dChn_e, dOfI_e, kOfI_t, kOfI_f, dPart_n, dPart_s, kPart_ok, kSl4_ok, kSl3_ok, kSl2_ok, kSl1_ok, dSl_e, optD_non, optD_var, optD_int, optD_bin, optD_neg, optD_ix, optD_bi, optD_call, sl_l, sl_t, kRvs2_ok, dRvs_e, kRvs_ok, dTupRev_e, kTupRev_sh, kTupRev_ol, kIrev2_ok, dIrev_e, kIrev_ok, zip_l, zip_t, zip_tl, zip_lt, enum_l, enum_t, dIf_n, dIf_1, kTurn1_ok, dTurn_e, kTurn_f, kTurn_t, wipe_n, wipe_c, rest_n, rest_c, shO_n, shO_sh, shO_ol, kAsg2_ok, asg_e, kAsg_ok, kAsg_ex, setT_v, setT_tt, setT_tl, setTs_n, setTs_c, kSt_ok, kPar2_ok, kPar1_ok, par_e, whl_e, isa_e, all_l, kAll_ok, any_l, kAny_ok, kRp_ok, isa_int_n, isa_int_b, isa_int_i, isa_int_s, isa_int_t, isa_int_l, isa_bool_n, isa_bool_b, isa_bool_i, isa_bool_s, isa_bool_t, isa_bool_l, isa_str_n, isa_str_b, isa_str_i, isa_str_s, isa_str_t, isa_str_l, isa_list_n, isa_list_b, isa_list_i, isa_list_s, isa_list_t, isa_list_l, isa_tuple_n, isa_tuple_b, isa_tuple_i, isa_tuple_s, isa_tuple_t, isa_tuple_l, isIns_n, isIns_b, isIns_i, isIns_s, isIns_t, isIns_l, anyT_1, anyT_2, pow_10_18, pow_10_30, tru_neq, ln_1, ln_2, ln_3, ln_4, ln_5, ln_6, ln_7, ln_8, ln_9, ln_10, ln_11, ln_12, ln_13, ln_14, ln_15, ln_16, ln_17, ln_18, ln_19, ln_20, ln_21, ln_22, ln_23, ln_24, ln_25, finW_e, kFin_ok, outs_n, outs_f, outs_t, kOut_ok, nodup_0, nodup_1, nodup_2, callO_e, eq_e, ne_e, den, dens, denI, W.frz, Fw.frz, frzF, String.reduceEq, Option.isNone_none, Option.isNone_some, Option.map_some, Bool.true_and, Bool.false_and, Bool.false_eq_true, Bool.not_true, Bool.not_false, List.headD_cons, List.tail_cons, entry, List.map_cons, List.map_nil, List.cons_append, List.nil_append, List.replicate,  List.length_cons, List.length_nil, List.getElem?_cons_zero, List.getElem?_cons_succ, List.getElem?_map, List.length_map, Int.reduceLT, Int.reduceLE, Nat.reduceLT, Nat.reduceLeDiff, and_self, and_true, true_and, if_true, if_false, Nat.reduceAdd, Int.reduceAdd, Int.reduceMul, Int.reducePow, Int.reduceToNat, Int.reduceNeg, decide_true, decide_false, Nat.reduceEqDiff, reduceCtorEq, Bool.not_true, Bool.not_false, intsOf_map, Option.map_some, Nat.zero_le, pow_10_18, fgt_e, fgts_e]
    exact ⟨.nx, rs, acc ++ [_], by unfold rhoD; rw [hm], hl, by simp, .inl rfl⟩
  · have hpos : 0 < ns.length := by omega
    have hposI : (0 : Int) < (ns.length : Int) := by omega
    have d0 : decide ((0 : Int) < (ns.length : Int)) = true := by simpa using hposI
    obtain ⟨sp, e1, hs⟩ : ∃ sp : Nat, i % (ns.length : Int) = (sp : Int) ∧ sp < ns.length := by
      have g1 := Int.emod_nonneg i (show (ns.length : Int) ≠ 0 by omega)
      have g2 := Int.emod_lt_of_pos i hposI
      exact ⟨(i % (ns.length : Int)).toNat, by omega, by omega⟩
    have hn : ns[sp]? = some ns[sp] := List.getElem?_eq_getElem hs
    have hs' : sp < rs.length := by omega
    have hr : rs[sp]? = some rs[sp] := List.getElem?_eq_getElem hs'
    have gn : getL (ns.map D.int) (sp : Int) = some (.int ns[sp]) := by rw [getL_nat]; simp [hn]
    have gr : getL (rs.map D.int) (sp : Int) = some (.int rs[sp]) := by rw [getL_nat]; simp [hr]
    have hset : ∀ d, setL (rs.map D.int) (sp : Int) d = some ((rs.map D.int).set sp d) := fun d => setL_nat _ _ _ (by simpa using hs')
    by_cases c1 : (1000000000000000000 : Int) ≤ ns[sp]
    · have d1 : decide ((1000000000000000000 : Int) ≤ ns[sp]) = true := by simpa using c1
      by_cases c2 : (0 : Int) < rs[sp]
      · have d2 : decide ((0 : Int) < rs[sp]) = true := by simpa using c2
        simp -implicitDefEqProofs only [lDraws, d0, hposI, e1, gn, gr, d1, d2, hset, ha, gt_z, gt_s, st_z, st_s, mkD_v, mkD_o, mkD_r, mkD_t, mkT_v, mkT_o, mkT_r, mkT_t, dC_e, oOf_e, kO_ok, rOf_e, kR_ok, kT2_ok, kT1_ok, tOf_e, kT_ok, evVar_e, kVar_sh, kVar_ol, kVar_od, opdV_e, kOpd_sh, kOpd_ol, kOpd_od, argV_e, kArg_sh, kArg_ol, kArg_od, look_v, look_p, kLook_sh, kLook_ol, kLook_od, kW_ok, kOp3_ok, kOp2_ok, dOp_e, kOp1_ok, add_ii, add_ll, add_tt, sub_ii, mul_ii, mul_li, mul_ti, fdiv_ii, mod_ii, lt_ii, lt_tt, gt_tt, lt_ss, le_ii, gt_ii, ge_ii, kB_ok, kBn_ok, in_l, in_t, nin_l, nin_t, is_bb, isnot_bb, is_n, isnot_n, kD_ok, ix_l, ix_t, tru_bl, tru_int, tru_l, tru_t, tru_n, len_l, len_t, abs_i, int_i, int_b, tuple_l, tuple_t, list_l, list_t, max2_ii, min2_ii, kI_ok, sum_l, sum_t, kVs2_ok, dVs_n, dVs_c, kVs_ok, kOs2_ok, dOs_n, dOs_c, kOs_ok, kAs2_ok, dAs_n, dAs_t, dAs_f, kAs_ok, dTup_e, kTup_ok, dLst_e, kLst_ok, dNeg_e, kNeg_ok, dNot_e, kNot_ok, dNotT_e, kNotT_ok, dAnd_1, dAnd_c, kAnd_t, kAnd_f, dOr_1, dOr_c, kOr_f, kOr_t, dAndT_n, dAndT_c, kAndT_t, kAndT_f, dOrT_n, dOrT_c, kOrT_t, kOrT_f, dIte_e, kIte_t, kIte_f, looks_n, kLs2_ok, looks_c, kLs_ok, kBi2_ok, dBi_e, kBi_ok, kC2_ok, kC1_ok, dCall_e, kCall_ok, kAw2_ok, argW_n, argW_v, argW_r, kAw_ok, back_n, back_v, back_r, refs_n, refs_v, refs_r, kIs2_ok, dIs_e, kIs_ok, dIe_e, kIe_ok, items_l, items_t, kComp2_ok, dComp_e, execs_n, execs_c, kS_nx, kS_rt, kS_brk, kS_cnt, asgo_e, kAsgo_ok, ex_e, kEx_ok, ret_e, kRet_ok, retn_e, cnt_e, brk_e, pass_e, ife_e, kIf_t, kIf_f, for_e, kFor_ok, kApp2_ok, kApp1_ok, kApp_t, app_e, isOl_ol, isOwn_ol, isOwn_od, kSet3_ok, kSet2_ol, kSet1_ok, kSet_ok, kSet0_t, seti_e, kAug2_ok, kAug1_ok, kAug_sh, aug_e, fgt_e, fgts_e, frz_e, frzs_e, frzE_n, frzE_c, frz1_e, kFz_s, kFz_n, frzW_sh, frzW_ol, frzW_od, frzW_oi, frzW_xc, aug_add, aug_sub, kRun_rt, kRun_nx, clK_c, clK_br, clK_wf, clK_ini, clK_g, low_c, low_br, kVar_oi, kArg_oi, kFv_ok, kFi_t, kFi_f, dFldV_e, isXc_n, isXc_sh, isXc_ol, isXc_od, isXc_oi, isXc_xc, fldX_xc, clK_n, kS_ex, kEx_ex, kAsgo_ex, kRet_ex, kRun_ex, kCx_n, kC2_ex, rse_e, kRse_ok, kRse2_1, kRse2_2, trye_e, kTry_ok, kTry_ex, kTry2_t, kTry2_f, kOx_t, outX_rt, outX_nx, clE_n, clE_c, kClW_t, clW_n, clW_sh, clW_ol, clW_xc, noX_non, noX_bl, noX_int, noX_str, noX_tup, noX_lst, noXs_n, noXs_c, kIb_ok, kIc2_ok, kIc_ok, kIx_t, kIx_f, dIdx_e, kIdx_ok, kIdx2_ok, kExt1_ok, kExt_t, ext_e, pureD_var, kPv_sh, pureD_int, pureDs_n, pureDs_c, kPd_ok, callOw_e, kOw_ok, kOw_ex, kMo3_ok, dMethO_e, kMo_ok, dIsc_var, dIsc_ix, dIsc_fld, dIsc_call, iscX_xc, iscD_ins, kDc_t, iscD_non, iscD_bl, iscD_int, iscD_str, iscD_tup, iscD_lst, fldS_sh, fldW_ins, fldW_oi, lkF_n, lkF_c, fldD_ins, dFld_e, kFld_ok, fldE_var, fldE_ix, fldE_pix, fldE_fld, fldE_call, fldE_mk, kPu_ok, dPix_e, dPcmp_e, kPl_ok, dPlen_e, pu_var, pu_int, pu_str, pu_fldv, kPf_ok, pu_fldf, pu_fldp, kPx_ok, pu_ix_, pu_pix, rOk_ok, vwW_sh, vwW_ol, vwW_od, recv_r, kRc_oi, recv_v, isR_v, isR_r, kMt_ok, kMe4_ok, kMe3_f, kMe2_ok, kMe_ok, dMeth_e, kMk3_t, mkO_ok, kMk2_ok, kMk_ok, dMk_e, kLi3_f, lenO_ok, kLi2_ok, kLi_ok, dLenI_e, setf_e, kStf_ok, setF_e, kSf_oi, fw_sh, fw_ol, fw_od, putW_n, putW_c, kSif2_oi, kSif1_ok, kSif_ok, setif_e, getL_0, getL_1, getL_2, getL_3, getL_4, getL_5, getL_6, getL_7, getL_8, getL_9, getL_10, getL_11, setL_0, setL_1, Gives, len_d, reto_e, kReto_ok, kReto_ex, retV_var, retV_dicl, retV_lst, mvW_sh, mvW_ol, mvW_od, mvW_oi, kG6_ok, get_d, kG5_ok, kG4_ok, kG3_ok, kG2_ok, kG1_ok, dGet2_e, dDicl_e, kCs2_ok, kCs1_ok, dCallS_e, kCs_ok, givB_nil, givB_n, givB_s, mergeG_nil, mergeG_n, mergeG_s, defsOf_nil, defsOf_n, defsOf_s, kPop_ol, popW_oi, dPopF_e, kChn4_ok, kChn3_f, kChn3_t, kChn2_ok, kChn1_ok, dChn_e, dOfI_e, kOfI_t, kOfI_f, dPart_n, dPart_s, kPart_ok, kSl4_ok, kSl3_ok, kSl2_ok, kSl1_ok, dSl_e, optD_non, optD_var, optD_int, optD_bin, optD_neg, optD_ix, optD_bi, optD_call, sl_l, sl_t, kRvs2_ok, dRvs_e, kRvs_ok, dTupRev_e, kTupRev_sh, kTupRev_ol, kIrev2_ok, dIrev_e, kIrev_ok, zip_l, zip_t, zip_tl, zip_lt, enum_l, enum_t, dIf_n, dIf_1, kTurn1_ok, dTurn_e, kTurn_f, kTurn_t, wipe_n, wipe_c, rest_n, rest_c, shO_n, shO_sh, shO_ol, kAsg2_ok, asg_e, kAsg_ok, kAsg_ex, setT_v, setT_tt, setT_tl, setTs_n, setTs_c, kSt_ok, kPar2_ok, kPar1_ok, par_e, whl_e, isa_e, all_l, kAll_ok, any_l, kAny_ok, kRp_ok, isa_int_n, isa_int_b, isa_int_i, isa_int_s, isa_int_t, isa_int_l, isa_bool_n, isa_bool_b, isa_bool_i, isa_bool_s, isa_bool_t, isa_bool_l, isa_str_n, isa_str_b, isa_str_i, isa_str_s, isa_str_t, isa_str_l, isa_list_n, isa_list_b, isa_list_i, isa_list_s, isa_list_t, isa_list_l, isa_tuple_n, isa_tuple_b, isa_tuple_i, isa_tuple_s, isa_tuple_t, isa_tuple_l, isIns_n, isIns_b, isIns_i, isIns_s, isIns_t, isIns_l, anyT_1, anyT_2, pow_10_18, pow_10_30, tru_neq, ln_1, ln_2, ln_3, ln_4, ln_5, ln_6, ln_7, ln_8, ln_9, ln_10, ln_11, ln_12, ln_13, ln_14, ln_15, ln_16, ln_17, ln_18, ln_19, ln_20, ln_21, ln_22, ln_23, ln_24, ln_25, finW_e, kFin_ok, outs_n, outs_f, outs_t, kOut_ok, nodup_0, nodup_1, nodup_2, callO_e, eq_e, ne_e, den, dens, denI, W.frz, Fw.frz, frzF, String.reduceEq, Option.isNone_none, Option.isNone_some, Option.map_some, Bool.true_and, Bool.false_and, Bool.false_eq_true, Bool.not_true, Bool.not_false, List.headD_cons, List.tail_cons, entry, List.map_cons, List.map_nil, List.cons_append, List.nil_append, List.replicate,  List.length_cons, List.length_nil, List.getElem?_cons_zero, List.getElem?_cons_succ, List.getElem?_map, List.length_map, Int.reduceLT, Int.reduceLE, Nat.reduceLT, Nat.reduceLeDiff, and_self, and_true, true_and, if_true, if_false, Nat.reduceAdd, Int.reduceAdd, Int.reduceMul, Int.reducePow, Int.reduceToNat, Int.reduceNeg, decide_true, decide_false, Nat.reduceEqDiff, reduceCtorEq, Bool.not_true, Bool.not_false, intsOf_map, Option.map_some, Nat.zero_le, pow_10_18, fgt_e, fgts_e]
        exact ⟨.cnt, rs.set sp _, acc ++ [_], by unfold rhoD; rw [hm, List.map_set], by simpa using hl, by simp, .inr rfl⟩
      · have d2 : decide ((0 : Int) < rs[sp]) = false := by simpa using c2
        simp -implicitDefEqProofs only [lDraws, d0, hposI, e1, gn, gr, d1, d2, mulOk_m1, mulOk_m2, mulOk_m3, mulOk_m4, mulOk_m5, ha, gt_z, gt_s, st_z, st_s, mkD_v, mkD_o, mkD_r, mkD_t, mkT_v, mkT_o, mkT_r, mkT_t, dC_e, oOf_e, kO_ok, rOf_e, kR_ok, kT2_ok, kT1_ok, tOf_e, kT_ok, evVar_e, kVar_sh, kVar_ol, kVar_od, opdV_e, kOpd_sh, kOpd_ol, kOpd_od, argV_e, kArg_sh, kArg_ol, kArg_od, look_v, look_p, kLook_sh, kLook_ol, kLook_od, kW_ok, kOp3_ok, kOp2_ok, dOp_e, kOp1_ok, add_ii, add_ll, add_tt, sub_ii, mul_ii, mul_li, mul_ti, fdiv_ii, mod_ii, lt_ii, lt_tt, gt_tt, lt_ss, le_ii, gt_ii, ge_ii, kB_ok, kBn_ok, in_l, in_t, nin_l, nin_t, is_bb, isnot_bb, is_n, isnot_n, kD_ok, ix_l, ix_t, tru_bl, tru_int, tru_l, tru_t, tru_n, len_l, len_t, abs_i, int_i, int_b, tuple_l, tuple_t, list_l, list_t, max2_ii, min2_ii, kI_ok, sum_l, sum_t, kVs2_ok, dVs_n, dVs_c, kVs_ok, kOs2_ok, dOs_n, dOs_c, kOs_ok, kAs2_ok, dAs_n, dAs_t, dAs_f, kAs_ok, dTup_e, kTup_ok, dLst_e, kLst_ok, dNeg_e, kNeg_ok, dNot_e, kNot_ok, dNotT_e, kNotT_ok, dAnd_1, dAnd_c, kAnd_t, kAnd_f, dOr_1, dOr_c, kOr_f, kOr_t, dAndT_n, dAndT_c, kAndT_t, kAndT_f, dOrT_n, dOrT_c, kOrT_t, kOrT_f, dIte_e, kIte_t, kIte_f, looks_n, kLs2_ok, looks_c, kLs_ok, kBi2_ok, dBi_e, kBi_ok, kC2_ok, kC1_ok, dCall_e, kCall_ok, kAw2_ok, argW_n, argW_v, argW_r, kAw_ok, back_n, back_v, back_r, refs_n, refs_v, refs_r, kIs2_ok, dIs_e, kIs_ok, dIe_e, kIe_ok, items_l, items_t, kComp2_ok, dComp_e, execs_n, execs_c, kS_nx, kS_rt, kS_brk, kS_cnt, asgo_e, kAsgo_ok, ex_e, kEx_ok, ret_e, kRet_ok, retn_e, cnt_e, brk_e, pass_e, ife_e, kIf_t, kIf_f, for_e, kFor_ok, kApp2_ok, kApp1_ok, kApp_t, app_e, isOl_ol, isOwn_ol, isOwn_od, kSet3_ok, kSet2_ol, kSet1_ok, kSet_ok, kSet0_t, seti_e, kAug2_ok, kAug1_ok, kAug_sh, aug_e, fgt_e, fgts_e, frz_e, frzs_e, frzE_n, frzE_c, frz1_e, kFz_s, kFz_n, frzW_sh, frzW_ol, frzW_od, frzW_oi, frzW_xc, aug_add, aug_sub, kRun_rt, kRun_nx, clK_c, clK_br, clK_wf, clK_ini, clK_g, low_c, low_br, kVar_oi, kArg_oi, kFv_ok, kFi_t, kFi_f, dFldV_e, isXc_n, isXc_sh, isXc_ol, isXc_od, isXc_oi, isXc_xc, fldX_xc, clK_n, kS_ex, kEx_ex, kAsgo_ex, kRet_ex, kRun_ex, kCx_n, kC2_ex, rse_e, kRse_ok, kRse2_1, kRse2_2, trye_e, kTry_ok, kTry_ex, kTry2_t, kTry2_f, kOx_t, outX_rt, outX_nx, clE_n, clE_c, kClW_t, clW_n, clW_sh, clW_ol, clW_xc, noX_non, noX_bl, noX_int, noX_str, noX_tup, noX_lst, noXs_n, noXs_c, kIb_ok, kIc2_ok, kIc_ok, kIx_t, kIx_f, dIdx_e, kIdx_ok, kIdx2_ok, kExt1_ok, kExt_t, ext_e, pureD_var, kPv_sh, pureD_int, pureDs_n, pureDs_c, kPd_ok, callOw_e, kOw_ok, kOw_ex, kMo3_ok, dMethO_e, kMo_ok, dIsc_var, dIsc_ix, dIsc_fld, dIsc_call, iscX_xc, iscD_ins, kDc_t, iscD_non, iscD_bl, iscD_int, iscD_str, iscD_tup, iscD_lst, fldS_sh, fldW_ins, fldW_oi, lkF_n, lkF_c, fldD_ins, dFld_e, kFld_ok, fldE_var, fldE_ix, fldE_pix, fldE_fld, fldE_call, fldE_mk, kPu_ok, dPix_e, dPcmp_e, kPl_ok, dPlen_e, pu_var, pu_int, pu_str, pu_fldv, kPf_ok, pu_fldf, pu_fldp, kPx_ok, pu_ix_, pu_pix, rOk_ok, vwW_sh, vwW_ol, vwW_od, recv_r, kRc_oi, recv_v, isR_v, isR_r, kMt_ok, kMe4_ok, kMe3_f, kMe2_ok, kMe_ok, dMeth_e, kMk3_t, mkO_ok, kMk2_ok, kMk_ok, dMk_e, kLi3_f, lenO_ok, kLi2_ok, kLi_ok, dLenI_e, setf_e, kStf_ok, setF_e, kSf_oi, fw_sh, fw_ol, fw_od, putW_n, putW_c, kSif2_oi, kSif1_ok, kSif_ok, setif_e, getL_0, getL_1, getL_2, getL_3, getL_4, getL_5, getL_6, getL_7, getL_8, getL_9, getL_10, getL_11, setL_0, setL_1, Gives, len_d, reto_e, kReto_ok, kReto_ex, retV_var, retV_dicl, retV_lst, mvW_sh, mvW_ol, mvW_od, mvW_oi, kG6_ok, get_d, kG5_ok, kG4_ok, kG3_ok, kG2_ok, kG1_ok, dGet2_e, dDicl_e, kCs2_ok, kCs1_ok, dCallS_e, kCs_ok, givB_nil, givB_n, givB_s, mergeG_nil, mergeG_n, mergeG_s, defsOf_nil, defsOf_n, defsOf_s, kPop_ol, popW_oi, dPopF_e, kChn4_ok, kChn3_f, kChn3_t, kChn2_ok, kChn1_ok, dChn_e, dOfI_e, kOfI_t, kOfI_f, dPart_n, dPart_s, kPart_ok, kSl4_ok, kSl3_ok, kSl2_ok, kSl1_ok, dSl_e, optD_non, optD_var, optD_int, optD_bin, optD_neg, optD_ix, optD_bi, optD_call, sl_l, sl_t, kRvs2_ok, dRvs_e, kRvs_ok, dTupRev_e, kTupRev_sh, kTupRev_ol, kIrev2_ok, dIrev_e, kIrev_ok, zip_l, zip_t, zip_tl, zip_lt, enum_l, enum_t, dIf_n, dIf_1, kTurn1_ok, dTurn_e, kTurn_f, kTurn_t, wipe_n, wipe_c, rest_n, rest_c, shO_n, shO_sh, shO_ol, kAsg2_ok, asg_e, kAsg_ok, kAsg_ex, setT_v, setT_tt, setT_tl, setTs_n, setTs_c, kSt_ok, kPar2_ok, kPar1_ok, par_e, whl_e, isa_e, all_l, kAll_ok, any_l, kAny_ok, kRp_ok, isa_int_n, isa_int_b, isa_int_i, isa_int_s, isa_int_t, isa_int_l, isa_bool_n, isa_bool_b, isa_bool_i, isa_bool_s, isa_bool_t, isa_bool_l, isa_str_n, isa_str_b, isa_str_i, isa_str_s, isa_str_t, isa_str_l, isa_list_n, isa_list_b, isa_list_i, isa_list_s, isa_list_t, isa_list_l, isa_tuple_n, isa_tuple_b, isa_tuple_i, isa_tuple_s, isa_tuple_t, isa_tuple_l, isIns_n, isIns_b, isIns_i, isIns_s, isIns_t, isIns_l, anyT_1, anyT_2, pow_10_18, pow_10_30, tru_neq, ln_1, ln_2, ln_3, ln_4, ln_5, ln_6, ln_7, ln_8, ln_9, ln_10, ln_11, ln_12, ln_13, ln_14, ln_15, ln_16, ln_17, ln_18, ln_19, ln_20, ln_21, ln_22, ln_23, ln_24, ln_25, finW_e, kFin_ok, outs_n, outs_f, outs_t, kOut_ok, nodup_0, nodup_1, nodup_2, callO_e, eq_e, ne_e, den, dens, denI, W.frz, Fw.frz, frzF, String.reduceEq, Option.isNone_none, Option.isNone_some, Option.map_some, Bool.true_and, Bool.false_and, Bool.false_eq_true, Bool.not_true, Bool.not_false, List.headD_cons, List.tail_cons, entry, List.map_cons, List.map_nil, List.cons_append, List.nil_append, List.replicate,  List.length_cons, List.length_nil, List.getElem?_cons_zero, List.getElem?_cons_succ, List.getElem?_map, List.length_map, Int.reduceLT, Int.reduceLE, Nat.reduceLT, Nat.reduceLeDiff, and_self, and_true, true_and, if_true, if_false, Nat.reduceAdd, Int.reduceAdd, Int.reduceMul, Int.reducePow, Int.reduceToNat, Int.reduceNeg, decide_true, decide_false, Nat.reduceEqDiff, reduceCtorEq, Bool.not_true, Bool.not_false, intsOf_map, Option.map_some, Nat.zero_le, pow_10_18, fgt_e, fgts_e]
        exact ⟨.nx, rs, acc ++ [_], by unfold rhoD; rw [hm], hl, by simp, .inl rfl⟩
    · have d1 : decide ((1000000000000000000 : Int) ≤ ns[sp]) = false := by simpa using c1
      simp -implicitDefEqProofs only [lDraws, d0, hposI, e1, gn, gr, d1, mulOk_m1, mulOk_m2, mulOk_m3, mulOk_m4, mulOk_m5, ha, gt_z, gt_s, st_z, st_s, mkD_v, mkD_o, mkD_r, mkD_t, mkT_v, mkT_o, mkT_r, mkT_t, dC_e, oOf_e, kO_ok, rOf_e, kR_ok, kT2_ok, kT1_ok, tOf_e, kT_ok, evVar_e, kVar_sh, kVar_ol, kVar_od, opdV_e, kOpd_sh, kOpd_ol, kOpd_od, argV_e, kArg_sh, kArg_ol, kArg_od, look_v, look_p, kLook_sh, kLook_ol, kLook_od, kW_ok, kOp3_ok, kOp2_ok, dOp_e, kOp1_ok, add_ii, add_ll, add_tt, sub_ii, mul_ii, mul_li, mul_ti, fdiv_ii, mod_ii, lt_ii, lt_tt, gt_tt, lt_ss, le_ii, gt_ii, ge_ii, kB_ok, kBn_ok, in_l, in_t, nin_l, nin_t, is_bb, isnot_bb, is_n, isnot_n, kD_ok, ix_l, ix_t, tru_bl, tru_int, tru_l, tru_t, tru_n, len_l, len_t, abs_i, int_i, int_b, tuple_l, tuple_t, list_l, list_t, max2_ii, min2_ii, kI_ok, sum_l, sum_t, kVs2_ok, dVs_n, dVs_c, kVs_ok, kOs2_ok, dOs_n, dOs_c, kOs_ok, kAs2_ok, dAs_n, dAs_t, dAs_f, kAs_ok, dTup_e, kTup_ok, dLst_e, kLst_ok, dNeg_e, kNeg_ok, dNot_e, kNot_ok, dNotT_e, kNotT_ok, dAnd_1, dAnd_c, kAnd_t, kAnd_f, dOr_1, dOr_c, kOr_f, kOr_t, dAndT_n, dAndT_c, kAndT_t, kAndT_f, dOrT_n, dOrT_c, kOrT_t, kOrT_f, dIte_e, kIte_t, kIte_f, looks_n, kLs2_ok, looks_c, kLs_ok, kBi2_ok, dBi_e, kBi_ok, kC2_ok, kC1_ok, dCall_e, kCall_ok, kAw2_ok, argW_n, argW_v, argW_r, kAw_ok, back_n, back_v, back_r, refs_n, refs_v, refs_r, kIs2_ok, dIs_e, kIs_ok, dIe_e, kIe_ok, items_l, items_t, kComp2_ok, dComp_e, execs_n, execs_c, kS_nx, kS_rt, kS_brk, kS_cnt, asgo_e, kAsgo_ok, ex_e, kEx_ok, ret_e, kRet_ok, retn_e, cnt_e, brk_e, pass_e, ife_e, kIf_t, kIf_f, for_e, kFor_ok, kApp2_ok, kApp1_ok, kApp_t, app_e, isOl_ol, isOwn_ol, isOwn_od, kSet3_ok, kSet2_ol, kSet1_ok, kSet_ok, kSet0_t, seti_e, kAug2_ok, kAug1_ok, kAug_sh, aug_e, fgt_e, fgts_e, frz_e, frzs_e, frzE_n, frzE_c, frz1_e, kFz_s, kFz_n, frzW_sh, frzW_ol, frzW_od, frzW_oi, frzW_xc, aug_add, aug_sub, kRun_rt, kRun_nx, clK_c, clK_br, clK_wf, clK_ini, clK_g, low_c, low_br, kVar_oi, kArg_oi, kFv_ok, kFi_t, kFi_f, dFldV_e, isXc_n, isXc_sh, isXc_ol, isXc_od, isXc_oi, isXc_xc, fldX_xc, clK_n, kS_ex, kEx_ex, kAsgo_ex, kRet_ex, kRun_ex, kCx_n, kC2_ex, rse_e, kRse_ok, kRse2_1, kRse2_2, trye_e, kTry_ok, kTry_ex, kTry2_t, kTry2_f, kOx_t, outX_rt, outX_nx, clE_n, clE_c, kClW_t, clW_n, clW_sh, clW_ol, clW_xc, noX_non, noX_bl, noX_int, noX_str, noX_tup, noX_lst, noXs_n, noXs_c, kIb_ok, kIc2_ok, kIc_ok, kIx_t, kIx_f, dIdx_e, kIdx_ok, kIdx2_ok, kExt1_ok, kExt_t, ext_e, pureD_var, kPv_sh, pureD_int, pureDs_n, pureDs_c, kPd_ok, callOw_e, kOw_ok, kOw_ex, kMo3_ok, dMethO_e, kMo_ok, dIsc_var, dIsc_ix, dIsc_fld, dIsc_call, iscX_xc, iscD_ins, kDc_t, iscD_non, iscD_bl, iscD_int, iscD_str, iscD_tup, iscD_lst, fldS_sh, fldW_ins, fldW_oi, lkF_n, lkF_c, fldD_ins, dFld_e, kFld_ok, fldE_var, fldE_ix, fldE_pix, fldE_fld, fldE_call, fldE_mk, kPu_ok, dPix_e, dPcmp_e, kPl_ok, dPlen_e, pu_var, pu_int, pu_str, pu_fldv, kPf_ok, pu_fldf, pu_fldp, kPx_ok, pu_ix_, pu_pix, rOk_ok, vwW_sh, vwW_ol, vwW_od, recv_r, kRc_oi, recv_v, isR_v, isR_r, kMt_ok, kMe4_ok, kMe3_f, kMe2_ok, kMe_ok, dMeth_e, kMk3_t, mkO_ok, kMk2_ok, kMk_ok, dMk_e, kLi3_f, lenO_ok, kLi2_ok, kLi_ok, dLenI_e, setf_e, kStf_ok, setF_e, kSf_oi, fw_sh, fw_ol, fw_od, putW_n, putW_c, kSif2_oi, kSif1_ok, kSif_ok, setif_e, getL_0, getL_1, getL_2, getL_3, getL_4, getL_5, getL_6, getL_7, getL_8, getL_9, getL_10, getL_11, setL_0, setL_1, Gives, len_d, reto_e, kReto_ok, kReto_ex, retV_var, retV_dicl, retV_lst, mvW_sh, mvW_ol, mvW_od, mvW_oi, kG6_ok, get_d, kG5_ok, kG4_ok, kG3_ok, kG2_ok, kG1_ok, dGet2_e, dDicl_e, kCs2_ok, kCs1_ok, dCallS_e, kCs_ok, givB_nil, givB_n, givB_s, mergeG_nil, mergeG_n, mergeG_s, defsOf_nil, defsOf_n, defsOf_s, kPop_ol, popW_oi, dPopF_e, kChn4_ok, kChn3_f, kChn3_t, kChn2_ok, kChn1_ok, dChn_e, dOfI_e, kOfI_t, kOfI_f, dPart_n, dPart_s, kPart_ok, kSl4_ok, kSl3_ok, kSl2_ok, kSl1_ok, dSl_e, optD_non, optD_var, optD_int, optD_bin, optD_neg, optD_ix, optD_bi, optD_call, sl_l, sl_t, kRvs2_ok, dRvs_e, kRvs_ok, dTupRev_e, kTupRev_sh, kTupRev_ol, kIrev2_ok, dIrev_e, kIrev_ok, zip_l, zip_t, zip_tl, zip_lt, enum_l, enum_t, dIf_n, dIf_1, kTurn1_ok, dTurn_e, kTurn_f, kTurn_t, wipe_n, wipe_c, rest_n, rest_c, shO_n, shO_sh, shO_ol, kAsg2_ok, asg_e, kAsg_ok, kAsg_ex, setT_v, setT_tt, setT_tl, setTs_n, setTs_c, kSt_ok, kPar2_ok, kPar1_ok, par_e, whl_e, isa_e, all_l, kAll_ok, any_l, kAny_ok, kRp_ok, isa_int_n, isa_int_b, isa_int_i, isa_int_s, isa_int_t, isa_int_l, isa_bool_n, isa_bool_b, isa_bool_i, isa_bool_s, isa_bool_t, isa_bool_l, isa_str_n, isa_str_b, isa_str_i, isa_str_s, isa_str_t, isa_str_l, isa_list_n, isa_list_b, isa_list_i, isa_list_s, isa_list_t, isa_list_l, isa_tuple_n, isa_tuple_b, isa_tuple_i, isa_tuple_s, isa_tuple_t, isa_tuple_l, isIns_n, isIns_b, isIns_i, isIns_s, isIns_t, isIns_l, anyT_1, anyT_2, pow_10_18, pow_10_30, tru_neq, ln_1, ln_2, ln_3, ln_4, ln_5, ln_6, ln_7, ln_8, ln_9, ln_10, ln_11, ln_12, ln_13, ln_14, ln_15, ln_16, ln_17, ln_18, ln_19, ln_20, ln_21, ln_22, ln_23, ln_24, ln_25, finW_e, kFin_ok, outs_n, outs_f, outs_t, kOut_ok, nodup_0, nodup_1, nodup_2, callO_e, eq_e, ne_e, den, dens, denI, W.frz, Fw.frz, frzF, String.reduceEq, Option.isNone_none, Option.isNone_some, Option.map_some, Bool.true_and, Bool.false_and, Bool.false_eq_true, Bool.not_true, Bool.not_false, List.headD_cons, List.tail_cons, entry, List.map_cons, List.map_nil, List.cons_append, List.nil_append, List.replicate,  List.length_cons, List.length_nil, List.getElem?_cons_zero, List.getElem?_cons_succ, List.getElem?_map, List.length_map, Int.reduceLT, Int.reduceLE, Nat.reduceLT, Nat.reduceLeDiff, and_self, and_true, true_and, if_true, if_false, Nat.reduceAdd, Int.reduceAdd, Int.reduceMul, Int.reducePow, Int.reduceToNat, Int.reduceNeg, decide_true, decide_false, Nat.reduceEqDiff, reduceCtorEq, Bool.not_true, Bool.not_false, intsOf_map, Option.map_some, Nat.zero_le, pow_10_18, fgt_e, fgts_e]
      exact ⟨.nx, rs, acc ++ [_], by unfold rhoD; rw [hm], hl, by simp, .inl rfl⟩
theorem draws_run {Γ : Tab} (hΓ : Γ "_law_draws" = some dDraws) (ns : List Int) (N : Nat) (hN : N ≤ 100000) (wf n : Nat) :
    ∃ ds : List Int, run Γ wf (n+1) "_law_draws" [.sh (.lst (ns.map D.int)), .sh (.int (N : Int))] = .ok (.sh (.lst (ds.map D.int))) [.sh .non, .sh .non] := by
  have hl : line = 16777216 := rfl
  have hr := rng1 N (by omega)
  rw [run_call (fd := dDraws) hΓ rfl]
  simp -implicitDefEqProofs only [dDraws, bDraws, hr, gt_z, gt_s, st_z, st_s, mkD_v, mkD_o, mkD_r, mkD_t, mkT_v, mkT_o, mkT_r, mkT_t, dC_e, oOf_e, kO_ok, rOf_e, kR_ok, kT2_ok, kT1_ok, tOf_e, kT_ok, evVar_e, kVar_sh, kVar_ol, kVar_od, opdV_e, kOpd_sh, kOpd_ol, kOpd_od, argV_e, kArg_sh, kArg_ol, kArg_od, look_v, look_p, kLook_sh, kLook_ol, kLook_od, kW_ok, kOp3_ok, kOp2_ok, dOp_e, kOp1_ok, add_ii, add_ll, add_tt, sub_ii, mul_ii, mul_li, mul_ti, fdiv_ii, mod_ii, lt_ii, lt_tt, gt_tt, lt_ss, le_ii, gt_ii, ge_ii, kB_ok, kBn_ok, in_l, in_t, nin_l, nin_t, is_bb, isnot_bb, is_n, isnot_n, kD_ok, ix_l, ix_t, tru_bl, tru_int, tru_l, tru_t, tru_n, len_l, len_t, abs_i, int_i, int_b, tuple_l, tuple_t, list_l, list_t, max2_ii, min2_ii, kI_ok, sum_l, sum_t, kVs2_ok, dVs_n, dVs_c, kVs_ok, kOs2_ok, dOs_n, dOs_c, kOs_ok, kAs2_ok, dAs_n, dAs_t, dAs_f, kAs_ok, dTup_e, kTup_ok, dLst_e, kLst_ok, dNeg_e, kNeg_ok, dNot_e, kNot_ok, dNotT_e, kNotT_ok, dAnd_1, dAnd_c, kAnd_t, kAnd_f, dOr_1, dOr_c, kOr_f, kOr_t, dAndT_n, dAndT_c, kAndT_t, kAndT_f, dOrT_n, dOrT_c, kOrT_t, kOrT_f, dIte_e, kIte_t, kIte_f, looks_n, kLs2_ok, looks_c, kLs_ok, kBi2_ok, dBi_e, kBi_ok, kC2_ok, kC1_ok, dCall_e, kCall_ok, kAw2_ok, argW_n, argW_v, argW_r, kAw_ok, back_n, back_v, back_r, refs_n, refs_v, refs_r, kIs2_ok, dIs_e, kIs_ok, dIe_e, kIe_ok, items_l, items_t, kComp2_ok, dComp_e, execs_n, execs_c, kS_nx, kS_rt, kS_brk, kS_cnt, asgo_e, kAsgo_ok, ex_e, kEx_ok, ret_e, kRet_ok, retn_e, cnt_e, brk_e, pass_e, ife_e, kIf_t, kIf_f, for_e, kFor_ok, kApp2_ok, kApp1_ok, kApp_t, app_e, isOl_ol, isOwn_ol, isOwn_od, kSet3_ok, kSet2_ol, kSet1_ok, kSet_ok, kSet0_t, seti_e, kAug2_ok, kAug1_ok, kAug_sh, aug_e, fgt_e, fgts_e, frz_e, frzs_e, frzE_n, frzE_c, frz1_e, kFz_s, kFz_n, frzW_sh, frzW_ol, frzW_od, frzW_oi, frzW_xc, aug_add, aug_sub, kRun_rt, kRun_nx, clK_c, clK_br, clK_wf, clK_ini, clK_g, low_c, low_br, kVar_oi, kArg_oi, kFv_ok, kFi_t, kFi_f, dFldV_e, isXc_n, isXc_sh, isXc_ol, isXc_od, isXc_oi, isXc_xc, fldX_xc, clK_n, kS_ex, kEx_ex, kAsgo_ex, kRet_ex, kRun_ex, kCx_n, kC2_ex, rse_e, kRse_ok, kRse2_1, kRse2_2, trye_e, kTry_ok, kTry_ex, kTry2_t, kTry2_f, kOx_t, outX_rt, outX_nx, clE_n, clE_c, kClW_t, clW_n, clW_sh, clW_ol, clW_xc, noX_non, noX_bl, noX_int, noX_str, noX_tup, noX_lst, noXs_n, noXs_c, kIb_ok, kIc2_ok, kIc_ok, kIx_t, kIx_f, dIdx_e, kIdx_ok, kIdx2_ok, kExt1_ok, kExt_t, ext_e, pureD_var, kPv_sh, pureD_int, pureDs_n, pureDs_c, kPd_ok, callOw_e, kOw_ok, kOw_ex, kMo3_ok, dMethO_e, kMo_ok, dIsc_var, dIsc_ix, dIsc_fld, dIsc_call, iscX_xc, iscD_ins, kDc_t, iscD_non, iscD_bl, iscD_int, iscD_str, iscD_tup, iscD_lst, fldS_sh, fldW_ins, fldW_oi, lkF_n, lkF_c, fldD_ins, dFld_e, kFld_ok, fldE_var, fldE_ix, fldE_pix, fldE_fld, fldE_call, fldE_mk, kPu_ok, dPix_e, dPcmp_e, kPl_ok, dPlen_e, pu_var, pu_int, pu_str, pu_fldv, kPf_ok, pu_fldf, pu_fldp, kPx_ok, pu_ix_, pu_pix, rOk_ok, vwW_sh, vwW_ol, vwW_od, recv_r, kRc_oi, recv_v, isR_v, isR_r, kMt_ok, kMe4_ok, kMe3_f, kMe2_ok, kMe_ok, dMeth_e, kMk3_t, mkO_ok, kMk2_ok, kMk_ok, dMk_e, kLi3_f, lenO_ok, kLi2_ok, kLi_ok, dLenI_e, setf_e, kStf_ok, setF_e, kSf_oi, fw_sh, fw_ol, fw_od, putW_n, putW_c, kSif2_oi, kSif1_ok, kSif_ok, setif_e, getL_0, getL_1, getL_2, getL_3, getL_4, getL_5, getL_6, getL_7, getL_8, getL_9, getL_10, getL_11, setL_0, setL_1, Gives, len_d, reto_e, kReto_ok, kReto_ex, retV_var, retV_dicl, retV_lst, mvW_sh, mvW_ol, mvW_od, mvW_oi, kG6_ok, get_d, kG5_ok, kG4_ok, kG3_ok, kG2_ok, kG1_ok, dGet2_e, dDicl_e, kCs2_ok, kCs1_ok, dCallS_e, kCs_ok, givB_nil, givB_n, givB_s, mergeG_nil, mergeG_n, mergeG_s, defsOf_nil, defsOf_n, defsOf_s, kPop_ol, popW_oi, dPopF_e, kChn4_ok, kChn3_f, kChn3_t, kChn2_ok, kChn1_ok, dChn_e, dOfI_e, kOfI_t, kOfI_f, dPart_n, dPart_s, kPart_ok, kSl4_ok, kSl3_ok, kSl2_ok, kSl1_ok, dSl_e, optD_non, optD_var, optD_int, optD_bin, optD_neg, optD_ix, optD_bi, optD_call, sl_l, sl_t, kRvs2_ok, dRvs_e, kRvs_ok, dTupRev_e, kTupRev_sh, kTupRev_ol, kIrev2_ok, dIrev_e, kIrev_ok, zip_l, zip_t, zip_tl, zip_lt, enum_l, enum_t, dIf_n, dIf_1, kTurn1_ok, dTurn_e, kTurn_f, kTurn_t, wipe_n, wipe_c, rest_n, rest_c, shO_n, shO_sh, shO_ol, kAsg2_ok, asg_e, kAsg_ok, kAsg_ex, setT_v, setT_tt, setT_tl, setTs_n, setTs_c, kSt_ok, kPar2_ok, kPar1_ok, par_e, whl_e, isa_e, all_l, kAll_ok, any_l, kAny_ok, kRp_ok, isa_int_n, isa_int_b, isa_int_i, isa_int_s, isa_int_t, isa_int_l, isa_bool_n, isa_bool_b, isa_bool_i, isa_bool_s, isa_bool_t, isa_bool_l, isa_str_n, isa_str_b, isa_str_i, isa_str_s, isa_str_t, isa_str_l, isa_list_n, isa_list_b, isa_list_i, isa_list_s, isa_list_t, isa_list_l, isa_tuple_n, isa_tuple_b, isa_tuple_i, isa_tuple_s, isa_tuple_t, isa_tuple_l, isIns_n, isIns_b, isIns_i, isIns_s, isIns_t, isIns_l, anyT_1, anyT_2, pow_10_18, pow_10_30, tru_neq, ln_1, ln_2, ln_3, ln_4, ln_5, ln_6, ln_7, ln_8, ln_9, ln_10, ln_11, ln_12, ln_13, ln_14, ln_15, ln_16, ln_17, ln_18, ln_19, ln_20, ln_21, ln_22, ln_23, ln_24, ln_25, finW_e, kFin_ok, outs_n, outs_f, outs_t, kOut_ok, nodup_0, nodup_1, nodup_2, callO_e, eq_e, ne_e, den, dens, denI, W.frz, Fw.frz, frzF, String.reduceEq, Option.isNone_none, Option.isNone_some, Option.map_some, Bool.true_and, Bool.false_and, Bool.false_eq_true, Bool.not_true, Bool.not_false, List.headD_cons, List.tail_cons, entry, List.map_cons, List.map_nil, List.cons_append, List.nil_append, List.replicate,  List.length_cons, List.length_nil, List.getElem?_cons_zero, List.getElem?_cons_succ, List.getElem?_map, List.length_map, Int.reduceLT, Int.reduceLE, Nat.reduceLT, Nat.reduceLeDiff, and_self, and_true, true_and, if_true, if_false, Nat.reduceAdd, Int.reduceAdd, Int.reduceMul, Int.reducePow, Int.reduceToNat, Int.reduceNeg, decide_true, decide_false, Nat.reduceEqDiff, reduceCtorEq, Bool.not_true, Bool.not_false, intsOf_map, Option.map_some, Nat.zero_le, pow_10_18, fgt_e, fgts_e]
  rw [comp_run (g := fun d => match d with | .int i => some (.int (if i < 0 then -i else i)) | _ => none) _ _ ?hs rfl]
  case hs =>
    intro d hd
    obtain ⟨i, _, rfl⟩ := List.mem_map.mp hd
    refine ⟨_, [some (.sh (.lst (ns.map D.int))), some (.sh (.int N)), none, none, none, some (.sh (.int i)), none, none], rfl, ?_, rfl⟩
    simp -implicitDefEqProofs only [gt_z, gt_s, st_z, st_s, mkD_v, mkD_o, mkD_r, mkD_t, mkT_v, mkT_o, mkT_r, mkT_t, dC_e, oOf_e, kO_ok, rOf_e, kR_ok, kT2_ok, kT1_ok, tOf_e, kT_ok, evVar_e, kVar_sh, kVar_ol, kVar_od, opdV_e, kOpd_sh, kOpd_ol, kOpd_od, argV_e, kArg_sh, kArg_ol, kArg_od, look_v, look_p, kLook_sh, kLook_ol, kLook_od, kW_ok, kOp3_ok, kOp2_ok, dOp_e, kOp1_ok, add_ii, add_ll, add_tt, sub_ii, mul_ii, mul_li, mul_ti, fdiv_ii, mod_ii, lt_ii, lt_tt, gt_tt, lt_ss, le_ii, gt_ii, ge_ii, kB_ok, kBn_ok, in_l, in_t, nin_l, nin_t, is_bb, isnot_bb, is_n, isnot_n, kD_ok, ix_l, ix_t, tru_bl, tru_int, tru_l, tru_t, tru_n, len_l, len_t, abs_i, int_i, int_b, tuple_l, tuple_t, list_l, list_t, max2_ii, min2_ii, kI_ok, sum_l, sum_t, kVs2_ok, dVs_n, dVs_c, kVs_ok, kOs2_ok, dOs_n, dOs_c, kOs_ok, kAs2_ok, dAs_n, dAs_t, dAs_f, kAs_ok, dTup_e, kTup_ok, dLst_e, kLst_ok, dNeg_e, kNeg_ok, dNot_e, kNot_ok, dNotT_e, kNotT_ok, dAnd_1, dAnd_c, kAnd_t, kAnd_f, dOr_1, dOr_c, kOr_f, kOr_t, dAndT_n, dAndT_c, kAndT_t, kAndT_f, dOrT_n, dOrT_c, kOrT_t, kOrT_f, dIte_e, kIte_t, kIte_f, looks_n, kLs2_ok, looks_c, kLs_ok, kBi2_ok, dBi_e, kBi_ok, kC2_ok, kC1_ok, dCall_e, kCall_ok, kAw2_ok, argW_n, argW_v, argW_r, kAw_ok, back_n, back_v, back_r, refs_n, refs_v, refs_r, kIs2_ok, dIs_e, kIs_ok, dIe_e, kIe_ok, items_l, items_t, kComp2_ok, dComp_e, execs_n, execs_c, kS_nx, kS_rt, kS_brk, kS_cnt, asgo_e, kAsgo_ok, ex_e, kEx_ok, ret_e, kRet_ok, retn_e, cnt_e, brk_e, pass_e, ife_e, kIf_t, kIf_f, for_e, kFor_ok, kApp2_ok, kApp1_ok, kApp_t, app_e, isOl_ol, isOwn_ol, isOwn_od, kSet3_ok, kSet2_ol, kSet1_ok, kSet_ok, kSet0_t, seti_e, kAug2_ok, kAug1_ok, kAug_sh, aug_e, fgt_e, fgts_e, frz_e, frzs_e, frzE_n, frzE_c, frz1_e, kFz_s, kFz_n, frzW_sh, frzW_ol, frzW_od, frzW_oi, frzW_xc, aug_add, aug_sub, kRun_rt, kRun_nx, clK_c, clK_br, clK_wf, clK_ini, clK_g, low_c, low_br, kVar_oi, kArg_oi, kFv_ok, kFi_t, kFi_f, dFldV_e, isXc_n, isXc_sh, isXc_ol, isXc_od, isXc_oi, isXc_xc, fldX_xc, clK_n, kS_ex, kEx_ex, kAsgo_ex, kRet_ex, kRun_ex, kCx_n, kC2_ex, rse_e, kRse_ok, kRse2_1, kRse2_2, trye_e, kTry_ok, kTry_ex, kTry2_t, kTry2_f, kOx_t, outX_rt, outX_nx, clE_n, clE_c, kClW_t, clW_n, clW_sh, clW_ol, clW_xc, noX_non, noX_bl, noX_int, noX_str, noX_tup, noX_lst, noXs_n, noXs_c, kIb_ok, kIc2_ok, kIc_ok, kIx_t, kIx_f, dIdx_e, kIdx_ok, kIdx2_ok, kExt1_ok, kExt_t, ext_e, pureD_var, kPv_sh, pureD_int, pureDs_n, pureDs_c, kPd_ok, callOw_e, kOw_ok, kOw_ex, kMo3_ok, dMethO_e, kMo_ok, dIsc_var, dIsc_ix, dIsc_fld, dIsc_call, iscX_xc, iscD_ins, kDc_t, iscD_non, iscD_bl, iscD_int, iscD_str, iscD_tup, iscD_lst, fldS_sh, fldW_ins, fldW_oi, lkF_n, lkF_c, fldD_ins, dFld_e, kFld_ok, fldE_var, fldE_ix, fldE_pix, fldE_fld, fldE_call, fldE_mk, kPu_ok, dPix_e, dPcmp_e, kPl_ok, dPlen_e, pu_var, pu_int, pu_str, pu_fldv, kPf_ok, pu_fldf, pu_fldp, kPx_ok, pu_ix_, pu_pix, rOk_ok, vwW_sh, vwW_ol, vwW_od, recv_r, kRc_oi, recv_v, isR_v, isR_r, kMt_ok, kMe4_ok, kMe3_f, kMe2_ok, kMe_ok, dMeth_e, kMk3_t, mkO_ok, kMk2_ok, kMk_ok, dMk_e, kLi3_f, lenO_ok, kLi2_ok, kLi_ok, dLenI_e, setf_e, kStf_ok, setF_e, kSf_oi, fw_sh, fw_ol, fw_od, putW_n, putW_c, kSif2_oi, kSif1_ok, kSif_ok, setif_e, getL_0, getL_1, getL_2, getL_3, getL_4, getL_5, getL_6, getL_7, getL_8, getL_9, getL_10, getL_11, setL_0, setL_1, Gives, len_d, reto_e, kReto_ok, kReto_ex, retV_var, retV_dicl, retV_lst, mvW_sh, mvW_ol, mvW_od, mvW_oi, kG6_ok, get_d, kG5_ok, kG4_ok, kG3_ok, kG2_ok, kG1_ok, dGet2_e, dDicl_e, kCs2_ok, kCs1_ok, dCallS_e, kCs_ok, givB_nil, givB_n, givB_s, mergeG_nil, mergeG_n, mergeG_s, defsOf_nil, defsOf_n, defsOf_s, kPop_ol, popW_oi, dPopF_e, kChn4_ok, kChn3_f, kChn3_t, kChn2_ok, kChn1_ok, dChn_e, dOfI_e, kOfI_t, kOfI_f, dPart_n, dPart_s, kPart_ok, kSl4_ok, kSl3_ok, kSl2_ok, kSl1_ok, dSl_e, optD_non, optD_var, optD_int, optD_bin, optD_neg, optD_ix, optD_bi, optD_call, sl_l, sl_t, kRvs2_ok, dRvs_e, kRvs_ok, dTupRev_e, kTupRev_sh, kTupRev_ol, kIrev2_ok, dIrev_e, kIrev_ok, zip_l, zip_t, zip_tl, zip_lt, enum_l, enum_t, dIf_n, dIf_1, kTurn1_ok, dTurn_e, kTurn_f, kTurn_t, wipe_n, wipe_c, rest_n, rest_c, shO_n, shO_sh, shO_ol, kAsg2_ok, asg_e, kAsg_ok, kAsg_ex, setT_v, setT_tt, setT_tl, setTs_n, setTs_c, kSt_ok, kPar2_ok, kPar1_ok, par_e, whl_e, isa_e, all_l, kAll_ok, any_l, kAny_ok, kRp_ok, isa_int_n, isa_int_b, isa_int_i, isa_int_s, isa_int_t, isa_int_l, isa_bool_n, isa_bool_b, isa_bool_i, isa_bool_s, isa_bool_t, isa_bool_l, isa_str_n, isa_str_b, isa_str_i, isa_str_s, isa_str_t, isa_str_l, isa_list_n, isa_list_b, isa_list_i, isa_list_s, isa_list_t, isa_list_l, isa_tuple_n, isa_tuple_b, isa_tuple_i, isa_tuple_s, isa_tuple_t, isa_tuple_l, isIns_n, isIns_b, isIns_i, isIns_s, isIns_t, isIns_l, anyT_1, anyT_2, pow_10_18, pow_10_30, tru_neq, ln_1, ln_2, ln_3, ln_4, ln_5, ln_6, ln_7, ln_8, ln_9, ln_10, ln_11, ln_12, ln_13, ln_14, ln_15, ln_16, ln_17, ln_18, ln_19, ln_20, ln_21, ln_22, ln_23, ln_24, ln_25, finW_e, kFin_ok, outs_n, outs_f, outs_t, kOut_ok, nodup_0, nodup_1, nodup_2, callO_e, eq_e, ne_e, den, dens, denI, W.frz, Fw.frz, frzF, String.reduceEq, Option.isNone_none, Option.isNone_some, Option.map_some, Bool.true_and, Bool.false_and, Bool.false_eq_true, Bool.not_true, Bool.not_false, List.headD_cons, List.tail_cons, entry, List.map_cons, List.map_nil, List.cons_append, List.nil_append, List.replicate,  List.length_cons, List.length_nil, List.getElem?_cons_zero, List.getElem?_cons_succ, List.getElem?_map, List.length_map, Int.reduceLT, Int.reduceLE, Nat.reduceLT, Nat.reduceLeDiff, and_self, and_true, true_and, if_true, if_false, Nat.reduceAdd, Int.reduceAdd, Int.reduceMul, Int.reducePow, Int.reduceToNat, Int.reduceNeg, decide_true, decide_false, Nat.reduceEqDiff, reduceCtorEq, Bool.not_true, Bool.not_false, intsOf_map, Option.map_some, Nat.zero_le, pow_10_18, fgt_e, fgts_e]
  have hf : List.filterMap (fun d => match d with | D.int i => some (D.int (if i < 0 then -i else i)) | _ => none) (ns.map D.int) = (ns.map fun i => if i < 0 then -i else i).map D.int := by
    rw [List.filterMap_map]
    induction ns with
    | nil => rfl
    | cons a l ih => simp -implicitDefEqProofs only [List.filterMap_cons, Function.comp, List.map_cons]; congr 1
  rw [hf]
  simp -implicitDefEqProofs only [hr, gt_z, gt_s, st_z, st_s, mkD_v, mkD_o, mkD_r, mkD_t, mkT_v, mkT_o, mkT_r, mkT_t, dC_e, oOf_e, kO_ok, rOf_e, kR_ok, kT2_ok, kT1_ok, tOf_e, kT_ok, evVar_e, kVar_sh, kVar_ol, kVar_od, opdV_e, kOpd_sh, kOpd_ol, kOpd_od, argV_e, kArg_sh, kArg_ol, kArg_od, look_v, look_p, kLook_sh, kLook_ol, kLook_od, kW_ok, kOp3_ok, kOp2_ok, dOp_e, kOp1_ok, add_ii, add_ll, add_tt, sub_ii, mul_ii, mul_li, mul_ti, fdiv_ii, mod_ii, lt_ii, lt_tt, gt_tt, lt_ss, le_ii, gt_ii, ge_ii, kB_ok, kBn_ok, in_l, in_t, nin_l, nin_t, is_bb, isnot_bb, is_n, isnot_n, kD_ok, ix_l, ix_t, tru_bl, tru_int, tru_l, tru_t, tru_n, len_l, len_t, abs_i, int_i, int_b, tuple_l, tuple_t, list_l, list_t, max2_ii, min2_ii, kI_ok, sum_l, sum_t, kVs2_ok, dVs_n, dVs_c, kVs_ok, kOs2_ok, dOs_n, dOs_c, kOs_ok, kAs2_ok, dAs_n, dAs_t, dAs_f, kAs_ok, dTup_e, kTup_ok, dLst_e, kLst_ok, dNeg_e, kNeg_ok, dNot_e, kNot_ok, dNotT_e, kNotT_ok, dAnd_1, dAnd_c, kAnd_t, kAnd_f, dOr_1, dOr_c, kOr_f, kOr_t, dAndT_n, dAndT_c, kAndT_t, kAndT_f, dOrT_n, dOrT_c, kOrT_t, kOrT_f, dIte_e, kIte_t, kIte_f, looks_n, kLs2_ok, looks_c, kLs_ok, kBi2_ok, dBi_e, kBi_ok, kC2_ok, kC1_ok, dCall_e, kCall_ok, kAw2_ok, argW_n, argW_v, argW_r, kAw_ok, back_n, back_v, back_r, refs_n, refs_v, refs_r, kIs2_ok, dIs_e, kIs_ok, dIe_e, kIe_ok, items_l, items_t, kComp2_ok, dComp_e, execs_n, execs_c, kS_nx, kS_rt, kS_brk, kS_cnt, asgo_e, kAsgo_ok, ex_e, kEx_ok, ret_e, kRet_ok, retn_e, cnt_e, brk_e, pass_e, ife_e, kIf_t, kIf_f, for_e, kFor_ok, kApp2_ok, kApp1_ok, kApp_t, app_e, isOl_ol, isOwn_ol, isOwn_od, kSet3_ok, kSet2_ol, kSet1_ok, kSet_ok, kSet0_t, seti_e, kAug2_ok, kAug1_ok, kAug_sh, aug_e, fgt_e, fgts_e, frz_e, frzs_e, frzE_n, frzE_c, frz1_e, kFz_s, kFz_n, frzW_sh, frzW_ol, frzW_od, frzW_oi, frzW_xc, aug_add, aug_sub, kRun_rt, kRun_nx, clK_c, clK_br, clK_wf, clK_ini, clK_g, low_c, low_br, kVar_oi, kArg_oi, kFv_ok, kFi_t, kFi_f, dFldV_e, isXc_n, isXc_sh, isXc_ol, isXc_od, isXc_oi, isXc_xc, fldX_xc, clK_n, kS_ex, kEx_ex, kAsgo_ex, kRet_ex, kRun_ex, kCx_n, kC2_ex, rse_e, kRse_ok, kRse2_1, kRse2_2, trye_e, kTry_ok, kTry_ex, kTry2_t, kTry2_f, kOx_t, outX_rt, outX_nx, clE_n, clE_c, kClW_t, clW_n, clW_sh, clW_ol, clW_xc, noX_non, noX_bl, noX_int, noX_str, noX_tup, noX_lst, noXs_n, noXs_c, kIb_ok, kIc2_ok, kIc_ok, kIx_t, kIx_f, dIdx_e, kIdx_ok, kIdx2_ok, kExt1_ok, kExt_t, ext_e, pureD_var, kPv_sh, pureD_int, pureDs_n, pureDs_c, kPd_ok, callOw_e, kOw_ok, kOw_ex, kMo3_ok, dMethO_e, kMo_ok, dIsc_var, dIsc_ix, dIsc_fld, dIsc_call, iscX_xc, iscD_ins, kDc_t, iscD_non, iscD_bl, iscD_int, iscD_str, iscD_tup, iscD_lst, fldS_sh, fldW_ins, fldW_oi, lkF_n, lkF_c, fldD_ins, dFld_e, kFld_ok, fldE_var, fldE_ix, fldE_pix, fldE_fld, fldE_call, fldE_mk, kPu_ok, dPix_e, dPcmp_e, kPl_ok, dPlen_e, pu_var, pu_int, pu_str, pu_fldv, kPf_ok, pu_fldf, pu_fldp, kPx_ok, pu_ix_, pu_pix, rOk_ok, vwW_sh, vwW_ol, vwW_od, recv_r, kRc_oi, recv_v, isR_v, isR_r, kMt_ok, kMe4_ok, kMe3_f, kMe2_ok, kMe_ok, dMeth_e, kMk3_t, mkO_ok, kMk2_ok, kMk_ok, dMk_e, kLi3_f, lenO_ok, kLi2_ok, kLi_ok, dLenI_e, setf_e, kStf_ok, setF_e, kSf_oi, fw_sh, fw_ol, fw_od, putW_n, putW_c, kSif2_oi, kSif1_ok, kSif_ok, setif_e, getL_0, getL_1, getL_2, getL_3, getL_4, getL_5, getL_6, getL_7, getL_8, getL_9, getL_10, getL_11, setL_0, setL_1, Gives, len_d, reto_e, kReto_ok, kReto_ex, retV_var, retV_dicl, retV_lst, mvW_sh, mvW_ol, mvW_od, mvW_oi, kG6_ok, get_d, kG5_ok, kG4_ok, kG3_ok, kG2_ok, kG1_ok, dGet2_e, dDicl_e, kCs2_ok, kCs1_ok, dCallS_e, kCs_ok, givB_nil, givB_n, givB_s, mergeG_nil, mergeG_n, mergeG_s, defsOf_nil, defsOf_n, defsOf_s, kPop_ol, popW_oi, dPopF_e, kChn4_ok, kChn3_f, kChn3_t, kChn2_ok, kChn1_ok, dChn_e, dOfI_e, kOfI_t, kOfI_f, dPart_n, dPart_s, kPart_ok, kSl4_ok, kSl3_ok, kSl2_ok, kSl1_ok, dSl_e, optD_non, optD_var, optD_int, optD_bin, optD_neg, optD_ix, optD_bi, optD_call, sl_l, sl_t, kRvs2_ok, dRvs_e, kRvs_ok, dTupRev_e, kTupRev_sh, kTupRev_ol, kIrev2_ok, dIrev_e, kIrev_ok, zip_l, zip_t, zip_tl, zip_lt, enum_l, enum_t, dIf_n, dIf_1, kTurn1_ok, dTurn_e, kTurn_f, kTurn_t, wipe_n, wipe_c, rest_n, rest_c, shO_n, shO_sh, shO_ol, kAsg2_ok, asg_e, kAsg_ok, kAsg_ex, setT_v, setT_tt, setT_tl, setTs_n, setTs_c, kSt_ok, kPar2_ok, kPar1_ok, par_e, whl_e, isa_e, all_l, kAll_ok, any_l, kAny_ok, kRp_ok, isa_int_n, isa_int_b, isa_int_i, isa_int_s, isa_int_t, isa_int_l, isa_bool_n, isa_bool_b, isa_bool_i, isa_bool_s, isa_bool_t, isa_bool_l, isa_str_n, isa_str_b, isa_str_i, isa_str_s, isa_str_t, isa_str_l, isa_list_n, isa_list_b, isa_list_i, isa_list_s, isa_list_t, isa_list_l, isa_tuple_n, isa_tuple_b, isa_tuple_i, isa_tuple_s, isa_tuple_t, isa_tuple_l, isIns_n, isIns_b, isIns_i, isIns_s, isIns_t, isIns_l, anyT_1, anyT_2, pow_10_18, pow_10_30, tru_neq, ln_1, ln_2, ln_3, ln_4, ln_5, ln_6, ln_7, ln_8, ln_9, ln_10, ln_11, ln_12, ln_13, ln_14, ln_15, ln_16, ln_17, ln_18, ln_19, ln_20, ln_21, ln_22, ln_23, ln_24, ln_25, finW_e, kFin_ok, outs_n, outs_f, outs_t, kOut_ok, nodup_0, nodup_1, nodup_2, callO_e, eq_e, ne_e, den, dens, denI, W.frz, Fw.frz, frzF, String.reduceEq, Option.isNone_none, Option.isNone_some, Option.map_some, Bool.true_and, Bool.false_and, Bool.false_eq_true, Bool.not_true, Bool.not_false, List.headD_cons, List.tail_cons, entry, List.map_cons, List.map_nil, List.cons_append, List.nil_append, List.replicate,  List.length_cons, List.length_nil, List.getElem?_cons_zero, List.getElem?_cons_succ, List.getElem?_map, List.length_map, Int.reduceLT, Int.reduceLE, Nat.reduceLT, Nat.reduceLeDiff, and_self, and_true, true_and, if_true, if_false, Nat.reduceAdd, Int.reduceAdd, Int.reduceMul, Int.reducePow, Int.reduceToNat, Int.reduceNeg, decide_true, decide_false, Nat.reduceEqDiff, reduceCtorEq, Bool.not_true, Bool.not_false, intsOf_map, Option.map_some, Nat.zero_le, pow_10_18, fgt_e, fgts_e]
  obtain ⟨⟨fl, ρ'⟩, e, hq⟩ := forL_gives (t := .v 4) (b := execs (clK Γ wf n) lDraws)
    (fun ds ρ => (∀ d ∈ ds, ∃ i : Nat, d = .int i) ∧ ∃ rs acc x4 x5 x6 x7, ρ = rhoD ns N rs acc x4 x5 x6 x7 ∧ rs.length = ns.length ∧ acc.length + ds.length ≤ N)
    (fun x => x.1 = .nx ∧ ∃ rs acc x4 x5 x6 x7, x.2 = rhoD ns N rs acc x4 x5 x6 x7)
    (fun ρ ⟨_, rs, acc, x4, x5, x6, x7, h, _, _⟩ => ⟨rfl, rs, acc, x4, x5, x6, x7, h⟩)
    (fun d ds ρ ⟨hd, rs, acc, x4, x5, x6, x7, h, h1, h2⟩ => by
      obtain ⟨i, rfl⟩ := hd d (by simp)
      subst h
      rw [List.length_cons] at h2
      obtain ⟨fl, rs', acc', e, g1, g2, g3⟩ := draws_turn (clK Γ wf n) ns rs acc N i (by omega) h1 (by omega) x5 x6 x7
      refine ⟨_, _, _, rfl, e, ?_⟩
      have hI : (∀ d ∈ ds, ∃ i : Nat, d = .int i) ∧ ∃ rs acc x4 x5 x6 x7, rhoD ns N rs' acc' none none none none = rhoD ns N rs acc x4 x5 x6 x7 ∧ rs.length = ns.length ∧ acc.length + ds.length ≤ N :=
        ⟨fun d h => hd d (by simp [h]), rs', acc', _, _, _, _, rfl, g1, by omega⟩
      rcases g3 with rfl | rfl
      · exact hI
      · exact hI)
    ((List.range N).map fun (k : Nat) => D.int (k : Int)) (rhoD ns N (ns.map fun i => if i < 0 then -i else i) [] none none none none)
    ⟨fun d hd => by obtain ⟨i, _, rfl⟩ := List.mem_map.mp hd; exact ⟨i, rfl⟩, _, _, _, _, _, _, rfl, by simp, by simp⟩
  obtain ⟨h1, rs, acc, x4, x5, x6, x7, h2⟩ := hq
  simp only at h1 h2
  subst h1 h2
  refine ⟨acc, ?_⟩
  have e' : forL (.v 4) (execs (clK Γ wf n) lDraws) ((List.range N).map fun (k : Nat) => D.int (k : Int)) [some (.sh (.lst (ns.map D.int))), some (.sh (.int N)), some (.ol ((ns.map fun i => if i < 0 then -i else i).map D.int)), some (.ol []), none, none, none, none] = _ := e
  rw [e']
  simp -implicitDefEqProofs only [rhoD, gt_z, gt_s, st_z, st_s, mkD_v, mkD_o, mkD_r, mkD_t, mkT_v, mkT_o, mkT_r, mkT_t, dC_e, oOf_e, kO_ok, rOf_e, kR_ok, kT2_ok, kT1_ok, tOf_e, kT_ok, evVar_e, kVar_sh, kVar_ol, kVar_od, opdV_e, kOpd_sh, kOpd_ol, kOpd_od, argV_e, kArg_sh, kArg_ol, kArg_od, look_v, look_p, kLook_sh, kLook_ol, kLook_od, kW_ok, kOp3_ok, kOp2_ok, dOp_e, kOp1_ok, add_ii, add_ll, add_tt, sub_ii, mul_ii, mul_li, mul_ti, fdiv_ii, mod_ii, lt_ii, lt_tt, gt_tt, lt_ss, le_ii, gt_ii, ge_ii, kB_ok, kBn_ok, in_l, in_t, nin_l, nin_t, is_bb, isnot_bb, is_n, isnot_n, kD_ok, ix_l, ix_t, tru_bl, tru_int, tru_l, tru_t, tru_n, len_l, len_t, abs_i, int_i, int_b, tuple_l, tuple_t, list_l, list_t, max2_ii, min2_ii, kI_ok, sum_l, sum_t, kVs2_ok, dVs_n, dVs_c, kVs_ok, kOs2_ok, dOs_n, dOs_c, kOs_ok, kAs2_ok, dAs_n, dAs_t, dAs_f, kAs_ok, dTup_e, kTup_ok, dLst_e, kLst_ok, dNeg_e, kNeg_ok, dNot_e, kNot_ok, dNotT_e, kNotT_ok, dAnd_1, dAnd_c, kAnd_t, kAnd_f, dOr_1, dOr_c, kOr_f, kOr_t, dAndT_n, dAndT_c, kAndT_t, kAndT_f, dOrT_n, dOrT_c, kOrT_t, kOrT_f, dIte_e, kIte_t, kIte_f, looks_n, kLs2_ok, looks_c, kLs_ok, kBi2_ok, dBi_e, kBi_ok, kC2_ok, kC1_ok, dCall_e, kCall_ok, kAw2_ok, argW_n, argW_v, argW_r, kAw_ok, back_n, back_v, back_r, refs_n, refs_v, refs_r, kIs2_ok, dIs_e, kIs_ok, dIe_e, kIe_ok, items_l, items_t, kComp2_ok, dComp_e, execs_n, execs_c, kS_nx, kS_rt, kS_brk, kS_cnt, asgo_e, kAsgo_ok, ex_e, kEx_ok, ret_e, kRet_ok, retn_e, cnt_e, brk_e, pass_e, ife_e, kIf_t, kIf_f, for_e, kFor_ok, kApp2_ok, kApp1_ok, kApp_t, app_e, isOl_ol, isOwn_ol, isOwn_od, kSet3_ok, kSet2_ol, kSet1_ok, kSet_ok, kSet0_t, seti_e, kAug2_ok, kAug1_ok, kAug_sh, aug_e, fgt_e, fgts_e, frz_e, frzs_e, frzE_n, frzE_c, frz1_e, kFz_s, kFz_n, frzW_sh, frzW_ol, frzW_od, frzW_oi, frzW_xc, aug_add, aug_sub, kRun_rt, kRun_nx, clK_c, clK_br, clK_wf, clK_ini, clK_g, low_c, low_br, kVar_oi, kArg_oi, kFv_ok, kFi_t, kFi_f, dFldV_e, isXc_n, isXc_sh, isXc_ol, isXc_od, isXc_oi, isXc_xc, fldX_xc, clK_n, kS_ex, kEx_ex, kAsgo_ex, kRet_ex, kRun_ex, kCx_n, kC2_ex, rse_e, kRse_ok, kRse2_1, kRse2_2, trye_e, kTry_ok, kTry_ex, kTry2_t, kTry2_f, kOx_t, outX_rt, outX_nx, clE_n, clE_c, kClW_t, clW_n, clW_sh, clW_ol, clW_xc, noX_non, noX_bl, noX_int, noX_str, noX_tup, noX_lst, noXs_n, noXs_c, kIb_ok, kIc2_ok, kIc_ok, kIx_t, kIx_f, dIdx_e, kIdx_ok, kIdx2_ok, kExt1_ok, kExt_t, ext_e, pureD_var, kPv_sh, pureD_int, pureDs_n, pureDs_c, kPd_ok, callOw_e, kOw_ok, kOw_ex, kMo3_ok, dMethO_e, kMo_ok, dIsc_var, dIsc_ix, dIsc_fld, dIsc_call, iscX_xc, iscD_ins, kDc_t, iscD_non, iscD_bl, iscD_int, iscD_str, iscD_tup, iscD_lst, fldS_sh, fldW_ins, fldW_oi, lkF_n, lkF_c, fldD_ins, dFld_e, kFld_ok, fldE_var, fldE_ix, fldE_pix, fldE_fld, fldE_call, fldE_mk, kPu_ok, dPix_e, dPcmp_e, kPl_ok, dPlen_e, pu_var, pu_int, pu_str, pu_fldv, kPf_ok, pu_fldf, pu_fldp, kPx_ok, pu_ix_, pu_pix, rOk_ok, vwW_sh, vwW_ol, vwW_od, recv_r, kRc_oi, recv_v, isR_v, isR_r, kMt_ok, kMe4_ok, kMe3_f, kMe2_ok, kMe_ok, dMeth_e, kMk3_t, mkO_ok, kMk2_ok, kMk_ok, dMk_e, kLi3_f, lenO_ok, kLi2_ok, kLi_ok, dLenI_e, setf_e, kStf_ok, setF_e, kSf_oi, fw_sh, fw_ol, fw_od, putW_n, putW_c, kSif2_oi, kSif1_ok, kSif_ok, setif_e, getL_0, getL_1, getL_2, getL_3, getL_4, getL_5, getL_6, getL_7, getL_8, getL_9, getL_10, getL_11, setL_0, setL_1, Gives, len_d, reto_e, kReto_ok, kReto_ex, retV_var, retV_dicl, retV_lst, mvW_sh, mvW_ol, mvW_od, mvW_oi, kG6_ok, get_d, kG5_ok, kG4_ok, kG3_ok, kG2_ok, kG1_ok, dGet2_e, dDicl_e, kCs2_ok, kCs1_ok, dCallS_e, kCs_ok, givB_nil, givB_n, givB_s, mergeG_nil, mergeG_n, mergeG_s, defsOf_nil, defsOf_n, defsOf_s, kPop_ol, popW_oi, dPopF_e, kChn4_ok, kChn3_f, kChn3_t, kChn2_ok, kChn1_ok, dChn_e, dOfI_e, kOfI_t, kOfI_f, dPart_n, dPart_s, kPart_ok, kSl4_ok, kSl3_ok, kSl2_ok, kSl1_ok, dSl_e, optD_non, optD_var, optD_int, optD_bin, optD_neg, optD_ix, optD_bi, optD_call, sl_l, sl_t, kRvs2_ok, dRvs_e, kRvs_ok, dTupRev_e, kTupRev_sh, kTupRev_ol, kIrev2_ok, dIrev_e, kIrev_ok, zip_l, zip_t, zip_tl, zip_lt, enum_l, enum_t, dIf_n, dIf_1, kTurn1_ok, dTurn_e, kTurn_f, kTurn_t, wipe_n, wipe_c, rest_n, rest_c, shO_n, shO_sh, shO_ol, kAsg2_ok, asg_e, kAsg_ok, kAsg_ex, setT_v, setT_tt, setT_tl, setTs_n, setTs_c, kSt_ok, kPar2_ok, kPar1_ok, par_e, whl_e, isa_e, all_l, kAll_ok, any_l, kAny_ok, kRp_ok, isa_int_n, isa_int_b, isa_int_i, isa_int_s, isa_int_t, isa_int_l, isa_bool_n, isa_bool_b, isa_bool_i, isa_bool_s, isa_bool_t, isa_bool_l, isa_str_n, isa_str_b, isa_str_i, isa_str_s, isa_str_t, isa_str_l, isa_list_n, isa_list_b, isa_list_i, isa_list_s, isa_list_t, isa_list_l, isa_tuple_n, isa_tuple_b, isa_tuple_i, isa_tuple_s, isa_tuple_t, isa_tuple_l, isIns_n, isIns_b, isIns_i, isIns_s, isIns_t, isIns_l, anyT_1, anyT_2, pow_10_18, pow_10_30, tru_neq, ln_1, ln_2, ln_3, ln_4, ln_5, ln_6, ln_7, ln_8, ln_9, ln_10, ln_11, ln_12, ln_13, ln_14, ln_15, ln_16, ln_17, ln_18, ln_19, ln_20, ln_21, ln_22, ln_23, ln_24, ln_25, finW_e, kFin_ok, outs_n, outs_f, outs_t, kOut_ok, nodup_0, nodup_1, nodup_2, callO_e, eq_e, ne_e, den, dens, denI, W.frz, Fw.frz, frzF, String.reduceEq, Option.isNone_none, Option.isNone_some, Option.map_some, Bool.true_and, Bool.false_and, Bool.false_eq_true, Bool.not_true, Bool.not_false, List.headD_cons, List.tail_cons, entry, List.map_cons, List.map_nil, List.cons_append, List.nil_append, List.replicate,  List.length_cons, List.length_nil, List.getElem?_cons_zero, List.getElem?_cons_succ, List.getElem?_map, List.length_map, Int.reduceLT, Int.reduceLE, Nat.reduceLT, Nat.reduceLeDiff, and_self, and_true, true_and, if_true, if_false, Nat.reduceAdd, Int.reduceAdd, Int.reduceMul, Int.reducePow, Int.reduceToNat, Int.reduceNeg, decide_true, decide_false, Nat.reduceEqDiff, reduceCtorEq, Bool.not_true, Bool.not_false, intsOf_map, Option.map_some, Nat.zero_le, pow_10_18, fgt_e, fgts_e]
end Z

set_option Elab.async false
set_option linter.all false
set_option maxRecDepth 100000
set_option maxHeartbeats 4000000
/-! Zt: dicts, sorting, exchanges, for plain proofs. -/
namespace Z
theorem ix_dic_i (l : List (D × D)) (j : Int) : ixO (.dic false l) (.int j) = kD (dget false [.inl j] l) := rfl
theorem ix_dic_s (l : List (D × D)) (j : PySem.Str) : ixO (.dic false l) (.str j) = kD (dget false [.inr j] l) := rfl
theorem kSet2_di (l : List (D × D)) (j : Int) (d : D) (i : Nat) (ρ : Env) : kSet2 (some (.od false l)) (.int j) d i ρ = if l.length < line then .ok (.nx, st ρ i (some (.od false (dput false [.inl j] (.int j) d l)))) else .bad := rfl
theorem dput_len (t : Bool) (k : List Key) (a b : D) (l : List (D × D)) : (dput t k a b l).length ≤ l.length + 1 := by
  unfold dput
  split
  · simp
  · simp
theorem dget_dput {t : Bool} {k k' : List Key} {a b : D} {l : List (D × D)} (ha : keyD t a = some k) : dget t k' (dput t k a b l) = if k' = k then some b else dget t k' l := by
  unfold dget dput
  by_cases h : (l.any fun p => decide (keyD t p.1 = some k)) = true
  · rw [if_pos h, List.find?_map]
    have e : ((fun p : D × D => decide (keyD t p.1 = some k')) ∘ fun p : D × D => if keyD t p.1 = some k then (p.1, b) else p) = fun p => decide (keyD t p.1 = some k') := by
      funext p
      show decide (keyD t (if keyD t p.1 = some k then (p.1, b) else p).1 = some k') = _
      split <;> rfl
    rw [e]
    by_cases hk : k' = k
    · subst hk
      rw [if_pos rfl]
      cases hf : l.find? fun p => decide (keyD t p.1 = some k') with
      | none =>
        rw [List.find?_eq_none] at hf
        rw [List.any_eq_true] at h
        obtain ⟨x, hx, hx2⟩ := h
        exact absurd hx2 (hf x hx)
      | some p =>
        have := List.find?_some hf
        simp only [decide_eq_true_eq] at this
        simp [this]
    · rw [if_neg hk]
      cases hf : l.find? fun p => decide (keyD t p.1 = some k') with
      | none => rfl
      | some p =>
        have := List.find?_some hf
        simp only [decide_eq_true_eq] at this
        have h2 : ¬ keyD t p.1 = some k := fun e => hk (by rw [this] at e; exact Option.some.inj e)
        simp [h2]
  · rw [if_neg h, List.find?_append]
    by_cases hk : k' = k
    · subst hk
      rw [if_pos rfl]
      have hf : (l.find? fun p => decide (keyD t p.1 = some k')) = none := by
        rw [List.find?_eq_none]
        intro x hx hx2
        exact h (List.any_eq_true.mpr ⟨x, hx, hx2⟩)
      rw [hf]
      simp [ha]
    · rw [if_neg hk]
      have h2 : ¬ keyD t a = some k' := fun e => hk (by rw [ha] at e; exact (Option.some.inj e).symm)
      have h3 : ([(a, b)].find? fun p : D × D => decide (keyD t p.1 = some k')) = none := by simp [h2]
      rw [h3]
      cases l.find? fun p => decide (keyD t p.1 = some k') <;> rfl
def kSort (o : Option (List D)) : R W := (ofO o).bind fun r => .ok (.ol r)
theorem sorted_l (l : List D) : biO .sorted [.lst l] = kSort (sortO l) := rfl
theorem kSort_ok (l : List D) : kSort (some l) = .ok (.ol l) := rfl
abbrev pt (x : Int × Int) : D := .tup [.int x.1, .int x.2]
theorem pairsOf_map (l : List (Int × Int)) : pairsOf (l.map pt) = some l := by
  induction l with
  | nil => rfl
  | cons a l ih => simp [pairsOf, ih]
theorem sort_pairs (l : List (Int × Int)) : sortO (l.map pt) = some ((l.mergeSort leP).map pt) := by
  cases l with
  | nil => rw [List.mergeSort_nil]; unfold sortO; rw [show intsOf (List.map pt []) = some [] from rfl]; simp
  | cons a l =>
    have h1 : intsOf ((a :: l).map pt) = none := rfl
    unfold sortO
    rw [h1, pairsOf_map]
theorem sort_ints (l : List Int) : sortO (l.map D.int) = some ((l.mergeSort fun a b => decide (a ≤ b)).map D.int) := by
  unfold sortO
  rw [intsOf_map]
def kMin1 (o : Option (List Int)) (l : List D) : R W := match o with
    | some (m :: r) => .ok (.sh (.int (minI m r)))
    | some [] => .bad
    | none => (ofO (minO l)).bind fun d => .ok (.sh d)
theorem min1_l (l : List D) : biO .min1 [.lst l] = kMin1 (intsOf l) l := rfl
theorem kMin1_ok (m : Int) (r : List Int) (l : List D) : kMin1 (some (m :: r)) l = .ok (.sh (.int (minI m r))) := rfl
theorem kMin1_n (l : List D) : kMin1 none l = kD (minO l) := rfl
def kMax1 (o : Option (List Int)) (l : List D) : R W := match o with
    | some (m :: r) => .ok (.sh (.int (maxI m r)))
    | some [] => .bad
    | none => (ofO (maxO l)).bind fun d => .ok (.sh d)
theorem max1_l (l : List D) : biO .max1 [.lst l] = kMax1 (intsOf l) l := rfl
theorem kMax1_ok (m : Int) (r : List Int) (l : List D) : kMax1 (some (m :: r)) l = .ok (.sh (.int (maxI m r))) := rfl
theorem kMax1_n (l : List D) : kMax1 none l = kD (maxO l) := rfl
theorem minI_ge {c : Int} : ∀ {l : List Int} {m : Int}, c ≤ m → (∀ x ∈ l, c ≤ x) → c ≤ minI m l
  | [], m, h, _ => h
  | x :: l, m, h, hl => minI_ge (l := l) (by have := hl x (by simp); split <;> omega) fun y hy => hl y (by simp [hy])
/-- an exchange -/
theorem swp_run {k : Cl} {i : Nat} {x y a b : E} {ρ : Env} {l l' l'' : List D} {p q : D} {n n' : Int} (h0 : gt ρ i = some (.ol l)) (ha : (den k a).v ρ = .ok (.sh p, ρ)) (hb : (den k b).v ρ = .ok (.sh q, ρ))
    (hx : (den k x).v ρ = .ok (.sh (.int n), ρ)) (h1 : setL l n p = some l') (hy : (den k y).v (st ρ i (some (.ol l'))) = .ok (.sh (.int n'), st ρ i (some (.ol l'))))
    (hg : gt (st ρ i (some (.ol l'))) i = some (.ol l')) (h2 : setL l' n' q = some l'') : exec k (.swp i x y a b) ρ = .ok (.nx, st ρ i (some (.ol l''))) := by
  show (if isOl (gt ρ i) = true then _ else _) = _
  rw [h0, if_pos (isOl_ol l), ha, bind_ok]
  show ((den k b).v ρ).bind _ = _
  rw [hb, bind_ok]
  show ((den k x).v ρ).bind _ = _
  rw [hx, bind_ok]
  show (match gt ρ i, (D.int n) with | some (.ol l), .int n => _ | _, _ => _) = _
  rw [h0]
  show (ofO (setL l n p)).bind _ = _
  rw [h1]
  show ((den k y).v (st ρ i (some (.ol l')))).bind _ = _
  rw [hy, bind_ok]
  show (match gt (st ρ i (some (.ol l'))) i, (D.int n') with | some (.ol m), .int n' => _ | _, _ => _) = _
  rw [hg]
  show (ofO (setL l' n' q)).bind _ = _
  rw [h2]
  show R.ok (Fl.nx, st (st ρ i (some (.ol l'))) i (some (.ol l''))) = _
  rw [st_stq]
theorem enum_range (f : Nat → D) : ∀ (n i : Nat), enumD (i : Int) ((List.range n).map fun k => f (i + k)) = (List.range n).map fun k => D.tup [.int ((i + k : Nat) : Int), f (i + k)]
  | 0, i => rfl
  | n + 1, i => by
    rw [List.range_succ_eq_map, List.map_cons, List.map_cons, List.map_map, List.map_map]
    have h := enum_range f n (i + 1)
    have e1 : (fun k => f (i + k)) ∘ Nat.succ = fun k => f (i + 1 + k) := by funext k; simp only [Function.comp]; congr 1; omega
    have e2 : (fun k => D.tup [.int ((i + k : Nat) : Int), f (i + k)]) ∘ Nat.succ = fun k => D.tup [.int ((i + 1 + k : Nat) : Int), f (i + 1 + k)] := by
      funext k; simp only [Function.comp]
      have : i + k.succ = i + 1 + k := by omega
      rw [this]
    rw [e1, e2, ← h]
    rfl
theorem map_getD {α : Type} (l : List α) (d : α) : l = (List.range l.length).map fun k => l.getD k d := by
  apply List.ext_getElem
  · simp
  · intro i h1 h2
    simp
    rw [List.getElem?_eq_getElem h1]; rfl
def kFl (r : R (Fl × Env)) (t : T) (b : Env → R (Fl × Env)) (ds : List D) : R (Fl × Env) := r.bind fun x => match x.1 with
    | .nx => forL t b ds x.2
    | .cnt => forL t b ds x.2
    | .brk => .ok (.nx, x.2)
    | .rt w => .ok (.rt w, x.2)
theorem forL_c {t : T} {b : Env → R (Fl × Env)} {d : D} {ds : List D} {ρ ρ1 : Env} (h : setT t d ρ = .ok ρ1) : forL t b (d :: ds) ρ = kFl (b ρ1) t b ds := by
  conv => lhs; unfold forL
  rw [h]
  rfl
theorem forL_n {t : T} {b : Env → R (Fl × Env)} {ρ : Env} : forL t b [] ρ = .ok (.nx, ρ) := rfl
theorem kFl_nx {ρ : Env} {t : T} {b : Env → R (Fl × Env)} {ds : List D} : kFl (.ok (.nx, ρ)) t b ds = forL t b ds ρ := rfl
theorem kFl_cnt {ρ : Env} {t : T} {b : Env → R (Fl × Env)} {ds : List D} : kFl (.ok (.cnt, ρ)) t b ds = forL t b ds ρ := rfl
theorem kFl_brk {ρ : Env} {t : T} {b : Env → R (Fl × Env)} {ds : List D} : kFl (.ok (.brk, ρ)) t b ds = .ok (.nx, ρ) := rfl
theorem kFl_rt {ρ : Env} {w : W} {t : T} {b : Env → R (Fl × Env)} {ds : List D} : kFl (.ok (.rt w, ρ)) t b ds = .ok (.rt w, ρ) := rfl
/-- a comprehension that changes names, by an invariant -/
theorem comp_inv {t : T} {own : List Nat} {cs : List Dn} {e : Dn} (I : List D → List D → Env → Prop)
    (hs : ∀ acc d ds ρ, I acc (d :: ds) ρ → ∃ ρ1 o ρ2, setT t d (wipeE ρ own) = .ok ρ1 ∧ dTurn cs e ρ1 = .ok (o, ρ2) ∧ I (acc ++ o.toList) ds ρ2) (ds : List D) (ρ : Env) (h : I [] ds (wipeE ρ own)) :
    ∃ l ρ', kComp (.ok (ds, ρ)) e t cs own = .ok (.ol l, restE ρ ρ' own) ∧ I l [] ρ' := by
  obtain ⟨l, ρ', e1, h1⟩ := cmpL_inv I hs ds [] (wipeE ρ own) h
  exact ⟨l, ρ', by rw [kComp_ok, e1, kComp2_ok], by simpa using h1⟩
mutual
theorem eqv_refl : ∀ p : PySem.PyData, p.canLay0 = true → PySem.PyData.eqv p p = true
  | .none, _ => by simp [PySem.PyData.eqv]
  | .bool b, _ => by simp [PySem.PyData.eqv]
  | .int i, _ => by simp [PySem.PyData.eqv]
  | .str x, _ => by simp [PySem.PyData.eqv]
  | .list xs, h => by
    simp only [PySem.PyData.eqv]
    exact eqvAll_refl xs (by simpa [PySem.PyData.canLay0] using h)
  | .tuple xs, h => by
    simp only [PySem.PyData.eqv]
    exact eqvAll_refl xs (by simpa [PySem.PyData.canLay0] using h)
  | .dict _, h => by simp [PySem.PyData.canLay0] at h
theorem eqvAll_refl : ∀ xs : List PySem.PyData, PySem.PyData.canLayAll0 xs = true → PySem.PyData.eqvAll xs xs = true
  | [], _ => by simp [PySem.PyData.eqvAll]
  | x :: xs, h => by
    have h' : x.canLay0 = true ∧ PySem.PyData.canLayAll0 xs = true := by simpa [PySem.PyData.canLayAll0] using h
    simp only [PySem.PyData.eqvAll, eqv_refl x h'.1, eqvAll_refl xs h'.2, Bool.and_self]
end
theorem eqO_refl {d : D} (h : Pd d) : eqO d d = some true := by
  obtain ⟨p, e, h1, h2, h3, h4, h5⟩ := Pr.data h
  have hs : PySem.SeqAt.shaped p = true := by
    unfold PySem.SeqAt.shaped
    rw [h1]
    simp; omega
  unfold eqO
  rw [e]
  show (if (PySem.SeqAt.shaped p && PySem.SeqAt.shaped p) = true then some (PySem.PyData.eqv p p) else none) = _
  rw [hs, eqv_refl p h1]; rfl
end Z

set_option Elab.async false
set_option linter.all false
set_option maxRecDepth 100000
set_option maxHeartbeats 4000000
/-! Zu: comprehensions and loops over a list that is made of plain things. -/
namespace Z
theorem cmpL_filter {α : Type} {t : T} {own : List Nat} {f : Env → R (Option D × Env)} (ρ0 : Env) (it : α → D) (g : α → Option D) :
    ∀ (l : List α) (ρ : Env), wipeE ρ own = ρ0 → (∀ a ∈ l, ∃ ρ1, setT t (it a) ρ0 = .ok ρ1 ∧ f ρ1 = .ok (g a, ρ1) ∧ wipeE ρ1 own = ρ0) → ∃ ρ', cmpL t own f (l.map it) ρ = .ok (l.filterMap g, ρ') ∧ wipeE ρ' own = ρ0
  | [], ρ, h, _ => ⟨ρ, rfl, h⟩
  | a :: l, ρ, h, hs => by
    obtain ⟨ρ1, e1, e2, e3⟩ := hs a (by simp)
    obtain ⟨ρ', e4, e5⟩ := cmpL_filter ρ0 it g l ρ1 e3 fun a' ha => hs a' (by simp [ha])
    refine ⟨ρ', ?_, e5⟩
    rw [List.map_cons]
    unfold cmpL
    rw [h, e1]
    show ((f ρ1).bind _) = _
    rw [e2]
    show ((cmpL t own f (l.map it) ρ1).bind _) = _
    rw [e4]
    cases hg : g a <;> simp [List.filterMap_cons, hg]
/-- a comprehension over plain things, some of them left out -/
theorem comp_filter {α : Type} {t : T} {own : List Nat} {cs : List Dn} {e : Dn} (l : List α) (it : α → D) (g : α → Option D) (ρ : Env)
    (hs : ∀ a ∈ l, ∃ ρ1, setT t (it a) (wipeE ρ own) = .ok ρ1 ∧ dTurn cs e ρ1 = .ok (g a, ρ1) ∧ wipeE ρ1 own = wipeE ρ own) (hw : wipeE (wipeE ρ own) own = wipeE ρ own) :
    kComp (.ok (l.map it, ρ)) e t cs own = .ok (.ol (l.filterMap g), restE ρ (wipeE ρ own) own) := by
  obtain ⟨ρ', e1, e2⟩ := cmpL_filter (wipeE ρ own) it g l (wipeE ρ own) hw hs
  rw [kComp_ok, e1, kComp2_ok, ← rest_wipe ρ ρ' own, e2]
/-- a comprehension over plain things -/
theorem comp_map {α : Type} {t : T} {own : List Nat} {cs : List Dn} {e : Dn} (l : List α) (it : α → D) (g : α → D) (ρ : Env)
    (hs : ∀ a ∈ l, ∃ ρ1, setT t (it a) (wipeE ρ own) = .ok ρ1 ∧ dTurn cs e ρ1 = .ok (some (g a), ρ1) ∧ wipeE ρ1 own = wipeE ρ own) (hw : wipeE (wipeE ρ own) own = wipeE ρ own) :
    kComp (.ok (l.map it, ρ)) e t cs own = .ok (.ol (l.map g), restE ρ (wipeE ρ own) own) := by
  have h := comp_filter l it (fun a => some (g a)) ρ hs hw
  rw [h]
  have : l.filterMap (fun a => some (g a)) = l.map g := by
    induction l with
    | nil => rfl
    | cons a l ih => rw [List.filterMap_cons, List.map_cons, ih (fun a h => hs a (by simp [h]))]; exact comp_filter l it (fun a => some (g a)) ρ (fun a h => hs a (by simp [h])) hw
  rw [this]
/-- a loop over plain things that changes a state of plain things (s after a is f s a) and a rest -/
theorem loop_fold {α σ τ : Type} {b : Env → R (Fl × Env)} {t : T} (E : σ → τ → Env) (it : α → D) (f : σ → α → σ) (I : List α → σ → τ → Prop) :
    ∀ (l : List α) (s : σ) (x : τ), I l s x →
    (∀ a l s x, I (a :: l) s x → ∃ ρ1 x', setT t (it a) (E s x) = .ok ρ1 ∧ b ρ1 = .ok (.nx, E (f s a) x') ∧ I l (f s a) x') →
    ∃ y, forL t b (l.map it) (E s x) = .ok (.nx, E (l.foldl f s) y) ∧ I [] (l.foldl f s) y
  | [], s, x, h, _ => ⟨x, rfl, h⟩
  | a :: l, s, x, h, hs => by
    obtain ⟨ρ1, x', h1, h2, h3⟩ := hs a l s x h
    obtain ⟨y, e, h4⟩ := loop_fold E it f I l (f s a) x' h3 hs
    refine ⟨y, ?_, h4⟩
    rw [List.map_cons, forL_c h1, h2, kFl_nx, e]; rfl
/-- a loop that puts one thing behind for each; J tells of the rest -/
theorem loop_app {α β τ : Type} {b : Env → R (Fl × Env)} {t : T} (E : List β → τ → Env) (J : τ → Prop) (it : α → D) (g : α → β) (N : Nat) (l : List α) (acc : List β) (x : τ) (hN : acc.length + l.length ≤ N) (hJ : J x)
    (hs : ∀ a ∈ l, ∀ acc x, acc.length < N → J x → ∃ ρ1 x', setT t (it a) (E acc x) = .ok ρ1 ∧ b ρ1 = .ok (.nx, E (acc ++ [g a]) x') ∧ J x') :
    ∃ y, forL t b (l.map it) (E acc x) = .ok (.nx, E (acc ++ l.map g) y) ∧ J y := by
  obtain ⟨y, e, h⟩ := loop_fold (b := b) (t := t) E it (fun s a => s ++ [g a]) (fun m s x => (s.length + m.length ≤ N ∧ ∀ a ∈ m, a ∈ l) ∧ J x) l acc x ⟨⟨hN, fun _ h => h⟩, hJ⟩
    (fun a m s x ⟨⟨h1, h2⟩, h3⟩ => by
      rw [List.length_cons] at h1
      obtain ⟨ρ1, x', e1, e2, e3⟩ := hs a (h2 a (by simp)) s x (by omega) h3
      exact ⟨ρ1, x', e1, e2, ⟨by rw [List.length_append, List.length_singleton]; omega, fun a h => h2 a (by simp [h])⟩, e3⟩)
  refine ⟨y, ?_, h.2⟩
  rw [e]
  have : ∀ (l : List α) (acc : List β), l.foldl (fun s a => s ++ [g a]) acc = acc ++ l.map g := by
    intro l
    induction l with
    | nil => intro acc; simp
    | cons a l ih => intro acc; simp [ih]
  rw [this]
/-- a range of a list's places -/
theorem range_get {α : Type} (l : List α) (f : α → D) (d : α) : l.map f = (List.range l.length).map fun k => f (l.getD k d) := by
  conv => lhs; rw [map_getD l d]
  rw [List.map_map]; rfl
theorem getL_map {α : Type} (l : List α) (f : α → D) (d : α) (k : Nat) (h : k < l.length) : getL (l.map f) (k : Int) = some (f (l.getD k d)) := by
  rw [getL_nat]; simp [h]
theorem mapInt {α : Type} (l : List α) (F : α → Int) : l.map (fun a => D.int (F a)) = (l.map F).map D.int := by rw [List.map_map]; rfl
/-- a comprehension over plain things that makes integers -/
theorem comp_ints {α : Type} {t : T} {own : List Nat} {cs : List Dn} {e : Dn} (l : List α) (it : α → D) (F : α → Int) (ρ : Env)
    (hs : ∀ a ∈ l, ∃ ρ1, setT t (it a) (wipeE ρ own) = .ok ρ1 ∧ dTurn cs e ρ1 = .ok (some (.int (F a)), ρ1) ∧ wipeE ρ1 own = wipeE ρ own) (hw : wipeE (wipeE ρ own) own = wipeE ρ own) :
    kComp (.ok (l.map it, ρ)) e t cs own = .ok (.ol ((l.map F).map D.int), restE ρ (wipeE ρ own) own) := by
  rw [comp_map l it (fun a => .int (F a)) ρ hs hw, mapInt]
theorem zip_range {α β γ : Type} (w : Nat) (a : List α) (b : List β) (x : α) (y : β) (ha : a.length = w) (hb : b.length = w) (F : α → β → γ) : ((List.range w).map fun k => F (a.getD k x) (b.getD k y)) = (a.zip b).map fun z => F z.1 z.2 := by
  apply List.ext_getElem
  · simp; omega
  · intro i h1 h2
    simp only [List.length_map, List.length_range] at h1
    have i1 : i < a.length := by omega
    have i2 : i < b.length := by omega
    simp [i1, i2]
theorem zipD_maps {α β : Type} (f : α → D) (g : β → D) : ∀ (a : List α) (b : List β), zipD (a.map f) (b.map g) = (a.zip b).map fun z => D.tup [f z.1, g z.2]
  | [], b => by cases b <;> rfl
  | x :: a, [] => rfl
  | x :: a, y :: b => by simp only [List.map_cons, zipD, List.zip_cons_cons, zipD_maps f g a b]
end Z

set_option Elab.async false
set_option linter.all false
set_option maxRecDepth 100000
set_option maxHeartbeats 4000000
/-! Zv: rules whose conditions arithmetic settles; comprehensions and loops whose results are found by running. -/
namespace Z
theorem line_e : line = 16777216 := rfl
abbrev dn (n : Nat) : D := .int (n : Int)
theorem decT {p : Prop} [Decidable p] (h : p) : decide p = true := decide_eq_true h
theorem decF {p : Prop} [Decidable p] (h : ¬ p) : decide p = false := decide_eq_false h
theorem ifT {α : Type} {c : Prop} [Decidable c] (h : c) (a b : α) : (if c then a else b) = a := if_pos h
theorem ifF {α : Type} {c : Prop} [Decidable c] (h : ¬ c) (a b : α) : (if c then a else b) = b := if_neg h
theorem vmul {i j : Int} (h : (-18446744073709551616 < j ∧ j < 18446744073709551616) ∨ (-18446744073709551616 < i ∧ i < 18446744073709551616)) : binO .mul (.int i) (.int j) = .ok (.sh (.int (i * j))) := by
  rw [mul_ii]
  refine if_pos ?_
  unfold mulOk
  simp
  omega
theorem vmod {i j : Int} (h : 0 < j) : binO .mod (.int i) (.int j) = .ok (.sh (.int (i % j))) := if_pos h
theorem vdiv {i j : Int} (h : 0 < j ∧ j < 1073741824) : binO .fdiv (.int i) (.int j) = .ok (.sh (.int (i / j))) := if_pos h
theorem vaddl {a b : List D} (h : a.length + b.length ≤ 16777216) : binO .add (.lst a) (.lst b) = .ok (.ol (a ++ b)) := if_pos h
theorem vaddt {a b : List D} (h : a.length + b.length ≤ 16777216) : binO .add (.tup a) (.tup b) = .ok (.sh (.tup (a ++ b))) := if_pos h
theorem vmull {l : List D} {k : Int} (h : k ≤ 1000) (h2 : -1000 ≤ k) (h3 : l.length ≤ 1000) : binO .mul (.lst l) (.int k) = .ok (.ol (List.replicate k.toNat l).flatten) := by
  refine if_pos ⟨by omega, by omega, ?_⟩
  have h4 : k.toNat ≤ 1000 := by omega
  have := Nat.mul_le_mul h3 h4
  have hl : line = 16777216 := rfl
  omega
theorem vapp {l : List D} {d : D} {i : Nat} {ρ : Env} (h : l.length < 16777216) : kApp2 (some (.ol l)) d i ρ = .ok (.nx, st ρ i (some (.ol (l ++ [d])))) := if_pos h
theorem vext {l m : List D} {i : Nat} {ρ : Env} (h : l.length + m.length ≤ 16777216) : kExt2 (some (.ol l)) (.ol m) i ρ = .ok (.nx, st ρ i (some (.ol (l ++ m)))) := if_pos h
theorem vsetd {t : Bool} {l : List (D × D)} {q d : D} {k : List Key} {i : Nat} {ρ : Env} (hk : keyD t q = some k) (h : l.length < 16777216) : kSet2 (some (.od t l)) q d i ρ = .ok (.nx, st ρ i (some (.od t (dput t k q d l)))) := by
  cases q <;> first
    | (simp only [kSet2, hk, ofO_some, bind_ok]; exact if_pos h)
    | (cases t <;> simp [keyD, key1] at hk)
theorem vrng {i : Int} (h : -4611686018427387904 ≤ i ∧ i ≤ 16777216) : rngO [.int i] = some ((List.range i.toNat).map dn) := by
  have hl : line = 16777216 := rfl
  have hw : within i = true := within_i h.1 (by omega)
  have e : rngO [.int i] = if (within i && decide (i.toNat ≤ line)) = true then some (rngL 0 1 i.toNat) else none := rfl
  rw [e, hw]
  have : i.toNat ≤ line := by omega
  simp only [Bool.true_and, decide_eq_true this, if_true]
  unfold rngL
  simp
theorem vrng2 {i j : Int} (h : -4611686018427387904 ≤ i ∧ i < 4611686018427387904 ∧ -4611686018427387904 ≤ j ∧ j < 4611686018427387904 ∧ j - i ≤ 16777216) : rngO [.int i, .int j] = some ((List.range (j - i).toNat).map fun (k : Nat) => D.int (i + (k : Int))) := by
  have hl : line = 16777216 := rfl
  have hw : within i = true := within_i h.1 (by omega)
  have hw2 : within j = true := within_i (by omega) (by omega)
  have e : rngO [.int i, .int j] = if (within i && within j && decide ((j - i).toNat ≤ line)) = true then some (rngL i 1 (j - i).toNat) else none := rfl
  rw [e, hw, hw2]
  have : (j - i).toNat ≤ line := by omega
  simp only [Bool.true_and, decide_eq_true this, if_true]
  unfold rngL
  simp
theorem vget {α : Type} {l : List α} {f : α → D} {i : Int} (h0 : 0 ≤ i) (h : i.toNat < l.length) : getL (l.map f) i = some (f (l[i.toNat]'h)) := by
  obtain ⟨k, rfl⟩ := Int.eq_ofNat_of_zero_le h0
  simp only [Int.toNat_natCast] at h ⊢
  rw [getL_nat]
  simp [h]
theorem vlast {α : Type} (l : List α) (x : α) : getL (l ++ [x]) (-1) = some x := by
  unfold getL ixI
  have h1 : ¬ (0 : Int) ≤ -1 := by omega
  rw [if_neg h1, if_pos (by simp; omega)]
  show (l ++ [x])[((-1 : Int) + ((l ++ [x]).length : Int)).toNat]? = some x
  have e : ((-1 : Int) + ((l ++ [x]).length : Int)).toNat = l.length := by simp; omega
  rw [e]
  simp
theorem vset {l : List D} {i : Int} {d : D} (h0 : 0 ≤ i) (h : i.toNat < l.length) : setL l i d = some (l.set i.toNat d) := by
  obtain ⟨k, rfl⟩ := Int.eq_ofNat_of_zero_le h0
  simp only [Int.toNat_natCast] at h ⊢
  exact setL_nat _ _ _ h
theorem vints {α : Type} (l : List α) (f : α → Int) : intsOf (l.map fun a => D.int (f a)) = some (l.map f) := by
  rw [mapInt, intsOf_map]
theorem vbls {α : Type} (l : List α) (f : α → Bool) : blsOf (l.map fun a => D.bl (f a)) = some (l.map f) := by
  rw [show (l.map fun a => D.bl (f a)) = (l.map f).map D.bl by rw [List.map_map]; rfl, blsOf_map]
theorem enumD_map {α : Type} (f : α → D) : ∀ (l : List α) (i : Nat), enumD (i : Int) (l.map f) = (l.zipIdx i).map fun x => D.tup [dn x.2, f x.1]
  | [], _ => rfl
  | a :: l, i => by
    rw [List.zipIdx_cons, List.map_cons, List.map_cons, ← enumD_map f l (i + 1)]
    rfl
theorem enumD_map0 {α : Type} (f : α → D) (l : List α) : enumD 0 (l.map f) = l.zipIdx.map fun x => D.tup [dn x.2, f x.1] := enumD_map f l 0
/-- a comprehension with a test -/
theorem comp_filt {α : Type} {t : T} {own : List Nat} {c e : Dn} (l : List α) (it : α → D) (p : α → Bool) (g : α → D) (ρ : Env)
    (hs : ∀ a ∈ l, ∃ ρ1, setT t (it a) (wipeE ρ own) = .ok ρ1 ∧ c.t ρ1 = .ok (p a, ρ1) ∧ (p a = true → dTurn [] e ρ1 = .ok (some (g a), ρ1)) ∧ wipeE ρ1 own = wipeE ρ own) (hw : wipeE (wipeE ρ own) own = wipeE ρ own) :
    kComp (.ok (l.map it, ρ)) e t [c] own = .ok (.ol ((l.filter p).map g), restE ρ (wipeE ρ own) own) := by
  rw [comp_filter l it (fun a => if p a then some (g a) else none) ρ ?_ hw]
  · have : ∀ l : List α, l.filterMap (fun a => if p a then some (g a) else none) = (l.filter p).map g := by
      intro l
      induction l with
      | nil => rfl
      | cons a l ih =>
        rw [List.filterMap_cons, List.filter_cons]
        cases p a <;> simp [ih]
    rw [this]
  · intro a ha
    obtain ⟨ρ1, h1, h2, h3, h4⟩ := hs a ha
    refine ⟨ρ1, h1, ?_, h4⟩
    rw [dTurn_e, dIf_1, h2]
    cases hp : p a with
    | false => rfl
    | true => rw [kTurn_t]; exact h3 hp
/-- a loop without a break: I tells of the turns to come and of the state; the names are E of the state -/
theorem loop_stE {α σ : Type} {b : Env → R (Fl × Env)} {t : T} (E : σ → Env) (it : α → D) (f : σ → α → σ) (I : List α → σ → Prop) :
    ∀ (l : List α) (s : σ), I l s → (∀ a l s, I (a :: l) s → ∃ ρ1, setT t (it a) (E s) = .ok ρ1 ∧ b ρ1 = .ok (.nx, E (f s a)) ∧ I l (f s a)) →
    forL t b (l.map it) (E s) = .ok (.nx, E (l.foldl f s))
  | [], s, _, _ => rfl
  | a :: l, s, h, hs => by
    obtain ⟨ρ1, h1, h2, h3⟩ := hs a l s h
    rw [List.map_cons, forL_c h1, h2, kFl_nx, loop_stE E it f I l (f s a) h3 hs]; rfl
theorem loop_st {α σ : Type} {b : Env → R (Fl × Env)} {t : T} {ρ : Env} (E : σ → Env) (it : α → D) (f : σ → α → σ) (I : List α → σ → Prop) (l : List α) (s : σ)
    (hs : ∀ a l s, I (a :: l) s → ∃ ρ1, setT t (it a) (E s) = .ok ρ1 ∧ b ρ1 = .ok (.nx, E (f s a)) ∧ I l (f s a)) (h : I l s) (h0 : ρ = E s) : forL t b (l.map it) ρ = .ok (.nx, E (l.foldl f s)) := by
  rw [h0]
  exact loop_stE E it f I l s h hs
/-- .. by the turn's number: F i is the state ahead of turn i -/
theorem loop_at {α σ : Type} {b : Env → R (Fl × Env)} {t : T} {ρ : Env} (E : σ → Env) (it : α → D) (F : Nat → σ) (l : List α)
    (hs : ∀ i (h : i < l.length), ∃ ρ1, setT t (it l[i]) (E (F i)) = .ok ρ1 ∧ b ρ1 = .ok (.nx, E (F (i + 1)))) (h0 : ρ = E (F 0)) :
    forL t b (l.map it) ρ = .ok (.nx, E (F l.length)) := by
  rw [h0]
  have key : ∀ (m i : Nat), i + m = l.length → forL t b ((l.drop i).map it) (E (F i)) = .ok (.nx, E (F l.length)) := by
    intro m
    induction m with
    | zero =>
      intro i h
      have : l.drop i = [] := List.drop_eq_nil_of_le (by omega)
      rw [this, show i = l.length by omega]; rfl
    | succ m ih =>
      intro i h
      have hi : i < l.length := by omega
      obtain ⟨ρ1, h1, h2⟩ := hs i hi
      rw [List.drop_eq_getElem_cons hi, List.map_cons, forL_c h1, h2, kFl_nx, ih (i + 1) (by omega)]
  have := key l.length 0 (by omega)
  rwa [List.drop_zero] at this
/-- .. over a range -/
theorem loop_rng {σ : Type} {b : Env → R (Fl × Env)} {t : T} {ρ : Env} (E : σ → Env) (F : Nat → σ) (n : Nat)
    (hs : ∀ i, i < n → ∃ ρ1, setT t (dn i) (E (F i)) = .ok ρ1 ∧ b ρ1 = .ok (.nx, E (F (i + 1)))) (h0 : ρ = E (F 0)) :
    forL t b ((List.range n).map dn) ρ = .ok (.nx, E (F n)) := by
  have := loop_at (b := b) (t := t) E dn F (List.range n) (fun i h => by
    rw [List.getElem_range]
    exact hs i (by simpa using h)) h0
  rwa [List.length_range] at this
/-- a loop of which only an invariant is told -/
theorem loop_inv {α : Type} {b : Env → R (Fl × Env)} {t : T} (it : α → D) (I : List α → Env → Prop) :
    ∀ (l : List α) (ρ : Env), I l ρ → (∀ a l ρ, I (a :: l) ρ → ∃ ρ1 ρ2, setT t (it a) ρ = .ok ρ1 ∧ b ρ1 = .ok (.nx, ρ2) ∧ I l ρ2) →
    ∃ ρ', forL t b (l.map it) ρ = .ok (.nx, ρ') ∧ I [] ρ'
  | [], ρ, h, _ => ⟨ρ, rfl, h⟩
  | a :: l, ρ, h, hs => by
    obtain ⟨ρ1, ρ2, h1, h2, h3⟩ := hs a l ρ h
    obtain ⟨ρ', e, h4⟩ := loop_inv it I l ρ2 h3 hs
    exact ⟨ρ', by rw [List.map_cons, forL_c h1, h2, kFl_nx, e], h4⟩
/-- a comprehension of which only an invariant is told -/
theorem comp_invs {α : Type} {t : T} {own : List Nat} {cs : List Dn} {e : Dn} (it : α → D) (I : List D → List α → Env → Prop)
    (hs : ∀ acc a l ρ, I acc (a :: l) ρ → ∃ ρ1 o ρ2, setT t (it a) (wipeE ρ own) = .ok ρ1 ∧ dTurn cs e ρ1 = .ok (o, ρ2) ∧ I (acc ++ o.toList) l ρ2) (l : List α) (ρ : Env) (h : I [] l (wipeE ρ own)) :
    ∃ m ρ', kComp (.ok (l.map it, ρ)) e t cs own = .ok (.ol m, restE ρ ρ' own) ∧ I m [] ρ' := by
  have key : ∀ (l : List α) (acc : List D) (ρ : Env), I acc l ρ → ∃ m ρ', cmpL t own (dTurn cs e) (l.map it) ρ = .ok (m, ρ') ∧ I (acc ++ m) [] ρ' := by
    intro l
    induction l with
    | nil => intro acc ρ h; exact ⟨[], ρ, rfl, by simpa using h⟩
    | cons a l ih =>
      intro acc ρ h
      obtain ⟨ρ1, o, ρ2, e1, e2, h2⟩ := hs acc a l ρ h
      obtain ⟨m, ρ', e3, h3⟩ := ih _ ρ2 h2
      refine ⟨o.toList ++ m, ρ', ?_, by simpa using h3⟩
      rw [List.map_cons]
      unfold cmpL
      rw [e1]
      show ((dTurn cs e ρ1).bind _) = _
      rw [e2]
      show ((cmpL t own (dTurn cs e) (l.map it) ρ2).bind _) = _
      rw [e3]
      rfl
  obtain ⟨m, ρ', e1, h1⟩ := key l [] (wipeE ρ own) h
  exact ⟨m, ρ', by rw [kComp_ok, e1, kComp2_ok], by simpa using h1⟩
def kTw (r : R (Option D × Env)) (own : List Nat) : R (Option D × Env) := r.bind fun x => .ok (x.1, wipeE x.2 own)
theorem kTw_ok (o : Option D) (ρ : Env) (own : List Nat) : kTw (.ok (o, ρ)) own = .ok (o, wipeE ρ own) := rfl
theorem kTw_of {r : R (Option D × Env)} {own : List Nat} {o : Option D} {ρ' : Env} (h : kTw r own = .ok (o, ρ')) : ∃ ρ2, r = .ok (o, ρ2) ∧ wipeE ρ2 own = ρ' := by
  cases r with
  | ok x =>
    obtain ⟨a, b⟩ := x
    rw [kTw_ok] at h
    cases h
    exact ⟨b, rfl, rfl⟩
  | ex c fs ρ => cases h
  | bad => cases h
/-- a comprehension that changes names, turn by turn: E i are the names ahead of turn i -/
theorem comp_at {α : Type} {t : T} {own : List Nat} {cs : List Dn} {e : Dn} {ρ0 : Env} (E : Nat → Env) (it : α → D) (g : Nat → D) (l : List α)
    (hs : ∀ i (h : i < l.length), ∃ ρ1, setT t (it l[i]) (wipeE (E i) own) = .ok ρ1 ∧ kTw (dTurn cs e ρ1) own = .ok (some (g i), wipeE (E (i + 1)) own)) (hw : ∀ i, wipeE (wipeE (E i) own) own = wipeE (E i) own) (h0 : ρ0 = E 0) :
    kComp (.ok (l.map it, ρ0)) e t cs own = .ok (.ol ((List.range l.length).map g), restE (E 0) (wipeE (E l.length) own) own) := by
  rw [h0]
  have key : ∀ (m i : Nat) (ρ : Env), i + m = l.length → wipeE ρ own = wipeE (E i) own → ∃ ρ', cmpL t own (dTurn cs e) ((l.drop i).map it) ρ = .ok ((List.range' i m).map g, ρ') ∧ wipeE ρ' own = wipeE (E l.length) own := by
    intro m
    induction m with
    | zero =>
      intro i ρ h hr
      have : l.drop i = [] := List.drop_eq_nil_of_le (by omega)
      rw [this]
      exact ⟨ρ, rfl, by rw [hr, show i = l.length by omega]⟩
    | succ m ih =>
      intro i ρ h hr
      have hi : i < l.length := by omega
      obtain ⟨ρ1, h1, h23⟩ := hs i hi
      obtain ⟨ρ2, h2, h3⟩ := kTw_of h23
      obtain ⟨ρ', e1, e2⟩ := ih (i + 1) ρ2 (by omega) h3
      refine ⟨ρ', ?_, e2⟩
      rw [List.drop_eq_getElem_cons hi, List.map_cons]
      unfold cmpL
      rw [hr, h1]
      show ((dTurn cs e ρ1).bind _) = _
      rw [h2]
      show ((cmpL t own (dTurn cs e) ((l.drop (i + 1)).map it) ρ2).bind _) = _
      rw [e1, List.range'_succ, List.map_cons]
      rfl
  obtain ⟨ρ', e1, e2⟩ := key l.length 0 (wipeE (E 0) own) (by omega) (hw 0)
  rw [List.drop_zero] at e1
  rw [kComp_ok, e1, kComp2_ok, List.range_eq_range', ← rest_wipe (E 0) ρ' own, e2]
theorem Prs.maps {α : Type} {k n : Nat} (f : α → D) (l : List α) (h : ∀ a ∈ l, Pr k n (f a)) : Prs k (l.length * (n + 1)) (l.map f) := by
  have := Prs.of (k := k) (n := n) (l := l.map f) fun d hd => by
    obtain ⟨a, ha, rfl⟩ := List.mem_map.mp hd
    exact h a ha
  rwa [List.length_map] at this
theorem mem_getElem {α : Type} {l : List α} {i : Nat} (h : i < l.length) : l[i] ∈ l := List.getElem_mem h
/-- a comprehension over plain things -/
theorem comp_o {α : Type} {t : T} {own : List Nat} {cs : List Dn} {e : Dn} (l : List α) (it : α → D) (g : α → Option D) (ρ : Env)
    (hs : ∀ a ∈ l, ∃ ρ1, setT t (it a) (wipeE ρ own) = .ok ρ1 ∧ kTw (dTurn cs e ρ1) own = .ok (g a, wipeE ρ own)) (hw : wipeE (wipeE ρ own) own = wipeE ρ own) :
    kComp (.ok (l.map it, ρ)) e t cs own = .ok (.ol (l.filterMap g), restE ρ (wipeE ρ own) own) := by
  have key : ∀ (l : List α) (ρ0 : Env), wipeE ρ0 own = wipeE ρ own → (∀ a ∈ l, ∃ ρ1, setT t (it a) (wipeE ρ own) = .ok ρ1 ∧ kTw (dTurn cs e ρ1) own = .ok (g a, wipeE ρ own)) → ∃ ρ', cmpL t own (dTurn cs e) (l.map it) ρ0 = .ok (l.filterMap g, ρ') ∧ wipeE ρ' own = wipeE ρ own := by
    intro l
    induction l with
    | nil => intro ρ0 h _; exact ⟨ρ0, rfl, h⟩
    | cons a l ih =>
      intro ρ0 h hs
      obtain ⟨ρ1, e1, e23⟩ := hs a (by simp)
      obtain ⟨ρ2, e2, e3⟩ := kTw_of e23
      obtain ⟨ρ', e4, e5⟩ := ih ρ2 e3 fun a' ha => hs a' (by simp [ha])
      refine ⟨ρ', ?_, e5⟩
      rw [List.map_cons]
      unfold cmpL
      rw [h, e1]
      show ((dTurn cs e ρ1).bind _) = _
      rw [e2]
      show ((cmpL t own (dTurn cs e) (l.map it) ρ2).bind _) = _
      rw [e4]
      cases hg : g a <;> simp [List.filterMap_cons, hg]
  obtain ⟨ρ', e1, e2⟩ := key l (wipeE ρ own) hw hs
  rw [kComp_ok, e1, kComp2_ok, ← rest_wipe ρ ρ' own, e2]
theorem comp_m {α : Type} {t : T} {own : List Nat} {cs : List Dn} {e : Dn} (l : List α) (it : α → D) (g : α → D) (ρ : Env)
    (hs : ∀ a ∈ l, ∃ ρ1, setT t (it a) (wipeE ρ own) = .ok ρ1 ∧ kTw (dTurn cs e ρ1) own = .ok (some (g a), wipeE ρ own)) (hw : wipeE (wipeE ρ own) own = wipeE ρ own) :
    kComp (.ok (l.map it, ρ)) e t cs own = .ok (.ol (l.map g), restE ρ (wipeE ρ own) own) := by
  rw [comp_o l it (fun a => some (g a)) ρ hs hw, List.filterMap_eq_map']
theorem comp_f {α : Type} {t : T} {own : List Nat} {cs : List Dn} {e : Dn} (l : List α) (it : α → D) (p : α → Bool) (g : α → D) (ρ : Env)
    (hs : ∀ a ∈ l, ∃ ρ1, setT t (it a) (wipeE ρ own) = .ok ρ1 ∧ kTw (dTurn cs e ρ1) own = .ok (if p a then some (g a) else none, wipeE ρ own)) (hw : wipeE (wipeE ρ own) own = wipeE ρ own) :
    kComp (.ok (l.map it, ρ)) e t cs own = .ok (.ol ((l.filter p).map g), restE ρ (wipeE ρ own) own) := by
  rw [comp_o l it (fun a => if p a then some (g a) else none) ρ hs hw]
  have : ∀ l : List α, l.filterMap (fun a => if p a then some (g a) else none) = (l.filter p).map g := by
    intro l
    induction l with
    | nil => rfl
    | cons a l ih =>
      rw [List.filterMap_cons, List.filter_cons]
      cases p a <;> simp [ih]
  rw [this]
theorem idx_ints {i : Int} {ns : List Int} (h : i ∈ ns) : idxO (.int i) (ns.map D.int) = .ok (.sh (.int (ns.idxOf i : Nat))) := by
  have h1 : (flatD (.int i) && (ns.map D.int).all flatD) = true := by simp [flatD]
  unfold idxO
  rw [h1]
  have h2 : ((ns.map D.int).map toV).findIdx? (fun z => L2.eqV z (toV (.int i))) = some (ns.idxOf i) := by
    rw [List.map_map, List.findIdx?_map]
    have e : ((fun z => L2.eqV z (toV (.int i))) ∘ (toV ∘ D.int)) = fun a => a == i := by funext a; rfl
    rw [e, List.findIdx?_eq_some_iff_findIdx_eq]
    exact ⟨List.idxOf_lt_length_of_mem h, rfl⟩
  rw [h2]
  rfl

/-! ### loops that end early -/
theorem loop_first {α : Type} {b : Env → R (Fl × Env)} {t : T} (it : α → D) (p : α → Bool) (w : α → W) (ρ : Env) : ∀ (l : List α), (∀ a ∈ l, ∃ ρ1 ρ2, setT t (it a) ρ = .ok ρ1 ∧ b ρ1 = if p a = true then .ok (.rt (w a), ρ2) else .ok (.nx, ρ)) →
    ∃ ρ', forL t b (l.map it) ρ = match l.find? p with | some a => .ok (.rt (w a), ρ') | none => .ok (.nx, ρ)
  | [], _ => ⟨ρ, rfl⟩
  | a :: l, h => by
    obtain ⟨ρ1, ρ2, h1, h2⟩ := h a (by simp)
    obtain ⟨ρ', e⟩ := loop_first it p w ρ l fun x hx => h x (by simp [hx])
    rw [List.map_cons, forL_c h1, h2, List.find?_cons]
    cases hp : p a with
    | true => exact ⟨ρ2, by rw [if_pos rfl, kFl_rt]⟩
    | false => exact ⟨ρ', by rw [if_neg (by simp), kFl_nx, e]⟩
/-- each turn goes on, or gives back the same -/
theorem loop_all {α : Type} {b : Env → R (Fl × Env)} {t : T} (it : α → D) (p : α → Bool) (w : W) (ρ : Env) (l : List α) (h : ∀ a ∈ l, ∃ ρ1 ρ2, setT t (it a) ρ = .ok ρ1 ∧ b ρ1 = if p a = true then .ok (.nx, ρ) else .ok (.rt w, ρ2)) :
    ∃ ρ', forL t b (l.map it) ρ = if l.all p = true then .ok (.nx, ρ) else .ok (.rt w, ρ') := by
  obtain ⟨ρ', e⟩ := loop_first (b := b) (t := t) it (fun a => !p a) (fun _ => w) ρ l fun a ha => by
    obtain ⟨ρ1, ρ2, h1, h2⟩ := h a ha
    refine ⟨ρ1, ρ2, h1, ?_⟩
    rw [h2]
    cases p a <;> rfl
  refine ⟨ρ', ?_⟩
  rw [e]
  cases hf : l.find? (fun a => !p a) with
  | none =>
    rw [List.find?_eq_none] at hf
    have : l.all p = true := by
      rw [List.all_eq_true]
      intro a ha
      simpa using hf a ha
    rw [if_pos this]
  | some a =>
    have h1 := List.mem_of_find?_eq_some hf
    have h2 := List.find?_some hf
    have : ¬ l.all p = true := by
      rw [List.all_eq_true]
      intro h3
      have := h3 a h1
      rw [this] at h2
      cases h2
    rw [if_neg this]
theorem loop_skip {α : Type} {b : Env → R (Fl × Env)} {t : T} (it : α → D) (ρ : Env) (r : List D) : ∀ (l : List α), (∀ a ∈ l, ∃ ρ1, setT t (it a) ρ = .ok ρ1 ∧ b ρ1 = .ok (.nx, ρ)) → forL t b (l.map it ++ r) ρ = forL t b r ρ
  | [], _ => rfl
  | a :: l, h => by
    obtain ⟨ρ1, h1, h2⟩ := h a (by simp)
    rw [List.map_cons, List.cons_append, forL_c h1, h2, kFl_nx, loop_skip it ρ r l fun x hx => h x (by simp [hx])]
theorem zipIdx_range (c : List Int) : c.zipIdx = (List.range c.length).map fun i => (c.getD i 0, i) := by
  apply List.ext_getElem
  · simp
  intro i h1 h2
  have h3 : i < c.length := by simpa using h1
  simp [h3]
theorem whl_t {w : Nat} {k : Cl} {t : E} {b : List S} {ρ ρ1 ρ2 : Env} (h1 : (den k t).t ρ = .ok (true, ρ1)) (h2 : execs k b ρ1 = .ok (.nx, ρ2)) : kWhl (w+1) k t b ρ = kWhl w k t b ρ2 := by
  unfold kWhl
  rw [whlL, h1]
  show ((execs k b ρ1).bind _) = _
  rw [h2]
  rfl
theorem whl_f {w : Nat} {k : Cl} {t : E} {b : List S} {ρ ρ1 : Env} (h1 : (den k t).t ρ = .ok (false, ρ1)) : kWhl (w+1) k t b ρ = .ok (.nx, ρ1) := by
  unfold kWhl
  rw [whlL, h1]
  rfl
theorem loop_idx {b : Env → R (Fl × Env)} {t : T} (n : Nat) (it : Nat → D) (I : Nat → Env → Prop) (hs : ∀ j, j < n → ∀ ρ, I j ρ → ∃ ρ1 ρ2, setT t (it j) ρ = .ok ρ1 ∧ b ρ1 = .ok (.nx, ρ2) ∧ I (j + 1) ρ2) (ρ : Env) (h : I 0 ρ) :
    ∃ ρ', forL t b ((List.range n).map it) ρ = .ok (.nx, ρ') ∧ I n ρ' := by
  have key : ∀ (m j : Nat) (ρ : Env), j + m = n → I j ρ → ∃ ρ', forL t b ((List.range' j m).map it) ρ = .ok (.nx, ρ') ∧ I n ρ' := by
    intro m
    induction m with
    | zero => intro j ρ e h; exact ⟨ρ, rfl, by rw [← e]; exact h⟩
    | succ m ih =>
      intro j ρ e h
      obtain ⟨ρ1, ρ2, e1, e2, h2⟩ := hs j (by omega) ρ h
      obtain ⟨ρ', e3, h3⟩ := ih (j + 1) ρ2 (by omega) h2
      exact ⟨ρ', by rw [List.range'_succ, List.map_cons, forL_c e1, e2, kFl_nx, e3], h3⟩
  rw [List.range_eq_range']
  exact key n 0 ρ (by omega) h
theorem execs_append (k : Cl) : ∀ (a b : List S) (ρ : Env), execs k (a ++ b) ρ = kS (execs k a ρ) k b
  | [], b, ρ => rfl
  | s :: a, b, ρ => by
    rw [List.cons_append, execs_c, execs_c]
    cases h : exec k s ρ with
    | ex c fs ρ' => rfl
    | bad => rfl
    | ok x =>
      obtain ⟨fl, ρ'⟩ := x
      cases fl with
      | nx => rw [kS_nx, kS_nx]; exact execs_append k a b ρ'
      | _ => rfl
theorem comp_ex {α : Type} {t : T} {own : List Nat} {cs : List Dn} {e : Dn} {P : List D → Env → Prop} (it : α → D) (I : List D → List α → Env → Prop)
    (hs : ∀ acc a l ρ, I acc (a :: l) ρ → ∃ ρ1 o ρ2, setT t (it a) (wipeE ρ own) = .ok ρ1 ∧ dTurn cs e ρ1 = .ok (o, ρ2) ∧ I (acc ++ o.toList) l ρ2) (l : List α) (ρ : Env) (h : I [] l (wipeE ρ own)) (hP : ∀ m ρ', I m [] ρ' → P m (restE ρ ρ' own)) :
    ∃ m ρ', kComp (.ok (l.map it, ρ)) e t cs own = .ok (.ol m, ρ') ∧ P m ρ' := by
  obtain ⟨m, ρ', e1, h1⟩ := comp_invs it I hs l ρ h
  exact ⟨m, _, e1, hP m ρ' h1⟩
/-- the rules, in one -/
def zA := And.intro (And.intro (And.intro (And.intro (And.intro (And.intro (And.intro (And.intro (And.intro (@gt_z) (@gt_s)) (And.intro (@st_z) (@st_s))) (And.intro (And.intro (@mkD_v) (@mkD_o)) (And.intro (@mkD_r) (And.intro (@mkD_t) (@mkT_v))))) (And.intro (And.intro (And.intro (@mkT_o) (@mkT_r)) (And.intro (@mkT_t) (And.intro (@dC_e) (@oOf_e)))) (And.intro (And.intro (@kO_ok) (@rOf_e)) (And.intro (@kR_ok) (And.intro (@kT2_ok) (@kT1_ok)))))) (And.intro (And.intro (And.intro (And.intro (@tOf_e) (@kT_ok)) (And.intro (@evVar_e) (@kVar_sh))) (And.intro (And.intro (@kVar_ol) (@kVar_od)) (And.intro (@opdV_e) (And.intro (@kOpd_sh) (@kOpd_ol))))) (And.intro (And.intro (And.intro (@kOpd_od) (@argV_e)) (And.intro (@kArg_sh) (And.intro (@kArg_ol) (@kArg_od)))) (And.intro (And.intro (@look_v) (@look_p)) (And.intro (@kLook_sh) (And.intro (@kLook_ol) (@kLook_od))))))) (And.intro (And.intro (And.intro (And.intro (And.intro (@kW_ok) (@kOp3_ok)) (And.intro (@kOp2_ok) (@dOp_e))) (And.intro (And.intro (@kOp1_ok) (@add_ii)) (And.intro (@sub_ii) (And.intro (@mul_ti) (@lt_ii))))) (And.intro (And.intro (And.intro (@lt_tt) (@gt_tt)) (And.intro (@lt_ss) (And.intro (@le_ii) (@gt_ii)))) (And.intro (And.intro (@ge_ii) (@kB_ok)) (And.intro (@kBn_ok) (And.intro (@in_l) (@in_t)))))) (And.intro (And.intro (And.intro (And.intro (@nin_l) (@nin_t)) (And.intro (@is_bb) (@isnot_bb))) (And.intro (And.intro (@is_n) (@isnot_n)) (And.intro (@kD_ok) (And.intro (@ix_l) (@ix_t))))) (And.intro (And.intro (And.intro (@tru_bl) (@tru_int)) (And.intro (@tru_l) (And.intro (@tru_t) (@tru_n)))) (And.intro (And.intro (@len_l) (@len_t)) (And.intro (@abs_i) (And.intro (@int_i) (@int_b)))))))) (And.intro (And.intro (And.intro (And.intro (And.intro (And.intro (@tuple_l) (@tuple_t)) (And.intro (@list_l) (@list_t))) (And.intro (And.intro (@max2_ii) (@min2_ii)) (And.intro (@kI_ok) (And.intro (@sum_l) (@sum_t))))) (And.intro (And.intro (And.intro (@kVs2_ok) (@dVs_n)) (And.intro (@dVs_c) (And.intro (@kVs_ok) (@kOs2_ok)))) (And.intro (And.intro (@dOs_n) (@dOs_c)) (And.intro (@kOs_ok) (And.intro (@kAs2_ok) (@dAs_n)))))) (And.intro (And.intro (And.intro (And.intro (@dAs_t) (@dAs_f)) (And.intro (@kAs_ok) (@dTup_e))) (And.intro (And.intro (@kTup_ok) (@dLst_e)) (And.intro (@kLst_ok) (And.intro (@dNeg_e) (@kNeg_ok))))) (And.intro (And.intro (And.intro (@dNot_e) (@kNot_ok)) (And.intro (@dNotT_e) (And.intro (@kNotT_ok) (@dAnd_1)))) (And.intro (And.intro (@dAnd_c) (@kAnd_t)) (And.intro (@kAnd_f) (And.intro (@dOr_1) (@dOr_c))))))) (And.intro (And.intro (And.intro (And.intro (And.intro (@kOr_f) (@kOr_t)) (And.intro (@dAndT_n) (@dAndT_c))) (And.intro (And.intro (@kAndT_t) (@kAndT_f)) (And.intro (@dOrT_n) (And.intro (@dOrT_c) (@kOrT_t))))) (And.intro (And.intro (And.intro (@kOrT_f) (@dIte_e)) (And.intro (@kIte_t) (And.intro (@kIte_f) (@looks_n)))) (And.intro (And.intro (@kLs2_ok) (@looks_c)) (And.intro (@kLs_ok) (And.intro (@kBi2_ok) (@dBi_e)))))) (And.intro (And.intro (And.intro (And.intro (@kBi_ok) (@kC2_ok)) (And.intro (@kC1_ok) (@dCall_e))) (And.intro (And.intro (@kCall_ok) (@kAw2_ok)) (And.intro (@argW_n) (And.intro (@argW_v) (@argW_r))))) (And.intro (And.intro (And.intro (@kAw_ok) (@back_n)) (And.intro (@back_v) (And.intro (@back_r) (@refs_n)))) (And.intro (And.intro (@refs_v) (@refs_r)) (And.intro (@kIs2_ok) (And.intro (@dIs_e) (@kIs_ok))))))))) (And.intro (And.intro (And.intro (And.intro (And.intro (And.intro (And.intro (@dIe_e) (@kIe_ok)) (And.intro (@items_l) (@items_t))) (And.intro (And.intro (@kComp2_ok) (@dComp_e)) (And.intro (@execs_n) (And.intro (@execs_c) (@kS_nx))))) (And.intro (And.intro (And.intro (@kS_rt) (@kS_brk)) (And.intro (@kS_cnt) (And.intro (@asgo_e) (@kAsgo_ok)))) (And.intro (And.intro (@ex_e) (@kEx_ok)) (And.intro (@ret_e) (And.intro (@kRet_ok) (@retn_e)))))) (And.intro (And.intro (And.intro (And.intro (@cnt_e) (@brk_e)) (And.intro (@pass_e) (@ife_e))) (And.intro (And.intro (@kIf_t) (@kIf_f)) (And.intro (@for_e) (And.intro (@kFor_ok) (@kApp1_ok))))) (And.intro (And.intro (And.intro (@kApp_t) (@app_e)) (And.intro (@isOl_ol) (And.intro (@isOwn_ol) (@isOwn_od)))) (And.intro (And.intro (@kSet3_ok) (@kSet2_ol)) (And.intro (@kSet1_ok) (And.intro (@kSet_ok) (@kSet0_t))))))) (And.intro (And.intro (And.intro (And.intro (And.intro (@seti_e) (@kAug2_ok)) (And.intro (@kAug1_ok) (@kAug_sh))) (And.intro (And.intro (@aug_e) (@fgt_e)) (And.intro (@fgts_e) (And.intro (@frz_e) (@frzs_e))))) (And.intro (And.intro (And.intro (@frzE_n) (@frzE_c)) (And.intro (@frz1_e) (And.intro (@kFz_s) (@kFz_n)))) (And.intro (And.intro (@frzW_sh) (@frzW_ol)) (And.intro (@frzW_od) (And.intro (@frzW_oi) (@frzW_xc)))))) (And.intro (And.intro (And.intro (And.intro (@aug_add) (@aug_sub)) (And.intro (@kRun_rt) (@kRun_nx))) (And.intro (And.intro (@clK_c) (@clK_br)) (And.intro (@clK_wf) (And.intro (@clK_ini) (@clK_g))))) (And.intro (And.intro (And.intro (@low_c) (@low_br)) (And.intro (@kVar_oi) (And.intro (@kArg_oi) (@kFv_ok)))) (And.intro (And.intro (@kFi_t) (@kFi_f)) (And.intro (@dFldV_e) (And.intro (@isXc_n) (@isXc_sh)))))))) (And.intro (And.intro (And.intro (And.intro (And.intro (And.intro (@isXc_ol) (@isXc_od)) (And.intro (@isXc_oi) (@isXc_xc))) (And.intro (And.intro (@fldX_xc) (@clK_n)) (And.intro (@kS_ex) (And.intro (@kEx_ex) (@kAsgo_ex))))) (And.intro (And.intro (And.intro (@kRet_ex) (@kRun_ex)) (And.intro (@kCx_n) (And.intro (@kC2_ex) (@rse_e)))) (And.intro (And.intro (@kRse_ok) (@kRse2_1)) (And.intro (@kRse2_2) (And.intro (@trye_e) (@kTry_ok)))))) (And.intro (And.intro (And.intro (And.intro (@kTry_ex) (@kTry2_t)) (And.intro (@kTry2_f) (@kOx_t))) (And.intro (And.intro (@outX_rt) (@outX_nx)) (And.intro (@clE_n) (And.intro (@clE_c) (@kClW_t))))) (And.intro (And.intro (And.intro (@clW_n) (@clW_sh)) (And.intro (@clW_ol) (And.intro (@clW_xc) (@noX_non)))) (And.intro (And.intro (@noX_bl) (@noX_int)) (And.intro (@noX_str) (And.intro (@noX_tup) (@noX_lst))))))) (And.intro (And.intro (And.intro (And.intro (And.intro (@noXs_n) (@noXs_c)) (And.intro (@kIb_ok) (@kIc2_ok))) (And.intro (And.intro (@kIc_ok) (@kIx_t)) (And.intro (@kIx_f) (And.intro (@dIdx_e) (@kIdx_ok))))) (And.intro (And.intro (And.intro (@kIdx2_ok) (@kExt1_ok)) (And.intro (@kExt_t) (And.intro (@ext_e) (@pureD_var)))) (And.intro (And.intro (@kPv_sh) (@pureD_int)) (And.intro (@pureDs_n) (And.intro (@pureDs_c) (@kPd_ok)))))) (And.intro (And.intro (And.intro (And.intro (@callOw_e) (@kOw_ok)) (And.intro (@kOw_ex) (And.intro (@kMo3_ok) (@dMethO_e)))) (And.intro (And.intro (@kMo_ok) (@dIsc_var)) (And.intro (@dIsc_ix) (And.intro (@dIsc_fld) (@dIsc_call))))) (And.intro (And.intro (And.intro (@iscX_xc) (@iscD_ins)) (And.intro (@kDc_t) (And.intro (@iscD_non) (@iscD_bl)))) (And.intro (And.intro (@iscD_int) (@iscD_str)) (And.intro (@iscD_tup) (And.intro (@iscD_lst) (@fldS_sh)))))))))) (And.intro (And.intro (And.intro (And.intro (And.intro (And.intro (And.intro (And.intro (@fldW_ins) (@fldW_oi)) (And.intro (@lkF_n) (@lkF_c))) (And.intro (And.intro (@fldD_ins) (@dFld_e)) (And.intro (@kFld_ok) (And.intro (@fldE_var) (@fldE_ix))))) (And.intro (And.intro (And.intro (@fldE_pix) (@fldE_fld)) (And.intro (@fldE_call) (And.intro (@fldE_mk) (@kPu_ok)))) (And.intro (And.intro (@dPix_e) (@dPcmp_e)) (And.intro (@kPl_ok) (And.intro (@dPlen_e) (@pu_var)))))) (And.intro (And.intro (And.intro (And.intro (@pu_int) (@pu_str)) (And.intro (@pu_fldv) (@kPf_ok))) (And.intro (And.intro (@pu_fldf) (@pu_fldp)) (And.intro (@kPx_ok) (And.intro (@pu_ix_) (@pu_pix))))) (And.intro (And.intro (And.intro (@rOk_ok) (@vwW_sh)) (And.intro (@vwW_ol) (And.intro (@vwW_od) (@recv_r)))) (And.intro (And.intro (@kRc_oi) (@recv_v)) (And.intro (@isR_v) (And.intro (@isR_r) (@kMt_ok))))))) (And.intro (And.intro (And.intro (And.intro (And.intro (@kMe4_ok) (@kMe3_f)) (And.intro (@kMe2_ok) (@kMe_ok))) (And.intro (And.intro (@dMeth_e) (@kMk3_t)) (And.intro (@mkO_ok) (And.intro (@kMk2_ok) (@kMk_ok))))) (And.intro (And.intro (And.intro (@dMk_e) (@kLi3_f)) (And.intro (@lenO_ok) (And.intro (@kLi2_ok) (@kLi_ok)))) (And.intro (And.intro (@dLenI_e) (@setf_e)) (And.intro (@kStf_ok) (And.intro (@setF_e) (@kSf_oi)))))) (And.intro (And.intro (And.intro (And.intro (@fw_sh) (@fw_ol)) (And.intro (@fw_od) (@putW_n))) (And.intro (And.intro (@putW_c) (@kSif2_oi)) (And.intro (@kSif1_ok) (And.intro (@kSif_ok) (@setif_e))))) (And.intro (And.intro (And.intro (@getL_0) (@getL_1)) (And.intro (@getL_2) (And.intro (@getL_3) (@getL_4)))) (And.intro (And.intro (@getL_5) (@getL_6)) (And.intro (@getL_7) (And.intro (@getL_8) (@getL_9)))))))) (And.intro (And.intro (And.intro (And.intro (And.intro (And.intro (@getL_10) (@getL_11)) (And.intro (@setL_0) (@setL_1))) (And.intro (And.intro (@len_d) (@reto_e)) (And.intro (@kReto_ok) (And.intro (@kReto_ex) (@retV_var))))) (And.intro (And.intro (And.intro (@retV_dicl) (@retV_lst)) (And.intro (@mvW_sh) (And.intro (@mvW_ol) (@mvW_od)))) (And.intro (And.intro (@mvW_oi) (@kG6_ok)) (And.intro (@get_d) (And.intro (@kG5_ok) (@kG4_ok)))))) (And.intro (And.intro (And.intro (And.intro (@kG3_ok) (@kG2_ok)) (And.intro (@kG1_ok) (@dGet2_e))) (And.intro (And.intro (@dDicl_e) (@kCs2_ok)) (And.intro (@kCs1_ok) (And.intro (@dCallS_e) (@kCs_ok))))) (And.intro (And.intro (And.intro (@givB_nil) (@givB_n)) (And.intro (@givB_s) (And.intro (@mergeG_nil) (@mergeG_n)))) (And.intro (And.intro (@mergeG_s) (@defsOf_nil)) (And.intro (@defsOf_n) (And.intro (@defsOf_s) (@kPop_ol))))))) (And.intro (And.intro (And.intro (And.intro (And.intro (@popW_oi) (@dPopF_e)) (And.intro (@kChn4_ok) (@kChn3_f))) (And.intro (And.intro (@kChn3_t) (@kChn2_ok)) (And.intro (@kChn1_ok) (And.intro (@dChn_e) (@dOfI_e))))) (And.intro (And.intro (And.intro (@kOfI_t) (@kOfI_f)) (And.intro (@dPart_n) (And.intro (@dPart_s) (@kPart_ok)))) (And.intro (And.intro (@kSl4_ok) (@kSl3_ok)) (And.intro (@kSl2_ok) (And.intro (@kSl1_ok) (@dSl_e)))))) (And.intro (And.intro (And.intro (And.intro (@optD_non) (@optD_var)) (And.intro (@optD_int) (@optD_bin))) (And.intro (And.intro (@optD_neg) (@optD_ix)) (And.intro (@optD_bi) (And.intro (@optD_call) (@sl_l))))) (And.intro (And.intro (And.intro (@sl_t) (@kRvs2_ok)) (And.intro (@dRvs_e) (And.intro (@kRvs_ok) (@dTupRev_e)))) (And.intro (And.intro (@kTupRev_sh) (@kTupRev_ol)) (And.intro (@kIrev2_ok) (And.intro (@dIrev_e) (@kIrev_ok))))))))) (And.intro (And.intro (And.intro (And.intro (And.intro (And.intro (And.intro (@zip_l) (@zip_t)) (And.intro (@zip_tl) (@zip_lt))) (And.intro (And.intro (@enum_l) (@enum_t)) (And.intro (@dIf_n) (And.intro (@dIf_1) (@kTurn1_ok))))) (And.intro (And.intro (And.intro (@dTurn_e) (@kTurn_f)) (And.intro (@kTurn_t) (And.intro (@wipe_n) (@wipe_c)))) (And.intro (And.intro (@rest_n) (@rest_c)) (And.intro (@shO_n) (And.intro (@shO_sh) (@shO_ol)))))) (And.intro (And.intro (And.intro (And.intro (@kAsg2_ok) (@asg_e)) (And.intro (@kAsg_ok) (@kAsg_ex))) (And.intro (And.intro (@setT_v) (@setT_tt)) (And.intro (@setT_tl) (And.intro (@setTs_n) (@setTs_c))))) (And.intro (And.intro (And.intro (@kSt_ok) (@kPar2_ok)) (And.intro (@kPar1_ok) (And.intro (@par_e) (@whl_e)))) (And.intro (And.intro (@isa_e) (@all_l)) (And.intro (@kAll_ok) (And.intro (@any_l) (@kAny_ok))))))) (And.intro (And.intro (And.intro (And.intro (And.intro (@kRp_ok) (@isa_int_n)) (And.intro (@isa_int_b) (@isa_int_i))) (And.intro (And.intro (@isa_int_s) (@isa_int_t)) (And.intro (@isa_int_l) (And.intro (@isa_bool_n) (@isa_bool_b))))) (And.intro (And.intro (And.intro (@isa_bool_i) (@isa_bool_s)) (And.intro (@isa_bool_t) (And.intro (@isa_bool_l) (@isa_str_n)))) (And.intro (And.intro (@isa_str_b) (@isa_str_i)) (And.intro (@isa_str_s) (And.intro (@isa_str_t) (@isa_str_l)))))) (And.intro (And.intro (And.intro (And.intro (@isa_list_n) (@isa_list_b)) (And.intro (@isa_list_i) (@isa_list_s))) (And.intro (And.intro (@isa_list_t) (@isa_list_l)) (And.intro (@isa_tuple_n) (And.intro (@isa_tuple_b) (@isa_tuple_i))))) (And.intro (And.intro (And.intro (@isa_tuple_s) (@isa_tuple_t)) (And.intro (@isa_tuple_l) (And.intro (@isIns_n) (@isIns_b)))) (And.intro (And.intro (@isIns_i) (@isIns_s)) (And.intro (@isIns_t) (And.intro (@isIns_l) (@anyT_1)))))))) (And.intro (And.intro (And.intro (And.intro (And.intro (And.intro (@anyT_2) (@pow_10_18)) (And.intro (@pow_10_30) (@tru_neq))) (And.intro (And.intro (@ln_1) (@ln_2)) (And.intro (@ln_3) (And.intro (@ln_4) (@ln_5))))) (And.intro (And.intro (And.intro (@ln_6) (@ln_7)) (And.intro (@ln_8) (And.intro (@ln_9) (@ln_10)))) (And.intro (And.intro (@ln_11) (@ln_12)) (And.intro (@ln_13) (And.intro (@ln_14) (@ln_15)))))) (And.intro (And.intro (And.intro (And.intro (@ln_16) (@ln_17)) (And.intro (@ln_18) (@ln_19))) (And.intro (And.intro (@ln_20) (@ln_21)) (And.intro (@ln_22) (And.intro (@ln_23) (@ln_24))))) (And.intro (And.intro (And.intro (@ln_25) (@finW_e)) (And.intro (@kFin_ok) (And.intro (@outs_n) (@outs_f)))) (And.intro (And.intro (@outs_t) (@kOut_ok)) (And.intro (@nodup_0) (And.intro (@nodup_1) (@nodup_2))))))) (And.intro (And.intro (And.intro (And.intro (And.intro (@ix_dic_i) (@ix_dic_s)) (And.intro (@sorted_l) (@kSort_ok))) (And.intro (And.intro (@min1_l) (@kMin1_ok)) (And.intro (@max1_l) (And.intro (@kMax1_ok) (@kMin1_n))))) (And.intro (And.intro (And.intro (@kMax1_n) (@callO_e)) (And.intro (@eq_e) (And.intro (@ne_e) (@intsOf_map)))) (And.intro (And.intro (@kTw_ok) (@vmul)) (And.intro (@vmod) (And.intro (@vdiv) (@vaddl)))))) (And.intro (And.intro (And.intro (And.intro (@vaddt) (@vmull)) (And.intro (@vapp) (And.intro (@vext) (@vsetd)))) (And.intro (And.intro (@vrng) (@vrng2)) (And.intro (@vget) (And.intro (@vlast) (@vset))))) (And.intro (And.intro (And.intro (@vints) (@vbls)) (And.intro (@decT) (And.intro (@decF) (@ifT)))) (And.intro (And.intro (@ifF) (@zipD_maps)) (And.intro (@enumD_map0) (And.intro (@eqO_ii) (@eqO_bb))))))))))
end Z

set_option Elab.async false
set_option linter.all false
set_option maxRecDepth 100000
set_option maxHeartbeats 0
namespace Lw
open Z
def b_worker_done : List S := [.asgo 4 (.mk "Worker" [.var 0, .var 1, .var 2, .var 3]),
   .ex (.meth (.var 4) "run" []),
   .ret (.var 4)]
def d_worker_done : Fd := ⟨4, 5, [false, false, false, false], b_worker_done⟩
def n_worker_done : List PySem.Str := ["work", "every", "cost", "falls", "worker"]
def b_time_with_falls : List S := [.ret (.fld (.call "worker_done" [.var 0, .var 1, .var 2, .var 3]) "moment")]
def d_time_with_falls : Fd := ⟨4, 4, [false, false, false, false], b_time_with_falls⟩
def n_time_with_falls : List PySem.Str := ["work", "every", "cost", "falls"]
def b_units_again : List S := [.ret (.fld (.call "worker_done" [.var 0, .var 1, .var 2, .var 3]) "lost")]
def d_units_again : Fd := ⟨4, 4, [false, false, false, false], b_units_again⟩
def n_units_again : List PySem.Str := ["work", "every", "cost", "falls"]
def b_least_every : List S := [.ret (.ix (.bi .min1 [.comp (.tup [.call "time_with_falls" [.var 0, .var 3, .var 1, .var 2], .var 3]) (.v 3) (.rng [.int 1, .bin .add (.var 0) (.int 1)]) [] [3]]) (.int 1))]
def d_least_every : Fd := ⟨3, 4, [false, false, false], b_least_every⟩
def n_least_every : List PySem.Str := ["work", "cost", "falls", "every"]
def l1__law_draws : List S := [.asgo 5 (.var 4),
   .ife (.cmp .gt (.bi .len [.var 0]) (.int 0))
  [.asgo 7 (.bin .mod (.var 4) (.bi .len [.var 0])),
   .asgo 5 (.bi .int [.ix (.var 0) (.var 7)]),
   .ife (.and [.cmp .ge (.var 5) (.bin .pow (.int 10) (.int 18)), .cmp .gt (.ix (.var 2) (.var 7)) (.int 0)])
  [.app 3 (.bin .mod (.bi .int [.ix (.var 2) (.var 7)]) (.int 1000003)),
   .seti 2 (.var 7) (.bin .fdiv (.bi .int [.ix (.var 2) (.var 7)]) (.int 1000003)),
   .fgt [4, 5, 6, 7],
   .cnt]
  []]
  [],
   .asgo 6 (.bin .mod (.bi .int [.bin .add (.bin .add (.bin .mul (.var 5) (.int 48271)) (.bin .mul (.var 4) (.int 69621))) (.int 11)]) (.int 2147483647)),
   .asgo 6 (.bin .mod (.bi .int [.bin .add (.bin .fdiv (.bin .mul (.var 6) (.var 6)) (.int 4096)) (.var 6)]) (.int 2147483629)),
   .app 3 (.bin .mod (.bi .int [.bin .add (.bin .fdiv (.bin .mul (.var 6) (.var 6)) (.int 4096)) (.bin .mul (.var 4) (.int 7919))]) (.int 2147483629)),
   .fgt [4, 5, 6, 7]]
def b__law_draws : List S := [.asgo 2 (.comp (.bi .abs [.bi .int [.var 5]]) (.v 5) (.e (.var 0)) [] [5]),
   .asgo 3 (.lst []),
   .for (.v 4) (.rng [.var 1]) l1__law_draws,
   .fgt [4, 5, 6, 7],
   .ret (.var 3)]
def d__law_draws : Fd := ⟨2, 8, [false, false], b__law_draws⟩
def n__law_draws : List PySem.Str := ["_law_script", "_law_many", "_law_rests", "_law_draws_here", "_law_k", "_law_cell", "_law_mixed", "_law_spot"]
def b__law_take : List S := [.asgo 2 (.ix (.var 0) (.int 1)),
   .seti 0 (.int 1) (.bin .add (.var 2) (.int 1)),
   .asgo 3 (.ix (.var 0) (.int 0)),
   .ife (.cmp .ge (.var 2) (.bi .len [.var 3]))
  [.ret (.int 0)]
  [],
   .ret (.bin .mod (.bin .fdiv (.bi .int [.ix (.var 3) (.var 2)]) (.int 7)) (.var 1))]
def d__law_take : Fd := ⟨2, 4, [true, false], b__law_take⟩
def n__law_take : List PySem.Str := ["_law_hand", "_law_many", "_law_spot", "_law_draws_here"]
def l1__law_runs : List S := [.asgo 7 (.bin .add (.var 7) (.int 1))]
def l2__law_runs : List S := [.ife (.cmp .ge (.var 5) (.var 0))
  [.brk]
  [],
   .asgo 9 (.bi .min2 [.var 1, .bin .sub (.var 0) (.var 5)]),
   .asgo 10 (.bin .add (.var 4) (.var 9)),
   .ife (.cmp .lt (.bin .add (.var 5) (.var 9)) (.var 0))
  [.asgo 10 (.bin .add (.var 10) (.var 2))]
  [],
   .whl (.and [.cmp .lt (.var 7) (.bi .len [.var 3]), .cmp .le (.ix (.var 3) (.var 7)) (.var 4)]) l1__law_runs,
   .ife (.and [.cmp .lt (.var 7) (.bi .len [.var 3]), .cmp .lt (.ix (.var 3) (.var 7)) (.var 10)])
  [.asgo 6 (.bin .add (.var 6) (.bi .min2 [.var 9, .bin .sub (.ix (.var 3) (.var 7)) (.var 4)])),
   .asgo 4 (.ix (.var 3) (.var 7))]
  [.asgo 4 (.var 10),
   .asgo 5 (.bin .add (.var 5) (.var 9))],
   .fgt [8, 9, 10]]
def b__law_runs : List S := [.asgo 4 (.int 0),
   .asgo 5 (.int 0),
   .asgo 6 (.int 0),
   .asgo 7 (.int 0),
   .for (.v 8) (.rng [.bin .add (.bin .add (.var 0) (.bi .len [.var 3])) (.int 1)]) l2__law_runs,
   .fgt [8, 9, 10],
   .ret (.lst [.var 4, .var 6])]
def d__law_runs : Fd := ⟨4, 11, [false, false, false, false], b__law_runs⟩
def n__law_runs : List PySem.Str := ["_law_work", "_law_every", "_law_cost", "_law_falls", "_law_time", "_law_done", "_law_lost", "_law_spot", "_law_step", "_law_units", "_law_end"]
def l1__law_drawn_falls : List S := [.asgo 7 (.bin .add (.int 1) (.ix (.lst [.call "_law_take" [.var 0, .int 4], .call "_law_take" [.var 0, .bin .add (.var 1) (.int 3)], .bin .sub (.bin .add (.var 2) (.var 3)) (.int 1), .bin .sub (.var 2) (.int 1)]) (.call "_law_take" [.var 0, .int 4]))),
   .asgo 5 (.bin .add (.var 5) (.bi .max2 [.int 1, .var 7])),
   .app 4 (.var 5),
   .fgt [6, 7]]
def b__law_drawn_falls : List S := [.asgo 4 (.lst []),
   .asgo 5 (.int 0),
   .for (.v 6) (.rng [.ix (.lst [.int 0, .int 1, .int 2, .int 3, .int 6, .int 20]) (.call "_law_take" [.var 0, .int 6])]) l1__law_drawn_falls,
   .fgt [6, 7],
   .ret (.var 4)]
def d__law_drawn_falls : Fd := ⟨4, 8, [true, false, false, false], b__law_drawn_falls⟩
def n__law_drawn_falls : List PySem.Str := ["_law_hand", "_law_work", "_law_every", "_law_cost", "_law_falls", "_law_moment", "_law_k", "_law_step"]
def l1_law : List S := [.asgo 3 (.ix (.lst [.call "_law_take" [.var 1, .int 12], .call "_law_take" [.var 1, .int 201]]) (.call "_law_take" [.var 1, .int 2])),
   .asgo 4 (.bin .add (.int 1) (.ix (.lst [.call "_law_take" [.var 1, .int 5], .call "_law_take" [.var 1, .bin .add (.var 3) (.int 2)]]) (.call "_law_take" [.var 1, .int 2]))),
   .asgo 5 (.ix (.lst [.call "_law_take" [.var 1, .int 4], .call "_law_take" [.var 1, .int 51], .int 0]) (.call "_law_take" [.var 1, .int 3])),
   .asgo 6 (.call "_law_drawn_falls" [.var 1, .var 3, .var 4, .var 5]),
   .asgo 7 (.ix (.lst [.var 6, .bi .tuple [.var 6]]) (.call "_law_take" [.var 1, .int 2])),
   .asg (.t [.v 10, .v 11]) (.call "_law_runs" [.var 3, .var 4, .var 5, .var 6]),
   .ife (.cmp .ne (.bi .repr [.callk "time_with_falls" [.var 3, .var 4, .var 5, .var 7] ["work", "every", "cost", "falls"]]) (.bi .repr [.var 10]))
  [.ret (.bl false)]
  [],
   .ife (.or [.cmp .ne (.bi .repr [.callk "units_again" [.var 3, .var 4, .var 5, .var 7] ["work", "every", "cost", "falls"]]) (.bi .repr [.var 11]), .cmp .ne (.bi .list [.var 7]) (.var 6)])
  [.ret (.bl false)]
  [],
   .ife (.and [.cmp .gt (.var 3) (.int 0), .cmp .ne (.call "time_with_falls" [.var 3, .var 4, .var 5, .lst []]) (.bin .add (.var 3) (.bin .mul (.var 5) (.bin .fdiv (.bin .sub (.var 3) (.int 1)) (.var 4))))])
  [.ret (.bl false)]
  [],
   .asgo 8 (.bin .add (.int 1) (.bin .mod (.bi .int [.var 3]) (.int 25))),
   .asgo 9 (.comp (.ix (.call "_law_runs" [.var 8, .var 12, .var 5, .var 6]) (.int 0)) (.v 12) (.rng [.int 1, .bin .add (.var 8) (.int 1)]) [] [12]),
   .frz [9],
   .ife (.cmp .ne (.bi .repr [.callk "least_every" [.var 8, .var 5, .var 7] ["work", "cost", "falls"]]) (.bi .repr [.bin .add (.int 1) (.idx (.var 9) (.bi .min1 [.var 9]))]))
  [.ret (.bl false)]
  [],
   .fgt [2, 3, 4, 5, 6, 7, 8, 9, 10, 11]]
def b_law : List S := [.asgo 1 (.lst [.call "_law_draws" [.var 0, .int 100], .int 0]),
   .for (.v 2) (.rng [.int 3]) l1_law,
   .fgt [2, 3, 4, 5, 6, 7, 8, 9, 10, 11],
   .ret (.bl true)]
def d_law : Fd := ⟨1, 13, [false], b_law⟩
def n_law : List PySem.Str := ["_law_script", "_law_hand", "_law_k", "_law_work", "_law_every", "_law_cost", "_law_falls", "_law_passed", "_law_small", "_law_times", "_law_time", "_law_lost", "_law_more"]
def b_Worker___init__ : List S := [.setf 0 "work" (.var 1),
   .setf 0 "every" (.var 2),
   .setf 0 "cost" (.var 3),
   .setf 0 "falls" (.bi .list [.var 4]),
   .setf 0 "moment" (.int 0),
   .setf 0 "kept" (.int 0),
   .setf 0 "lost" (.int 0)]
def d_Worker___init__ : Fd := ⟨5, 5, [true, false, false, false, false], b_Worker___init__⟩
def n_Worker___init__ : List PySem.Str := ["self", "work", "every", "cost", "falls"]
def b_Worker_go_on : List S := [.asgo 1 (.bin .sub (.fld (.var 0) "work") (.fld (.var 0) "kept")),
   .asgo 2 (.bi .min2 [.var 1, .fld (.var 0) "every"]),
   .asgo 3 (.bin .add (.fld (.var 0) "moment") (.ite (.cmp .eq (.var 2) (.var 1)) (.var 2) (.bin .add (.var 2) (.fld (.var 0) "cost")))),
   .ife (.and [.cmp .gt (.plen (.fld (.var 0) "falls")) (.int 0), .pcmp .lt (.pix (.fld (.var 0) "falls") (.int 0)) (.var 3)])
  [.ex (.meth (.var 0) "fall" [.bi .min2 [.var 2, .bin .sub (.pix (.fld (.var 0) "falls") (.int 0)) (.fld (.var 0) "moment")]])]
  [.setf 0 "moment" (.var 3),
   .augf 0 .add "kept" (.var 2),
   .ex (.meth (.var 0) "drop_passed" [])]]
def d_Worker_go_on : Fd := ⟨1, 4, [true], b_Worker_go_on⟩
def n_Worker_go_on : List PySem.Str := ["self", "left", "units", "end"]
def b_Worker_fall : List S := [.setf 0 "moment" (.popF 0 "falls"),
   .augf 0 .add "lost" (.var 1)]
def d_Worker_fall : Fd := ⟨2, 2, [true, false], b_Worker_fall⟩
def n_Worker_fall : List PySem.Str := ["self", "done"]
def l1_Worker_drop_passed : List S := [.ex (.popF 0 "falls")]
def b_Worker_drop_passed : List S := [.whl (.and [.cmp .gt (.plen (.fld (.var 0) "falls")) (.int 0), .pcmp .le (.pix (.fld (.var 0) "falls") (.int 0)) (.fld (.var 0) "moment")]) l1_Worker_drop_passed]
def d_Worker_drop_passed : Fd := ⟨1, 1, [true], b_Worker_drop_passed⟩
def n_Worker_drop_passed : List PySem.Str := ["self"]
def l1_Worker_run : List S := [.ex (.meth (.var 0) "go_on" [])]
def b_Worker_run : List S := [.whl (.pcmp .lt (.fld (.var 0) "kept") (.fld (.var 0) "work")) l1_Worker_run]
def d_Worker_run : Fd := ⟨1, 1, [true], b_Worker_run⟩
def n_Worker_run : List PySem.Str := ["self"]
def gx : GX := { ci := [], cs := [], at_ := [("Worker", "work"), ("Worker", "every"), ("Worker", "cost"), ("Worker", "falls"), ("Worker", "moment"), ("Worker", "kept"), ("Worker", "lost")], mt := [(("Worker", "go_on"), "Worker.go_on"), (("Worker", "fall"), "Worker.fall"), (("Worker", "drop_passed"), "Worker.drop_passed"), (("Worker", "run"), "Worker.run")], ini := [("Worker", "Worker.__init__")], exa := [], esb := [], isx := [], isd := [], cls := [], shp := [], nop := [] }
def Gm : Tab := ⟨fun g =>
  if g = "worker_done" then some d_worker_done else
  if g = "time_with_falls" then some d_time_with_falls else
  if g = "units_again" then some d_units_again else
  if g = "least_every" then some d_least_every else
  if g = "_law_draws" then some d__law_draws else
  if g = "_law_take" then some d__law_take else
  if g = "_law_runs" then some d__law_runs else
  if g = "_law_drawn_falls" then some d__law_drawn_falls else
  if g = "law" then some d_law else
  if g = "Worker.__init__" then some d_Worker___init__ else
  if g = "Worker.go_on" then some d_Worker_go_on else
  if g = "Worker.fall" then some d_Worker_fall else
  if g = "Worker.drop_passed" then some d_Worker_drop_passed else
  if g = "Worker.run" then some d_Worker_run else
  none, gx⟩
abbrev E_worker_done (work every cost falls worker : Option W := none) : Env := [work, every, cost, falls, worker]
abbrev E_time_with_falls (work every cost falls : Option W := none) : Env := [work, every, cost, falls]
abbrev E_units_again (work every cost falls : Option W := none) : Env := [work, every, cost, falls]
abbrev E_least_every (work cost falls every : Option W := none) : Env := [work, cost, falls, every]
abbrev E__law_draws (script many rests drawsH k cell mixed spot : Option W := none) : Env := [script, many, rests, drawsH, k, cell, mixed, spot]
abbrev E__law_take (hand many spot drawsH : Option W := none) : Env := [hand, many, spot, drawsH]
abbrev E__law_runs (work every cost falls time done lost spot step units end_ : Option W := none) : Env := [work, every, cost, falls, time, done, lost, spot, step, units, end_]
abbrev E__law_drawn_falls (hand work every cost falls moment k step : Option W := none) : Env := [hand, work, every, cost, falls, moment, k, step]
abbrev E_law (script hand k work every cost falls passed small times time lost more : Option W := none) : Env := [script, hand, k, work, every, cost, falls, passed, small, times, time, lost, more]
abbrev E_Worker___init__ (self work every cost falls : Option W := none) : Env := [self, work, every, cost, falls]
abbrev E_Worker_go_on (self left units end_ : Option W := none) : Env := [self, left, units, end_]
abbrev E_Worker_fall (self done : Option W := none) : Env := [self, done]
abbrev E_Worker_drop_passed (self : Option W := none) : Env := [self]
abbrev E_Worker_run (self : Option W := none) : Env := [self]
theorem br_worker_done : brs Gm "worker_done" = [false, false, false, false] := rfl
theorem br_time_with_falls : brs Gm "time_with_falls" = [false, false, false, false] := rfl
theorem br_units_again : brs Gm "units_again" = [false, false, false, false] := rfl
theorem br_least_every : brs Gm "least_every" = [false, false, false] := rfl
theorem br__law_draws : brs Gm "_law_draws" = [false, false] := rfl
theorem br__law_take : brs Gm "_law_take" = [true, false] := rfl
theorem br__law_runs : brs Gm "_law_runs" = [false, false, false, false] := rfl
theorem br__law_drawn_falls : brs Gm "_law_drawn_falls" = [true, false, false, false] := rfl
theorem br_law : brs Gm "law" = [false] := rfl
theorem br_Worker___init__ : brs Gm "Worker.__init__" = [true, false, false, false, false] := rfl
theorem br_Worker_go_on : brs Gm "Worker.go_on" = [true] := rfl
theorem br_Worker_fall : brs Gm "Worker.fall" = [true, false] := rfl
theorem br_Worker_drop_passed : brs Gm "Worker.drop_passed" = [true] := rfl
theorem br_Worker_run : brs Gm "Worker.run" = [true] := rfl
theorem at_Worker_work : Gm.g.atB "Worker" "work" = true := by decide +kernel
theorem at_Worker_every : Gm.g.atB "Worker" "every" = true := by decide +kernel
theorem at_Worker_cost : Gm.g.atB "Worker" "cost" = true := by decide +kernel
theorem at_Worker_falls : Gm.g.atB "Worker" "falls" = true := by decide +kernel
theorem at_Worker_moment : Gm.g.atB "Worker" "moment" = true := by decide +kernel
theorem at_Worker_kept : Gm.g.atB "Worker" "kept" = true := by decide +kernel
theorem at_Worker_lost : Gm.g.atB "Worker" "lost" = true := by decide +kernel
theorem mt_Worker_go_on : Gm.g.mtO "Worker" "go_on" = some "Worker.go_on" := by decide +kernel
theorem mt_Worker_fall : Gm.g.mtO "Worker" "fall" = some "Worker.fall" := by decide +kernel
theorem mt_Worker_drop_passed : Gm.g.mtO "Worker" "drop_passed" = some "Worker.drop_passed" := by decide +kernel
theorem mt_Worker_run : Gm.g.mtO "Worker" "run" = some "Worker.run" := by decide +kernel
theorem mk_Worker : Gm.g.mkO "Worker" = some "Worker.__init__" := by decide +kernel
theorem gTake : Gm "_law_take" = some dTake := rfl
theorem gDraws : Gm "_law_draws" = some dDraws := rfl
def Hw (ds : List Int) (k : Nat) : W := Hd ds k
theorem kArg_hw (ds : List Int) (k : Nat) (i : Nat) (ρ : Env) : kArg (some (Hw ds k)) i ρ = .ok (.r i, ρ) := rfl
theorem hw_0 (ds : List Int) : W.ol [.lst (ds.map D.int), .int 0] = Hw ds 0 := rfl
theorem take_hw {wf n : Nat} {ds : List Int} {k : Nat} {m : Int} (hm : 0 < m) : run Gm wf (n+1) "_law_take" [Hw ds k, .sh (.int m)] = .ok (.sh (.int (takeF ds k m))) [Hw ds (k+1), .sh .non] := take_run gTake ds k m hm wf n
def lA := And.intro (And.intro (And.intro (And.intro (@br_worker_done) (And.intro (@br_time_with_falls) (@br_units_again))) (And.intro (And.intro (@br_least_every) (@br__law_draws)) (And.intro (@br__law_take) (@br__law_runs)))) (And.intro (And.intro (@br__law_drawn_falls) (And.intro (@br_law) (@br_Worker___init__))) (And.intro (And.intro (@br_Worker_go_on) (@br_Worker_fall)) (And.intro (@br_Worker_drop_passed) (@br_Worker_run))))) (And.intro (And.intro (And.intro (@at_Worker_work) (And.intro (@at_Worker_every) (@at_Worker_cost))) (And.intro (And.intro (@at_Worker_falls) (@at_Worker_moment)) (And.intro (@at_Worker_kept) (@at_Worker_lost)))) (And.intro (And.intro (And.intro (@mt_Worker_go_on) (@mt_Worker_fall)) (And.intro (@mt_Worker_drop_passed) (@mt_Worker_run))) (And.intro (And.intro (@mk_Worker) (@kArg_hw)) (And.intro (@take_hw) (@hw_0)))))

/-! ### k59: work with falls -/
structure Sx where
  mo : Int
  ke : Int
  lo : Int
  fs : List Int
def uni (V e : Int) (s : Sx) : Int := if e < V - s.ke then e else V - s.ke
def enx (V e c : Int) (s : Sx) : Int := s.mo + (if uni V e s = V - s.ke then uni V e s else uni V e s + c)
def mi2 (a b : Int) : Int := if b < a then b else a
def stp (V e c : Int) (s : Sx) : Sx := match s.fs with
  | f :: r => if f < enx V e c s then ⟨f, s.ke, s.lo + mi2 (uni V e s) (f - s.mo), r⟩ else ⟨enx V e c s, s.ke + uni V e s, s.lo, (f :: r).dropWhile fun x => decide (x ≤ enx V e c s)⟩
  | [] => ⟨enx V e c s, s.ke + uni V e s, s.lo, []⟩
inductive Fin (V e c : Int) : Nat → Sx → Sx → Prop where
  | done (s : Sx) : ¬ s.ke < V → Fin V e c 0 s s
  | more (n : Nat) (s t : Sx) : s.ke < V → Fin V e c n (stp V e c s) t → Fin V e c (n + 1) s t
theorem drop_len (p : Int → Bool) : ∀ l : List Int, (l.dropWhile p).length ≤ l.length
  | [] => Nat.le_refl _
  | a :: l => by
    rw [List.dropWhile_cons]
    split
    · have := drop_len p l; rw [List.length_cons]; omega
    · exact Nat.le_refl _
theorem stp_fs (V e c : Int) (s : Sx) : (stp V e c s).fs.length ≤ s.fs.length := by
  unfold stp
  cases h : s.fs with
  | nil => exact Nat.le_refl _
  | cons f r =>
    simp only []
    split
    · simp
    · exact drop_len _ _
theorem fin_ex (V e c : Int) (he : 1 ≤ e) : ∀ (m : Nat) (s : Sx), (V - s.ke).toNat + s.fs.length ≤ m → ∃ n t, Fin V e c n s t ∧ n ≤ m
  | 0, s, h => ⟨0, s, .done s (by omega), Nat.le_refl _⟩
  | m + 1, s, h => by
    by_cases hk : s.ke < V
    · have hm : (V - (stp V e c s).ke).toNat + (stp V e c s).fs.length ≤ m := by
        have hu : 1 ≤ uni V e s := by unfold uni; split <;> omega
        unfold stp
        cases hf : s.fs with
        | nil =>
          rw [hf] at h
          simp only [List.length_nil] at h ⊢
          omega
        | cons f r =>
          rw [hf] at h
          simp only [List.length_cons] at h ⊢
          split
          · show (V - s.ke).toNat + r.length ≤ m; omega
          · have := drop_len (fun x => decide (x ≤ enx V e c s)) (f :: r)
            rw [List.length_cons] at this
            show (V - (s.ke + uni V e s)).toNat + ((f :: r).dropWhile fun x => decide (x ≤ enx V e c s)).length ≤ m
            omega
      obtain ⟨n, t, h1, h2⟩ := fin_ex V e c he m _ hm
      exact ⟨n + 1, t, .more n s t hk h1, by omega⟩
    · exact ⟨0, s, .done s hk, by omega⟩
/-! ### self.f += e -/
def kAf2 (w : Option D) (ρ0 ρ : Env) (g : GX) (i : Nat) (f : String) : R (Fl × Env) := (ofO w).bind fun w => if clsO (gt ρ0 i) = clsO (gt ρ i) then setF g i f (.sh w) ρ else .bad
def kAf1 (d : D) (r : R (W × Env)) (ρ0 : Env) (g : GX) (i : Nat) (o : Bop) (f : String) : R (Fl × Env) := r.bind fun x => kAf2 (augI o d x.1.frz) ρ0 x.2 g i f
def kAf (d : Option D) (r : R (W × Env)) (ρ0 : Env) (g : GX) (i : Nat) (o : Bop) (f : String) : R (Fl × Env) := (ofO d).bind fun d => kAf1 d r ρ0 g i o f
theorem augf_e (k : Cl) (i : Nat) (o : Bop) (f : String) (e : E) (ρ : Env) : exec k (.augf i o f e) ρ = kAf (fldS (fldW k.g (gt ρ i) f)) ((den k e).v ρ) ρ k.g i o f := rfl
theorem kAf_ok (d : D) (r : R (W × Env)) (ρ0 : Env) (g : GX) (i : Nat) (o : Bop) (f : String) : kAf (some d) r ρ0 g i o f = kAf1 d r ρ0 g i o f := rfl
theorem kAf1_ok (d : D) (w : W) (ρ ρ0 : Env) (g : GX) (i : Nat) (o : Bop) (f : String) : kAf1 d (.ok (w, ρ)) ρ0 g i o f = kAf2 (augI o d w.frz) ρ0 ρ g i f := rfl
theorem augI_a (i j : Int) : augI .add (.int i) (.int j) = some (.int (i + j)) := rfl
theorem kAf2_ok {w : D} {ρ0 ρ : Env} {g : GX} {i : Nat} {f : String} (h : clsO (gt ρ0 i) = clsO (gt ρ i)) : kAf2 (some w) ρ0 ρ g i f = setF g i f (.sh w) ρ := if_pos h
/-! ### the program's worker -/
abbrev wkF (V e c : Int) (s : Sx) : List (String × Fw) := [("work", .sh (.int V)), ("every", .sh (.int e)), ("cost", .sh (.int c)), ("falls", .ol (s.fs.map D.int)), ("moment", .sh (.int s.mo)), ("kept", .sh (.int s.ke)), ("lost", .sh (.int s.lo))]
abbrev wkW (V e c : Int) (s : Sx) : W := .oi "Worker" (wkF V e c s)
theorem drop_whl (wf n : Nat) (V e c mo ke lo : Int) : ∀ (fs : List Int) (fuel : Nat), fs.length + 1 ≤ fuel → fs.length ≤ 1000 →
    kWhl fuel (clK Gm wf n) (.and [.cmp .gt (.plen (.fld (.var 0) "falls")) (.int 0), .pcmp .le (.pix (.fld (.var 0) "falls") (.int 0)) (.fld (.var 0) "moment")]) l1_Worker_drop_passed (E_Worker_drop_passed (self := some (wkW V e c ⟨mo, ke, lo, fs⟩))) = .ok (.nx, E_Worker_drop_passed (self := some (wkW V e c ⟨mo, ke, lo, fs.dropWhile fun x => decide (x ≤ mo)⟩)))
  | [], fuel, hf, hl => by
    obtain ⟨fuel, rfl⟩ : ∃ f, fuel = f + 1 := ⟨fuel - 1, by simp at hf; omega⟩
    refine whl_f ?_
    simp -implicitDefEqProofs (disch := (first | exact id rfl | assumption | omega | (simp only [List.length_map, List.length_append, List.length_cons, List.length_nil, List.length_range, List.length_replicate, List.length_reverse, List.length_zip, List.length_zipIdx, List.length_set, line_e]; first | done | omega))) only [lA, runI_call, zA, den, dens, denI, W.frz, Fw.frz, frzF, String.reduceEq, Option.isNone_none, Option.isNone_some, Option.map_some, Bool.true_and, Bool.false_and, Bool.false_eq_true, Bool.not_true, Bool.not_false, List.headD_cons, List.tail_cons, entry, List.map_cons, List.map_nil, List.cons_append, List.nil_append, List.replicate, List.length_cons, List.length_nil, List.getElem?_cons_zero, List.getElem?_cons_succ, List.getElem?_map, List.length_map, Int.reduceLT, Int.reduceLE, Nat.reduceLT, Nat.reduceLeDiff, and_self, and_true, true_and, if_true, if_false, Nat.reduceAdd, Int.reduceAdd, Int.reduceMul, Int.reducePow, Int.reduceToNat, Int.reduceNeg, decide_true, decide_false, Nat.reduceEqDiff, reduceCtorEq, Nat.zero_le, List.map_append, Int.toNat_natCast, List.length_range, List.length_append, List.length_reverse, Bool.true_or, Bool.false_or, Bool.or_false, Bool.or_true, List.headD_nil, List.tail_nil]
    rfl
  | f :: r, fuel, hf, hl => by
    rw [List.length_cons] at hf hl
    obtain ⟨fuel, rfl⟩ : ∃ f, fuel = f + 1 := ⟨fuel - 1, by omega⟩
    have l1 : (((f :: r).length : Nat) : Int) > 0 := by rw [List.length_cons]; omega
    have l2 : ((r.length + 1 : Nat) : Int) > 0 := by omega
    by_cases h : f ≤ mo
    · have e1 : (f :: r).dropWhile (fun x => decide (x ≤ mo)) = r.dropWhile fun x => decide (x ≤ mo) := by rw [List.dropWhile_cons, if_pos (by simpa using h)]
      have ih := drop_whl wf n V e c mo ke lo r fuel (by omega) (by omega)
      rw [e1, whl_t ?_ ?_]
      · exact ih
      · exact E_Worker_drop_passed (self := some (wkW V e c ⟨mo, ke, lo, f :: r⟩))
      · simp -implicitDefEqProofs (disch := (first | exact id rfl | assumption | omega | (simp only [List.length_map, List.length_append, List.length_cons, List.length_nil, List.length_range, List.length_replicate, List.length_reverse, List.length_zip, List.length_zipIdx, List.length_set, line_e]; first | done | omega))) only [l1, l2, h, lA, runI_call, zA, den, dens, denI, W.frz, Fw.frz, frzF, String.reduceEq, Option.isNone_none, Option.isNone_some, Option.map_some, Bool.true_and, Bool.false_and, Bool.false_eq_true, Bool.not_true, Bool.not_false, List.headD_cons, List.tail_cons, entry, List.map_cons, List.map_nil, List.cons_append, List.nil_append, List.replicate, List.length_cons, List.length_nil, List.getElem?_cons_zero, List.getElem?_cons_succ, List.getElem?_map, List.length_map, Int.reduceLT, Int.reduceLE, Nat.reduceLT, Nat.reduceLeDiff, and_self, and_true, true_and, if_true, if_false, Nat.reduceAdd, Int.reduceAdd, Int.reduceMul, Int.reducePow, Int.reduceToNat, Int.reduceNeg, decide_true, decide_false, Nat.reduceEqDiff, reduceCtorEq, Nat.zero_le, List.map_append, Int.toNat_natCast, List.length_range, List.length_append, List.length_reverse, Bool.true_or, Bool.false_or, Bool.or_false, Bool.or_true, List.headD_nil, List.tail_nil]
      · simp -implicitDefEqProofs (disch := (first | exact id rfl | assumption | omega | (simp only [List.length_map, List.length_append, List.length_cons, List.length_nil, List.length_range, List.length_replicate, List.length_reverse, List.length_zip, List.length_zipIdx, List.length_set, line_e]; first | done | omega))) only [l1_Worker_drop_passed, lA, runI_call, zA, den, dens, denI, W.frz, Fw.frz, frzF, String.reduceEq, Option.isNone_none, Option.isNone_some, Option.map_some, Bool.true_and, Bool.false_and, Bool.false_eq_true, Bool.not_true, Bool.not_false, List.headD_cons, List.tail_cons, entry, List.map_cons, List.map_nil, List.cons_append, List.nil_append, List.replicate, List.length_cons, List.length_nil, List.getElem?_cons_zero, List.getElem?_cons_succ, List.getElem?_map, List.length_map, Int.reduceLT, Int.reduceLE, Nat.reduceLT, Nat.reduceLeDiff, and_self, and_true, true_and, if_true, if_false, Nat.reduceAdd, Int.reduceAdd, Int.reduceMul, Int.reducePow, Int.reduceToNat, Int.reduceNeg, decide_true, decide_false, Nat.reduceEqDiff, reduceCtorEq, Nat.zero_le, List.map_append, Int.toNat_natCast, List.length_range, List.length_append, List.length_reverse, Bool.true_or, Bool.false_or, Bool.or_false, Bool.or_true, List.headD_nil, List.tail_nil]
    · have e1 : (f :: r).dropWhile (fun x => decide (x ≤ mo)) = f :: r := by rw [List.dropWhile_cons, if_neg (by simpa using h)]
      rw [e1]
      refine whl_f ?_
      simp -implicitDefEqProofs (disch := (first | exact id rfl | assumption | omega | (simp only [List.length_map, List.length_append, List.length_cons, List.length_nil, List.length_range, List.length_replicate, List.length_reverse, List.length_zip, List.length_zipIdx, List.length_set, line_e]; first | done | omega))) only [l1, l2, h, lA, runI_call, zA, den, dens, denI, W.frz, Fw.frz, frzF, String.reduceEq, Option.isNone_none, Option.isNone_some, Option.map_some, Bool.true_and, Bool.false_and, Bool.false_eq_true, Bool.not_true, Bool.not_false, List.headD_cons, List.tail_cons, entry, List.map_cons, List.map_nil, List.cons_append, List.nil_append, List.replicate, List.length_cons, List.length_nil, List.getElem?_cons_zero, List.getElem?_cons_succ, List.getElem?_map, List.length_map, Int.reduceLT, Int.reduceLE, Nat.reduceLT, Nat.reduceLeDiff, and_self, and_true, true_and, if_true, if_false, Nat.reduceAdd, Int.reduceAdd, Int.reduceMul, Int.reducePow, Int.reduceToNat, Int.reduceNeg, decide_true, decide_false, Nat.reduceEqDiff, reduceCtorEq, Nat.zero_le, List.map_append, Int.toNat_natCast, List.length_range, List.length_append, List.length_reverse, Bool.true_or, Bool.false_or, Bool.or_false, Bool.or_true, List.headD_nil, List.tail_nil]
theorem drop_run (wf n : Nat) (V e c mo ke lo : Int) (fs : List Int) (hl : fs.length ≤ 100) (hw : 200 ≤ wf) : run Gm wf (n+1) "Worker.drop_passed" [wkW V e c ⟨mo, ke, lo, fs⟩] = .ok (.sh .non) [wkW V e c ⟨mo, ke, lo, fs.dropWhile fun x => decide (x ≤ mo)⟩] := by
  have e1 := drop_whl wf n V e c mo ke lo fs wf (by omega) (by omega)
  simp only [E_Worker_drop_passed] at e1
  rw [run_call (fd := d_Worker_drop_passed) rfl rfl]
  simp -implicitDefEqProofs (disch := (first | exact id rfl | assumption | omega | (simp only [List.length_map, List.length_append, List.length_cons, List.length_nil, List.length_range, List.length_replicate, List.length_reverse, List.length_zip, List.length_zipIdx, List.length_set, line_e]; first | done | omega))) only [d_Worker_drop_passed, b_Worker_drop_passed, Nat.reduceSub, lA, runI_call, zA, den, dens, denI, W.frz, Fw.frz, frzF, String.reduceEq, Option.isNone_none, Option.isNone_some, Option.map_some, Bool.true_and, Bool.false_and, Bool.false_eq_true, Bool.not_true, Bool.not_false, List.headD_cons, List.tail_cons, entry, List.map_cons, List.map_nil, List.cons_append, List.nil_append, List.replicate, List.length_cons, List.length_nil, List.getElem?_cons_zero, List.getElem?_cons_succ, List.getElem?_map, List.length_map, Int.reduceLT, Int.reduceLE, Nat.reduceLT, Nat.reduceLeDiff, and_self, and_true, true_and, if_true, if_false, Nat.reduceAdd, Int.reduceAdd, Int.reduceMul, Int.reducePow, Int.reduceToNat, Int.reduceNeg, decide_true, decide_false, Nat.reduceEqDiff, reduceCtorEq, Nat.zero_le, List.map_append, Int.toNat_natCast, List.length_range, List.length_append, List.length_reverse, Bool.true_or, Bool.false_or, Bool.or_false, Bool.or_true, List.headD_nil, List.tail_nil]
  rw [e1]
  simp -implicitDefEqProofs (disch := (first | exact id rfl | assumption | omega | (simp only [List.length_map, List.length_append, List.length_cons, List.length_nil, List.length_range, List.length_replicate, List.length_reverse, List.length_zip, List.length_zipIdx, List.length_set, line_e]; first | done | omega))) only [lA, runI_call, zA, den, dens, denI, W.frz, Fw.frz, frzF, String.reduceEq, Option.isNone_none, Option.isNone_some, Option.map_some, Bool.true_and, Bool.false_and, Bool.false_eq_true, Bool.not_true, Bool.not_false, List.headD_cons, List.tail_cons, entry, List.map_cons, List.map_nil, List.cons_append, List.nil_append, List.replicate, List.length_cons, List.length_nil, List.getElem?_cons_zero, List.getElem?_cons_succ, List.getElem?_map, List.length_map, Int.reduceLT, Int.reduceLE, Nat.reduceLT, Nat.reduceLeDiff, and_self, and_true, true_and, if_true, if_false, Nat.reduceAdd, Int.reduceAdd, Int.reduceMul, Int.reducePow, Int.reduceToNat, Int.reduceNeg, decide_true, decide_false, Nat.reduceEqDiff, reduceCtorEq, Nat.zero_le, List.map_append, Int.toNat_natCast, List.length_range, List.length_append, List.length_reverse, Bool.true_or, Bool.false_or, Bool.or_false, Bool.or_true, List.headD_nil, List.tail_nil]
theorem fall_run (wf n : Nat) (V e c mo ke lo u f : Int) (r : List Int) (hl : r.length ≤ 100) : run Gm wf (n+1) "Worker.fall" [wkW V e c ⟨mo, ke, lo, f :: r⟩, .sh (.int u)] = .ok (.sh .non) [wkW V e c ⟨f, ke, lo + u, r⟩, .sh .non] := by
  rw [run_call (fd := d_Worker_fall) rfl rfl]
  simp -implicitDefEqProofs (disch := (first | exact id rfl | assumption | omega | (simp only [List.length_map, List.length_append, List.length_cons, List.length_nil, List.length_range, List.length_replicate, List.length_reverse, List.length_zip, List.length_zipIdx, List.length_set, line_e]; first | done | omega))) only [d_Worker_fall, b_Worker_fall, Nat.reduceSub, augf_e, kAf_ok, kAf1_ok, augI_a, kAf2_ok, lA, runI_call, zA, den, dens, denI, W.frz, Fw.frz, frzF, String.reduceEq, Option.isNone_none, Option.isNone_some, Option.map_some, Bool.true_and, Bool.false_and, Bool.false_eq_true, Bool.not_true, Bool.not_false, List.headD_cons, List.tail_cons, entry, List.map_cons, List.map_nil, List.cons_append, List.nil_append, List.replicate, List.length_cons, List.length_nil, List.getElem?_cons_zero, List.getElem?_cons_succ, List.getElem?_map, List.length_map, Int.reduceLT, Int.reduceLE, Nat.reduceLT, Nat.reduceLeDiff, and_self, and_true, true_and, if_true, if_false, Nat.reduceAdd, Int.reduceAdd, Int.reduceMul, Int.reducePow, Int.reduceToNat, Int.reduceNeg, decide_true, decide_false, Nat.reduceEqDiff, reduceCtorEq, Nat.zero_le, List.map_append, Int.toNat_natCast, List.length_range, List.length_append, List.length_reverse, Bool.true_or, Bool.false_or, Bool.or_false, Bool.or_true, List.headD_nil, List.tail_nil]
theorem goon_run (wf n : Nat) (V e c : Int) (s : Sx) (hl : s.fs.length ≤ 100) (hw : 200 ≤ wf) : run Gm wf (n+2) "Worker.go_on" [wkW V e c s] = .ok (.sh .non) [wkW V e c (stp V e c s)] := by
  obtain ⟨mo, ke, lo, fs⟩ := s
  obtain ⟨u, hu⟩ : ∃ u, uni V e ⟨mo, ke, lo, fs⟩ = u := ⟨_, rfl⟩
  have hu2 : (if e < V - ke then e else V - ke) = u := hu
  obtain ⟨en, hen⟩ : ∃ en, enx V e c ⟨mo, ke, lo, fs⟩ = en := ⟨_, rfl⟩
  have hen2 : mo + (if u = V - ke then u else u + c) = en := by rw [← hen]; unfold enx; rw [hu]
  unfold stp
  simp only [hu, hen]
  have e1 := drop_run wf n V e c en (ke + u) lo fs hl hw
  simp only [wkW, wkF] at e1
  cases fs with
  | nil =>
    simp only [List.map_nil, List.dropWhile_nil] at e1
    show _ = RF.ok (.sh .non) [wkW V e c ⟨en, ke + u, lo, []⟩]
    by_cases h1 : u = V - ke
    · rw [if_pos h1] at hen2
      subst h1
      rw [run_call (fd := d_Worker_go_on) rfl rfl]
      simp -implicitDefEqProofs (disch := (first | exact id rfl | assumption | omega | (simp only [List.length_map, List.length_append, List.length_cons, List.length_nil, List.length_range, List.length_replicate, List.length_reverse, List.length_zip, List.length_zipIdx, List.length_set, line_e]; first | done | omega))) only [d_Worker_go_on, b_Worker_go_on, Nat.reduceSub, augf_e, kAf_ok, kAf1_ok, augI_a, kAf2_ok, hu2, hen2, e1, lA, runI_call, zA, den, dens, denI, W.frz, Fw.frz, frzF, String.reduceEq, Option.isNone_none, Option.isNone_some, Option.map_some, Bool.true_and, Bool.false_and, Bool.false_eq_true, Bool.not_true, Bool.not_false, List.headD_cons, List.tail_cons, entry, List.map_cons, List.map_nil, List.cons_append, List.nil_append, List.replicate, List.length_cons, List.length_nil, List.getElem?_cons_zero, List.getElem?_cons_succ, List.getElem?_map, List.length_map, Int.reduceLT, Int.reduceLE, Nat.reduceLT, Nat.reduceLeDiff, and_self, and_true, true_and, if_true, if_false, Nat.reduceAdd, Int.reduceAdd, Int.reduceMul, Int.reducePow, Int.reduceToNat, Int.reduceNeg, decide_true, decide_false, Nat.reduceEqDiff, reduceCtorEq, Nat.zero_le, List.map_append, Int.toNat_natCast, List.length_range, List.length_append, List.length_reverse, Bool.true_or, Bool.false_or, Bool.or_false, Bool.or_true, List.headD_nil, List.tail_nil]
      rfl
    · rw [if_neg h1] at hen2
      rw [run_call (fd := d_Worker_go_on) rfl rfl]
      simp -implicitDefEqProofs (disch := (first | exact id rfl | assumption | omega | (simp only [List.length_map, List.length_append, List.length_cons, List.length_nil, List.length_range, List.length_replicate, List.length_reverse, List.length_zip, List.length_zipIdx, List.length_set, line_e]; first | done | omega))) only [d_Worker_go_on, b_Worker_go_on, Nat.reduceSub, augf_e, kAf_ok, kAf1_ok, augI_a, kAf2_ok, hu2, h1, hen2, e1, lA, runI_call, zA, den, dens, denI, W.frz, Fw.frz, frzF, String.reduceEq, Option.isNone_none, Option.isNone_some, Option.map_some, Bool.true_and, Bool.false_and, Bool.false_eq_true, Bool.not_true, Bool.not_false, List.headD_cons, List.tail_cons, entry, List.map_cons, List.map_nil, List.cons_append, List.nil_append, List.replicate, List.length_cons, List.length_nil, List.getElem?_cons_zero, List.getElem?_cons_succ, List.getElem?_map, List.length_map, Int.reduceLT, Int.reduceLE, Nat.reduceLT, Nat.reduceLeDiff, and_self, and_true, true_and, if_true, if_false, Nat.reduceAdd, Int.reduceAdd, Int.reduceMul, Int.reducePow, Int.reduceToNat, Int.reduceNeg, decide_true, decide_false, Nat.reduceEqDiff, reduceCtorEq, Nat.zero_le, List.map_append, Int.toNat_natCast, List.length_range, List.length_append, List.length_reverse, Bool.true_or, Bool.false_or, Bool.or_false, Bool.or_true, List.headD_nil, List.tail_nil]
      rfl
  | cons f r =>
    have e2 := fall_run wf n V e c mo ke lo (mi2 u (f - mo)) f r (by rw [List.length_cons] at hl; omega)
    unfold mi2 at e2
    simp only [wkW, wkF, List.map_cons] at e1
    have l2 : ((r.length + 1 : Nat) : Int) > 0 := by omega
    show _ = RF.ok (.sh .non) [wkW V e c (if f < en then ⟨f, ke, lo + mi2 u (f - mo), r⟩ else ⟨en, ke + u, lo, (f :: r).dropWhile fun x => decide (x ≤ en)⟩)]
    by_cases h2 : f < en
    · rw [if_pos h2]
      by_cases h1 : u = V - ke
      · rw [if_pos h1] at hen2
        subst h1
        rw [if_pos (by omega)] at e2
        rw [run_call (fd := d_Worker_go_on) rfl rfl]
        simp -implicitDefEqProofs (disch := (first | exact id rfl | assumption | omega | (simp only [List.length_map, List.length_append, List.length_cons, List.length_nil, List.length_range, List.length_replicate, List.length_reverse, List.length_zip, List.length_zipIdx, List.length_set, line_e]; first | done | omega))) only [d_Worker_go_on, b_Worker_go_on, Nat.reduceSub, hu2, hen2, l2, h2, mi2, e2, lA, runI_call, zA, den, dens, denI, W.frz, Fw.frz, frzF, String.reduceEq, Option.isNone_none, Option.isNone_some, Option.map_some, Bool.true_and, Bool.false_and, Bool.false_eq_true, Bool.not_true, Bool.not_false, List.headD_cons, List.tail_cons, entry, List.map_cons, List.map_nil, List.cons_append, List.nil_append, List.replicate, List.length_cons, List.length_nil, List.getElem?_cons_zero, List.getElem?_cons_succ, List.getElem?_map, List.length_map, Int.reduceLT, Int.reduceLE, Nat.reduceLT, Nat.reduceLeDiff, and_self, and_true, true_and, if_true, if_false, Nat.reduceAdd, Int.reduceAdd, Int.reduceMul, Int.reducePow, Int.reduceToNat, Int.reduceNeg, decide_true, decide_false, Nat.reduceEqDiff, reduceCtorEq, Nat.zero_le, List.map_append, Int.toNat_natCast, List.length_range, List.length_append, List.length_reverse, Bool.true_or, Bool.false_or, Bool.or_false, Bool.or_true, List.headD_nil, List.tail_nil]
      · rw [if_neg h1] at hen2
        rw [run_call (fd := d_Worker_go_on) rfl rfl]
        simp -implicitDefEqProofs (disch := (first | exact id rfl | assumption | omega | (simp only [List.length_map, List.length_append, List.length_cons, List.length_nil, List.length_range, List.length_replicate, List.length_reverse, List.length_zip, List.length_zipIdx, List.length_set, line_e]; first | done | omega))) only [d_Worker_go_on, b_Worker_go_on, Nat.reduceSub, hu2, h1, hen2, l2, h2, mi2, e2, lA, runI_call, zA, den, dens, denI, W.frz, Fw.frz, frzF, String.reduceEq, Option.isNone_none, Option.isNone_some, Option.map_some, Bool.true_and, Bool.false_and, Bool.false_eq_true, Bool.not_true, Bool.not_false, List.headD_cons, List.tail_cons, entry, List.map_cons, List.map_nil, List.cons_append, List.nil_append, List.replicate, List.length_cons, List.length_nil, List.getElem?_cons_zero, List.getElem?_cons_succ, List.getElem?_map, List.length_map, Int.reduceLT, Int.reduceLE, Nat.reduceLT, Nat.reduceLeDiff, and_self, and_true, true_and, if_true, if_false, Nat.reduceAdd, Int.reduceAdd, Int.reduceMul, Int.reducePow, Int.reduceToNat, Int.reduceNeg, decide_true, decide_false, Nat.reduceEqDiff, reduceCtorEq, Nat.zero_le, List.map_append, Int.toNat_natCast, List.length_range, List.length_append, List.length_reverse, Bool.true_or, Bool.false_or, Bool.or_false, Bool.or_true, List.headD_nil, List.tail_nil]
    · rw [if_neg h2]
      by_cases h1 : u = V - ke
      · rw [if_pos h1] at hen2
        subst h1
        rw [run_call (fd := d_Worker_go_on) rfl rfl]
        simp -implicitDefEqProofs (disch := (first | exact id rfl | assumption | omega | (simp only [List.length_map, List.length_append, List.length_cons, List.length_nil, List.length_range, List.length_replicate, List.length_reverse, List.length_zip, List.length_zipIdx, List.length_set, line_e]; first | done | omega))) only [d_Worker_go_on, b_Worker_go_on, Nat.reduceSub, augf_e, kAf_ok, kAf1_ok, augI_a, kAf2_ok, hu2, hen2, l2, h2, e1, lA, runI_call, zA, den, dens, denI, W.frz, Fw.frz, frzF, String.reduceEq, Option.isNone_none, Option.isNone_some, Option.map_some, Bool.true_and, Bool.false_and, Bool.false_eq_true, Bool.not_true, Bool.not_false, List.headD_cons, List.tail_cons, entry, List.map_cons, List.map_nil, List.cons_append, List.nil_append, List.replicate, List.length_cons, List.length_nil, List.getElem?_cons_zero, List.getElem?_cons_succ, List.getElem?_map, List.length_map, Int.reduceLT, Int.reduceLE, Nat.reduceLT, Nat.reduceLeDiff, and_self, and_true, true_and, if_true, if_false, Nat.reduceAdd, Int.reduceAdd, Int.reduceMul, Int.reducePow, Int.reduceToNat, Int.reduceNeg, decide_true, decide_false, Nat.reduceEqDiff, reduceCtorEq, Nat.zero_le, List.map_append, Int.toNat_natCast, List.length_range, List.length_append, List.length_reverse, Bool.true_or, Bool.false_or, Bool.or_false, Bool.or_true, List.headD_nil, List.tail_nil]
      · rw [if_neg h1] at hen2
        rw [run_call (fd := d_Worker_go_on) rfl rfl]
        simp -implicitDefEqProofs (disch := (first | exact id rfl | assumption | omega | (simp only [List.length_map, List.length_append, List.length_cons, List.length_nil, List.length_range, List.length_replicate, List.length_reverse, List.length_zip, List.length_zipIdx, List.length_set, line_e]; first | done | omega))) only [d_Worker_go_on, b_Worker_go_on, Nat.reduceSub, augf_e, kAf_ok, kAf1_ok, augI_a, kAf2_ok, hu2, h1, hen2, l2, h2, e1, lA, runI_call, zA, den, dens, denI, W.frz, Fw.frz, frzF, String.reduceEq, Option.isNone_none, Option.isNone_some, Option.map_some, Bool.true_and, Bool.false_and, Bool.false_eq_true, Bool.not_true, Bool.not_false, List.headD_cons, List.tail_cons, entry, List.map_cons, List.map_nil, List.cons_append, List.nil_append, List.replicate, List.length_cons, List.length_nil, List.getElem?_cons_zero, List.getElem?_cons_succ, List.getElem?_map, List.length_map, Int.reduceLT, Int.reduceLE, Nat.reduceLT, Nat.reduceLeDiff, and_self, and_true, true_and, if_true, if_false, Nat.reduceAdd, Int.reduceAdd, Int.reduceMul, Int.reducePow, Int.reduceToNat, Int.reduceNeg, decide_true, decide_false, Nat.reduceEqDiff, reduceCtorEq, Nat.zero_le, List.map_append, Int.toNat_natCast, List.length_range, List.length_append, List.length_reverse, Bool.true_or, Bool.false_or, Bool.or_false, Bool.or_true, List.headD_nil, List.tail_nil]
theorem run_whl (wf n : Nat) (V e c : Int) (hw : 200 ≤ wf) {k : Nat} {s t : Sx} (h : Fin V e c k s t) : s.fs.length ≤ 100 → ∀ fuel, k + 1 ≤ fuel → kWhl fuel (clK Gm wf (n+2)) (.pcmp .lt (.fld (.var 0) "kept") (.fld (.var 0) "work")) l1_Worker_run (E_Worker_run (self := some (wkW V e c s))) = .ok (.nx, E_Worker_run (self := some (wkW V e c t))) := by
  induction h with
  | done s hk =>
    intro hl fuel hf
    obtain ⟨fuel, rfl⟩ : ∃ f, fuel = f + 1 := ⟨fuel - 1, by omega⟩
    refine whl_f ?_
    simp -implicitDefEqProofs (disch := (first | exact id rfl | assumption | omega | (simp only [List.length_map, List.length_append, List.length_cons, List.length_nil, List.length_range, List.length_replicate, List.length_reverse, List.length_zip, List.length_zipIdx, List.length_set, line_e]; first | done | omega))) only [hk, lA, runI_call, zA, den, dens, denI, W.frz, Fw.frz, frzF, String.reduceEq, Option.isNone_none, Option.isNone_some, Option.map_some, Bool.true_and, Bool.false_and, Bool.false_eq_true, Bool.not_true, Bool.not_false, List.headD_cons, List.tail_cons, entry, List.map_cons, List.map_nil, List.cons_append, List.nil_append, List.replicate, List.length_cons, List.length_nil, List.getElem?_cons_zero, List.getElem?_cons_succ, List.getElem?_map, List.length_map, Int.reduceLT, Int.reduceLE, Nat.reduceLT, Nat.reduceLeDiff, and_self, and_true, true_and, if_true, if_false, Nat.reduceAdd, Int.reduceAdd, Int.reduceMul, Int.reducePow, Int.reduceToNat, Int.reduceNeg, decide_true, decide_false, Nat.reduceEqDiff, reduceCtorEq, Nat.zero_le, List.map_append, Int.toNat_natCast, List.length_range, List.length_append, List.length_reverse, Bool.true_or, Bool.false_or, Bool.or_false, Bool.or_true, List.headD_nil, List.tail_nil]
  | more k s t hk hs ih =>
    intro hl fuel hf
    obtain ⟨fuel, rfl⟩ : ∃ f, fuel = f + 1 := ⟨fuel - 1, by omega⟩
    have e1 := goon_run wf n V e c s hl hw
    have h2 := ih (Nat.le_trans (stp_fs V e c s) hl) fuel (by omega)
    have e2 : execs (clK Gm wf (n+2)) l1_Worker_run (E_Worker_run (self := some (wkW V e c s))) = .ok (.nx, E_Worker_run (self := some (wkW V e c (stp V e c s)))) := by
      simp -implicitDefEqProofs (disch := (first | exact id rfl | assumption | omega | (simp only [List.length_map, List.length_append, List.length_cons, List.length_nil, List.length_range, List.length_replicate, List.length_reverse, List.length_zip, List.length_zipIdx, List.length_set, line_e]; first | done | omega))) only [l1_Worker_run, e1, lA, runI_call, zA, den, dens, denI, W.frz, Fw.frz, frzF, String.reduceEq, Option.isNone_none, Option.isNone_some, Option.map_some, Bool.true_and, Bool.false_and, Bool.false_eq_true, Bool.not_true, Bool.not_false, List.headD_cons, List.tail_cons, entry, List.map_cons, List.map_nil, List.cons_append, List.nil_append, List.replicate, List.length_cons, List.length_nil, List.getElem?_cons_zero, List.getElem?_cons_succ, List.getElem?_map, List.length_map, Int.reduceLT, Int.reduceLE, Nat.reduceLT, Nat.reduceLeDiff, and_self, and_true, true_and, if_true, if_false, Nat.reduceAdd, Int.reduceAdd, Int.reduceMul, Int.reducePow, Int.reduceToNat, Int.reduceNeg, decide_true, decide_false, Nat.reduceEqDiff, reduceCtorEq, Nat.zero_le, List.map_append, Int.toNat_natCast, List.length_range, List.length_append, List.length_reverse, Bool.true_or, Bool.false_or, Bool.or_false, Bool.or_true, List.headD_nil, List.tail_nil]
    rw [whl_t ?_ e2]
    · exact h2
    · simp -implicitDefEqProofs (disch := (first | exact id rfl | assumption | omega | (simp only [List.length_map, List.length_append, List.length_cons, List.length_nil, List.length_range, List.length_replicate, List.length_reverse, List.length_zip, List.length_zipIdx, List.length_set, line_e]; first | done | omega))) only [hk, lA, runI_call, zA, den, dens, denI, W.frz, Fw.frz, frzF, String.reduceEq, Option.isNone_none, Option.isNone_some, Option.map_some, Bool.true_and, Bool.false_and, Bool.false_eq_true, Bool.not_true, Bool.not_false, List.headD_cons, List.tail_cons, entry, List.map_cons, List.map_nil, List.cons_append, List.nil_append, List.replicate, List.length_cons, List.length_nil, List.getElem?_cons_zero, List.getElem?_cons_succ, List.getElem?_map, List.length_map, Int.reduceLT, Int.reduceLE, Nat.reduceLT, Nat.reduceLeDiff, and_self, and_true, true_and, if_true, if_false, Nat.reduceAdd, Int.reduceAdd, Int.reduceMul, Int.reducePow, Int.reduceToNat, Int.reduceNeg, decide_true, decide_false, Nat.reduceEqDiff, reduceCtorEq, Nat.zero_le, List.map_append, Int.toNat_natCast, List.length_range, List.length_append, List.length_reverse, Bool.true_or, Bool.false_or, Bool.or_false, Bool.or_true, List.headD_nil, List.tail_nil]
theorem wrun_run (wf n : Nat) (V e c : Int) (hw : 200 ≤ wf) {k : Nat} {s t : Sx} (h : Fin V e c k s t) (hl : s.fs.length ≤ 100) (hk : k + 1 ≤ wf) : run Gm wf (n+3) "Worker.run" [wkW V e c s] = .ok (.sh .non) [wkW V e c t] := by
  have e1 := run_whl wf n V e c hw h hl wf hk
  simp only [E_Worker_run] at e1
  rw [run_call (fd := d_Worker_run) rfl rfl]
  simp -implicitDefEqProofs (disch := (first | exact id rfl | assumption | omega | (simp only [List.length_map, List.length_append, List.length_cons, List.length_nil, List.length_range, List.length_replicate, List.length_reverse, List.length_zip, List.length_zipIdx, List.length_set, line_e]; first | done | omega))) only [d_Worker_run, b_Worker_run, Nat.reduceSub, lA, runI_call, zA, den, dens, denI, W.frz, Fw.frz, frzF, String.reduceEq, Option.isNone_none, Option.isNone_some, Option.map_some, Bool.true_and, Bool.false_and, Bool.false_eq_true, Bool.not_true, Bool.not_false, List.headD_cons, List.tail_cons, entry, List.map_cons, List.map_nil, List.cons_append, List.nil_append, List.replicate, List.length_cons, List.length_nil, List.getElem?_cons_zero, List.getElem?_cons_succ, List.getElem?_map, List.length_map, Int.reduceLT, Int.reduceLE, Nat.reduceLT, Nat.reduceLeDiff, and_self, and_true, true_and, if_true, if_false, Nat.reduceAdd, Int.reduceAdd, Int.reduceMul, Int.reducePow, Int.reduceToNat, Int.reduceNeg, decide_true, decide_false, Nat.reduceEqDiff, reduceCtorEq, Nat.zero_le, List.map_append, Int.toNat_natCast, List.length_range, List.length_append, List.length_reverse, Bool.true_or, Bool.false_or, Bool.or_false, Bool.or_true, List.headD_nil, List.tail_nil]
  rw [e1]
  simp -implicitDefEqProofs (disch := (first | exact id rfl | assumption | omega | (simp only [List.length_map, List.length_append, List.length_cons, List.length_nil, List.length_range, List.length_replicate, List.length_reverse, List.length_zip, List.length_zipIdx, List.length_set, line_e]; first | done | omega))) only [lA, runI_call, zA, den, dens, denI, W.frz, Fw.frz, frzF, String.reduceEq, Option.isNone_none, Option.isNone_some, Option.map_some, Bool.true_and, Bool.false_and, Bool.false_eq_true, Bool.not_true, Bool.not_false, List.headD_cons, List.tail_cons, entry, List.map_cons, List.map_nil, List.cons_append, List.nil_append, List.replicate, List.length_cons, List.length_nil, List.getElem?_cons_zero, List.getElem?_cons_succ, List.getElem?_map, List.length_map, Int.reduceLT, Int.reduceLE, Nat.reduceLT, Nat.reduceLeDiff, and_self, and_true, true_and, if_true, if_false, Nat.reduceAdd, Int.reduceAdd, Int.reduceMul, Int.reducePow, Int.reduceToNat, Int.reduceNeg, decide_true, decide_false, Nat.reduceEqDiff, reduceCtorEq, Nat.zero_le, List.map_append, Int.toNat_natCast, List.length_range, List.length_append, List.length_reverse, Bool.true_or, Bool.false_or, Bool.or_false, Bool.or_true, List.headD_nil, List.tail_nil]
abbrev wkD (V e c : Int) (s : Sx) : D := .ins "Worker" [("work", .int V), ("every", .int e), ("cost", .int c), ("falls", .lst (s.fs.map D.int)), ("moment", .int s.mo), ("kept", .int s.ke), ("lost", .int s.lo)]
def sqI (b : Bool) (l : List Int) : D := if b then .tup (l.map D.int) else .lst (l.map D.int)
theorem winit_run (wf n : Nat) (V e c : Int) (b : Bool) (l : List Int) : run Gm wf (n+1) "Worker.__init__" [.oi "Worker" [], .sh (.int V), .sh (.int e), .sh (.int c), .sh (sqI b l)] = .ok (.sh .non) [wkW V e c ⟨0, 0, 0, l⟩, .sh .non, .sh .non, .sh .non, .sh .non] := by
  have b1 : biO .list [sqI b l] = .ok (.ol (l.map D.int)) := by cases b <;> rfl
  rw [run_call (fd := d_Worker___init__) rfl rfl]
  simp -implicitDefEqProofs (disch := (first | exact id rfl | assumption | omega | (simp only [List.length_map, List.length_append, List.length_cons, List.length_nil, List.length_range, List.length_replicate, List.length_reverse, List.length_zip, List.length_zipIdx, List.length_set, line_e]; first | done | omega))) only [d_Worker___init__, b_Worker___init__, b1, lA, runI_call, zA, den, dens, denI, W.frz, Fw.frz, frzF, String.reduceEq, Option.isNone_none, Option.isNone_some, Option.map_some, Bool.true_and, Bool.false_and, Bool.false_eq_true, Bool.not_true, Bool.not_false, List.headD_cons, List.tail_cons, entry, List.map_cons, List.map_nil, List.cons_append, List.nil_append, List.replicate, List.length_cons, List.length_nil, List.getElem?_cons_zero, List.getElem?_cons_succ, List.getElem?_map, List.length_map, Int.reduceLT, Int.reduceLE, Nat.reduceLT, Nat.reduceLeDiff, and_self, and_true, true_and, if_true, if_false, Nat.reduceAdd, Int.reduceAdd, Int.reduceMul, Int.reducePow, Int.reduceToNat, Int.reduceNeg, decide_true, decide_false, Nat.reduceEqDiff, reduceCtorEq, Nat.zero_le, List.map_append, Int.toNat_natCast, List.length_range, List.length_append, List.length_reverse, Bool.true_or, Bool.false_or, Bool.or_false, Bool.or_true, List.headD_nil, List.tail_nil]
theorem done_run (wf n : Nat) (V e c : Int) (hw : 200 ≤ wf) (b : Bool) (l : List Int) {k : Nat} {t : Sx} (h : Fin V e c k ⟨0, 0, 0, l⟩ t) (hl : l.length ≤ 100) (hk : k + 1 ≤ wf) : run Gm wf (n+4) "worker_done" [.sh (.int V), .sh (.int e), .sh (.int c), .sh (sqI b l)] = .ok (.sh (wkD V e c t)) [.sh .non, .sh .non, .sh .non, .sh .non] := by
  have e1 := winit_run wf (n+1) V e c b l
  have e2 := wrun_run wf n V e c hw h hl hk
  rw [run_call (fd := d_worker_done) rfl rfl]
  simp -implicitDefEqProofs (disch := (first | exact id rfl | assumption | omega | (simp only [List.length_map, List.length_append, List.length_cons, List.length_nil, List.length_range, List.length_replicate, List.length_reverse, List.length_zip, List.length_zipIdx, List.length_set, line_e]; first | done | omega))) only [d_worker_done, b_worker_done, e1, e2, lA, runI_call, zA, den, dens, denI, W.frz, Fw.frz, frzF, String.reduceEq, Option.isNone_none, Option.isNone_some, Option.map_some, Bool.true_and, Bool.false_and, Bool.false_eq_true, Bool.not_true, Bool.not_false, List.headD_cons, List.tail_cons, entry, List.map_cons, List.map_nil, List.cons_append, List.nil_append, List.replicate, List.length_cons, List.length_nil, List.getElem?_cons_zero, List.getElem?_cons_succ, List.getElem?_map, List.length_map, Int.reduceLT, Int.reduceLE, Nat.reduceLT, Nat.reduceLeDiff, and_self, and_true, true_and, if_true, if_false, Nat.reduceAdd, Int.reduceAdd, Int.reduceMul, Int.reducePow, Int.reduceToNat, Int.reduceNeg, decide_true, decide_false, Nat.reduceEqDiff, reduceCtorEq, Nat.zero_le, List.map_append, Int.toNat_natCast, List.length_range, List.length_append, List.length_reverse, Bool.true_or, Bool.false_or, Bool.or_false, Bool.or_true, List.headD_nil, List.tail_nil]
theorem time_run (wf n : Nat) (V e c : Int) (hw : 200 ≤ wf) (b : Bool) (l : List Int) {k : Nat} {t : Sx} (h : Fin V e c k ⟨0, 0, 0, l⟩ t) (hl : l.length ≤ 100) (hk : k + 1 ≤ wf) : run Gm wf (n+5) "time_with_falls" [.sh (.int V), .sh (.int e), .sh (.int c), .sh (sqI b l)] = .ok (.sh (.int t.mo)) [.sh .non, .sh .non, .sh .non, .sh .non] := by
  have e1 := done_run wf n V e c hw b l h hl hk
  rw [run_call (fd := d_time_with_falls) rfl rfl]
  simp -implicitDefEqProofs (disch := (first | exact id rfl | assumption | omega | (simp only [List.length_map, List.length_append, List.length_cons, List.length_nil, List.length_range, List.length_replicate, List.length_reverse, List.length_zip, List.length_zipIdx, List.length_set, line_e]; first | done | omega))) only [d_time_with_falls, b_time_with_falls, e1, lA, runI_call, zA, den, dens, denI, W.frz, Fw.frz, frzF, String.reduceEq, Option.isNone_none, Option.isNone_some, Option.map_some, Bool.true_and, Bool.false_and, Bool.false_eq_true, Bool.not_true, Bool.not_false, List.headD_cons, List.tail_cons, entry, List.map_cons, List.map_nil, List.cons_append, List.nil_append, List.replicate, List.length_cons, List.length_nil, List.getElem?_cons_zero, List.getElem?_cons_succ, List.getElem?_map, List.length_map, Int.reduceLT, Int.reduceLE, Nat.reduceLT, Nat.reduceLeDiff, and_self, and_true, true_and, if_true, if_false, Nat.reduceAdd, Int.reduceAdd, Int.reduceMul, Int.reducePow, Int.reduceToNat, Int.reduceNeg, decide_true, decide_false, Nat.reduceEqDiff, reduceCtorEq, Nat.zero_le, List.map_append, Int.toNat_natCast, List.length_range, List.length_append, List.length_reverse, Bool.true_or, Bool.false_or, Bool.or_false, Bool.or_true, List.headD_nil, List.tail_nil]
theorem again_run (wf n : Nat) (V e c : Int) (hw : 200 ≤ wf) (b : Bool) (l : List Int) {k : Nat} {t : Sx} (h : Fin V e c k ⟨0, 0, 0, l⟩ t) (hl : l.length ≤ 100) (hk : k + 1 ≤ wf) : run Gm wf (n+5) "units_again" [.sh (.int V), .sh (.int e), .sh (.int c), .sh (sqI b l)] = .ok (.sh (.int t.lo)) [.sh .non, .sh .non, .sh .non, .sh .non] := by
  have e1 := done_run wf n V e c hw b l h hl hk
  rw [run_call (fd := d_units_again) rfl rfl]
  simp -implicitDefEqProofs (disch := (first | exact id rfl | assumption | omega | (simp only [List.length_map, List.length_append, List.length_cons, List.length_nil, List.length_range, List.length_replicate, List.length_reverse, List.length_zip, List.length_zipIdx, List.length_set, line_e]; first | done | omega))) only [d_units_again, b_units_again, e1, lA, runI_call, zA, den, dens, denI, W.frz, Fw.frz, frzF, String.reduceEq, Option.isNone_none, Option.isNone_some, Option.map_some, Bool.true_and, Bool.false_and, Bool.false_eq_true, Bool.not_true, Bool.not_false, List.headD_cons, List.tail_cons, entry, List.map_cons, List.map_nil, List.cons_append, List.nil_append, List.replicate, List.length_cons, List.length_nil, List.getElem?_cons_zero, List.getElem?_cons_succ, List.getElem?_map, List.length_map, Int.reduceLT, Int.reduceLE, Nat.reduceLT, Nat.reduceLeDiff, and_self, and_true, true_and, if_true, if_false, Nat.reduceAdd, Int.reduceAdd, Int.reduceMul, Int.reducePow, Int.reduceToNat, Int.reduceNeg, decide_true, decide_false, Nat.reduceEqDiff, reduceCtorEq, Nat.zero_le, List.map_append, Int.toNat_natCast, List.length_range, List.length_append, List.length_reverse, Bool.true_or, Bool.false_or, Bool.or_false, Bool.or_true, List.headD_nil, List.tail_nil]
end Lw

set_option Elab.async false
set_option linter.all false
set_option maxRecDepth 100000
set_option maxHeartbeats 0
namespace Lw
open Z

theorem gtF {F : List Int} {i : Nat} (h : i < F.length) : getL (F.map D.int) (i : Int) = some (.int F[i]) := by
  rw [getL_nat, List.getElem?_map, List.getElem?_eq_getElem h]; rfl
theorem lwhl (wf n : Nat) (V e c mo ke lo : Int) (F : List Int) (hF : F.length ≤ 100) (st un en : W) : ∀ (k spot fuel : Nat), spot + k = F.length → k + 1 ≤ fuel →
    ∃ sp', sp' ≤ F.length ∧ F.drop sp' = (F.drop spot).dropWhile (fun x => decide (x ≤ mo)) ∧ kWhl fuel (clK Gm wf n) (.and [.cmp .lt (.var 7) (.bi .len [.var 3]), .cmp .le (.ix (.var 3) (.var 7)) (.var 4)]) l1__law_runs (E__law_runs (work := some (.sh (.int V))) (every := some (.sh (.int e))) (cost := some (.sh (.int c))) (falls := some (.sh (.lst (F.map D.int)))) (time := some (.sh (.int (mo)))) (done := some (.sh (.int (ke)))) (lost := some (.sh (.int (lo)))) (spot := some (.sh (dn (spot)))) (step := some st) (units := some un) (end_ := some en)) = .ok (.nx, (E__law_runs (work := some (.sh (.int V))) (every := some (.sh (.int e))) (cost := some (.sh (.int c))) (falls := some (.sh (.lst (F.map D.int)))) (time := some (.sh (.int (mo)))) (done := some (.sh (.int (ke)))) (lost := some (.sh (.int (lo)))) (spot := some (.sh (dn (sp')))) (step := some st) (units := some un) (end_ := some en)))
  | 0, spot, fuel, h, hf => by
    obtain ⟨fuel, rfl⟩ : ∃ f, fuel = f + 1 := ⟨fuel - 1, by omega⟩
    have h1 : ¬ (spot : Int) < (F.length : Int) := by omega
    refine ⟨spot, by omega, ?_, ?_⟩
    · rw [List.drop_eq_nil_of_le (by omega)]; rfl
    · refine whl_f ?_
      simp -implicitDefEqProofs (disch := (first | exact id rfl | assumption | omega | (simp only [List.length_map, List.length_append, List.length_cons, List.length_nil, List.length_range, List.length_replicate, List.length_reverse, List.length_zip, List.length_zipIdx, List.length_set, line_e]; first | done | omega))) only [h1, lA, runI_call, zA, den, dens, denI, W.frz, Fw.frz, frzF, String.reduceEq, Option.isNone_none, Option.isNone_some, Option.map_some, Bool.true_and, Bool.false_and, Bool.false_eq_true, Bool.not_true, Bool.not_false, List.headD_cons, List.tail_cons, entry, List.map_cons, List.map_nil, List.cons_append, List.nil_append, List.replicate, List.length_cons, List.length_nil, List.getElem?_cons_zero, List.getElem?_cons_succ, List.getElem?_map, List.length_map, Int.reduceLT, Int.reduceLE, Nat.reduceLT, Nat.reduceLeDiff, and_self, and_true, true_and, if_true, if_false, Nat.reduceAdd, Int.reduceAdd, Int.reduceMul, Int.reducePow, Int.reduceToNat, Int.reduceNeg, decide_true, decide_false, Nat.reduceEqDiff, reduceCtorEq, Nat.zero_le, List.map_append, Int.toNat_natCast, List.length_range, List.length_append, List.length_reverse, Bool.true_or, Bool.false_or, Bool.or_false, Bool.or_true, List.headD_nil, List.tail_nil]
  | k + 1, spot, fuel, h, hf => by
    obtain ⟨fuel, rfl⟩ : ∃ f, fuel = f + 1 := ⟨fuel - 1, by omega⟩
    have h1 : (spot : Int) < (F.length : Int) := by omega
    have hs : spot < F.length := by omega
    have g := gtF hs
    have hd : F.drop spot = F[spot] :: F.drop (spot + 1) := List.drop_eq_getElem_cons hs
    by_cases h2 : F[spot] ≤ mo
    · obtain ⟨sp', i1, i2, i3⟩ := lwhl wf n V e c mo ke lo F hF st un en k (spot + 1) fuel (by omega) (by omega)
      refine ⟨sp', i1, by rw [i2, hd, List.dropWhile_cons, if_pos (by simpa using h2)], ?_⟩
      have a1 : (spot : Int) + 1 = ((spot + 1 : Nat) : Int) := by omega
      have e2 : execs (clK Gm wf n) l1__law_runs (E__law_runs (work := some (.sh (.int V))) (every := some (.sh (.int e))) (cost := some (.sh (.int c))) (falls := some (.sh (.lst (F.map D.int)))) (time := some (.sh (.int (mo)))) (done := some (.sh (.int (ke)))) (lost := some (.sh (.int (lo)))) (spot := some (.sh (dn (spot)))) (step := some st) (units := some un) (end_ := some en)) = .ok (.nx, (E__law_runs (work := some (.sh (.int V))) (every := some (.sh (.int e))) (cost := some (.sh (.int c))) (falls := some (.sh (.lst (F.map D.int)))) (time := some (.sh (.int (mo)))) (done := some (.sh (.int (ke)))) (lost := some (.sh (.int (lo)))) (spot := some (.sh (dn (spot + 1)))) (step := some st) (units := some un) (end_ := some en))) := by
        simp -implicitDefEqProofs (disch := (first | exact id rfl | assumption | omega | (simp only [List.length_map, List.length_append, List.length_cons, List.length_nil, List.length_range, List.length_replicate, List.length_reverse, List.length_zip, List.length_zipIdx, List.length_set, line_e]; first | done | omega))) only [l1__law_runs, a1, lA, runI_call, zA, den, dens, denI, W.frz, Fw.frz, frzF, String.reduceEq, Option.isNone_none, Option.isNone_some, Option.map_some, Bool.true_and, Bool.false_and, Bool.false_eq_true, Bool.not_true, Bool.not_false, List.headD_cons, List.tail_cons, entry, List.map_cons, List.map_nil, List.cons_append, List.nil_append, List.replicate, List.length_cons, List.length_nil, List.getElem?_cons_zero, List.getElem?_cons_succ, List.getElem?_map, List.length_map, Int.reduceLT, Int.reduceLE, Nat.reduceLT, Nat.reduceLeDiff, and_self, and_true, true_and, if_true, if_false, Nat.reduceAdd, Int.reduceAdd, Int.reduceMul, Int.reducePow, Int.reduceToNat, Int.reduceNeg, decide_true, decide_false, Nat.reduceEqDiff, reduceCtorEq, Nat.zero_le, List.map_append, Int.toNat_natCast, List.length_range, List.length_append, List.length_reverse, Bool.true_or, Bool.false_or, Bool.or_false, Bool.or_true, List.headD_nil, List.tail_nil]
      rw [whl_t ?_ e2]
      · exact i3
      · simp -implicitDefEqProofs (disch := (first | exact id rfl | assumption | omega | (simp only [List.length_map, List.length_append, List.length_cons, List.length_nil, List.length_range, List.length_replicate, List.length_reverse, List.length_zip, List.length_zipIdx, List.length_set, line_e]; first | done | omega))) only [h1, g, h2, lA, runI_call, zA, den, dens, denI, W.frz, Fw.frz, frzF, String.reduceEq, Option.isNone_none, Option.isNone_some, Option.map_some, Bool.true_and, Bool.false_and, Bool.false_eq_true, Bool.not_true, Bool.not_false, List.headD_cons, List.tail_cons, entry, List.map_cons, List.map_nil, List.cons_append, List.nil_append, List.replicate, List.length_cons, List.length_nil, List.getElem?_cons_zero, List.getElem?_cons_succ, List.getElem?_map, List.length_map, Int.reduceLT, Int.reduceLE, Nat.reduceLT, Nat.reduceLeDiff, and_self, and_true, true_and, if_true, if_false, Nat.reduceAdd, Int.reduceAdd, Int.reduceMul, Int.reducePow, Int.reduceToNat, Int.reduceNeg, decide_true, decide_false, Nat.reduceEqDiff, reduceCtorEq, Nat.zero_le, List.map_append, Int.toNat_natCast, List.length_range, List.length_append, List.length_reverse, Bool.true_or, Bool.false_or, Bool.or_false, Bool.or_true, List.headD_nil, List.tail_nil]
    · refine ⟨spot, by omega, by rw [hd, List.dropWhile_cons, if_neg (by simpa using h2)], ?_⟩
      refine whl_f ?_
      simp -implicitDefEqProofs (disch := (first | exact id rfl | assumption | omega | (simp only [List.length_map, List.length_append, List.length_cons, List.length_nil, List.length_range, List.length_replicate, List.length_reverse, List.length_zip, List.length_zipIdx, List.length_set, line_e]; first | done | omega))) only [h1, g, h2, lA, runI_call, zA, den, dens, denI, W.frz, Fw.frz, frzF, String.reduceEq, Option.isNone_none, Option.isNone_some, Option.map_some, Bool.true_and, Bool.false_and, Bool.false_eq_true, Bool.not_true, Bool.not_false, List.headD_cons, List.tail_cons, entry, List.map_cons, List.map_nil, List.cons_append, List.nil_append, List.replicate, List.length_cons, List.length_nil, List.getElem?_cons_zero, List.getElem?_cons_succ, List.getElem?_map, List.length_map, Int.reduceLT, Int.reduceLE, Nat.reduceLT, Nat.reduceLeDiff, and_self, and_true, true_and, if_true, if_false, Nat.reduceAdd, Int.reduceAdd, Int.reduceMul, Int.reducePow, Int.reduceToNat, Int.reduceNeg, decide_true, decide_false, Nat.reduceEqDiff, reduceCtorEq, Nat.zero_le, List.map_append, Int.toNat_natCast, List.length_range, List.length_append, List.length_reverse, Bool.true_or, Bool.false_or, Bool.or_false, Bool.or_true, List.headD_nil, List.tail_nil]
theorem uni2 (V e : Int) (s : Sx) : (if V - s.ke < e then V - s.ke else e) = uni V e s := by unfold uni; split <;> split <;> omega
theorem drop_sorted {f : Int} {r : List Int} (h : (f :: r).Pairwise (· < ·)) : r.dropWhile (fun x => decide (x ≤ f)) = r := by
  cases r with
  | nil => rfl
  | cons a r =>
    have := (List.pairwise_cons.mp h).1 a (by simp)
    rw [List.dropWhile_cons, if_neg (by simp; omega)]
theorem sorted_drop {p : Int → Bool} : ∀ {l : List Int}, l.Pairwise (· < ·) → (l.dropWhile p).Pairwise (· < ·)
  | [], h => h
  | a :: l, h => by
    rw [List.dropWhile_cons]
    split
    · exact sorted_drop (List.pairwise_cons.mp h).2
    · exact h
theorem sorted_stp {V e c : Int} {s : Sx} (h : s.fs.Pairwise (· < ·)) : (stp V e c s).fs.Pairwise (· < ·) := by
  unfold stp
  cases hf : s.fs with
  | nil => exact List.Pairwise.nil
  | cons f r =>
    rw [hf] at h
    simp only []
    split
    · exact (List.pairwise_cons.mp h).2
    · exact sorted_drop h
/-- one turn of the law's loop -/
theorem lrun_turn (wf n : Nat) (hw : 200 ≤ wf) (V e c : Int) (F : List Int) (hF : F.length ≤ 100) (s : Sx) (hk : s.ke < V) (hs : s.fs.Pairwise (· < ·)) (spot : Nat) (hsp : spot ≤ F.length) (hr : (F.drop spot).dropWhile (fun x => decide (x ≤ s.mo)) = s.fs) (st : W) :
    ∃ sp', sp' ≤ F.length ∧ (F.drop sp').dropWhile (fun x => decide (x ≤ (stp V e c s).mo)) = (stp V e c s).fs ∧ execs (clK Gm wf n) l2__law_runs (E__law_runs (work := some (.sh (.int V))) (every := some (.sh (.int e))) (cost := some (.sh (.int c))) (falls := some (.sh (.lst (F.map D.int)))) (time := some (.sh (.int (s.mo)))) (done := some (.sh (.int (s.ke)))) (lost := some (.sh (.int (s.lo)))) (spot := some (.sh (dn (spot)))) (step := some st)) = .ok (.nx, (E__law_runs (work := some (.sh (.int V))) (every := some (.sh (.int e))) (cost := some (.sh (.int c))) (falls := some (.sh (.lst (F.map D.int)))) (time := some (.sh (.int ((stp V e c s).mo)))) (done := some (.sh (.int ((stp V e c s).ke)))) (lost := some (.sh (.int ((stp V e c s).lo)))) (spot := some (.sh (dn (sp')))))) := by
  obtain ⟨mo, ke, lo, fs⟩ := s
  simp only at hk hs hr
  obtain ⟨u, hu⟩ : ∃ u, uni V e ⟨mo, ke, lo, fs⟩ = u := ⟨_, rfl⟩
  have hu2 : (if V - ke < e then V - ke else e) = u := by rw [← hu]; exact uni2 V e ⟨mo, ke, lo, fs⟩
  have hu3 : u ≤ V - ke := by rw [← hu2]; split <;> omega
  obtain ⟨en, hen⟩ : ∃ en, enx V e c ⟨mo, ke, lo, fs⟩ = en := ⟨_, rfl⟩
  have hen2 : mo + (if u = V - ke then u else u + c) = en := by rw [← hen]; unfold enx; rw [hu]
  have h0 : ¬ ke ≥ V := by omega
  obtain ⟨sp', i1, i2, i3⟩ := lwhl wf n V e c mo ke lo F hF st (.sh (.int u)) (.sh (.int en)) (F.length - spot) spot wf (by omega) (by omega)
  rw [hr] at i2
  simp only [E__law_runs] at i3
  refine ⟨sp', i1, ?_, ?_⟩
  · unfold stp
    simp only [hu, hen]
    rw [i2]
    cases fs with
    | nil => rfl
    | cons f r =>
      show List.dropWhile (fun x => decide (x ≤ (if f < en then (⟨f, ke, lo + mi2 u (f - mo), r⟩ : Sx) else ⟨en, ke + u, lo, (f :: r).dropWhile fun x => decide (x ≤ en)⟩).mo)) (f :: r) = (if f < en then (⟨f, ke, lo + mi2 u (f - mo), r⟩ : Sx) else ⟨en, ke + u, lo, (f :: r).dropWhile fun x => decide (x ≤ en)⟩).fs
      split
      · show (f :: r).dropWhile (fun x => decide (x ≤ f)) = r
        rw [List.dropWhile_cons, if_pos (by simp)]
        exact drop_sorted hs
      · rfl
  · have e0 : ∀ (x : Bool), x = x := fun _ => rfl
    unfold stp
    simp only [hu, hen]
    cases fs with
    | nil =>
      have hl : ¬ (sp' : Int) < (F.length : Int) := by
        have := congrArg List.length i2
        rw [List.length_drop, List.length_nil] at this
        omega
      by_cases h1 : u = V - ke
      · rw [if_pos h1] at hen2
        have h2 : ¬ ke + u < V := by omega
        simp -implicitDefEqProofs (disch := (first | exact id rfl | assumption | omega | (simp only [List.length_map, List.length_append, List.length_cons, List.length_nil, List.length_range, List.length_replicate, List.length_reverse, List.length_zip, List.length_zipIdx, List.length_set, line_e]; first | done | omega))) only [l2__law_runs, h0, hu2, hen2, h2, lA, runI_call, zA, den, dens, denI, W.frz, Fw.frz, frzF, String.reduceEq, Option.isNone_none, Option.isNone_some, Option.map_some, Bool.true_and, Bool.false_and, Bool.false_eq_true, Bool.not_true, Bool.not_false, List.headD_cons, List.tail_cons, entry, List.map_cons, List.map_nil, List.cons_append, List.nil_append, List.replicate, List.length_cons, List.length_nil, List.getElem?_cons_zero, List.getElem?_cons_succ, List.getElem?_map, List.length_map, Int.reduceLT, Int.reduceLE, Nat.reduceLT, Nat.reduceLeDiff, and_self, and_true, true_and, if_true, if_false, Nat.reduceAdd, Int.reduceAdd, Int.reduceMul, Int.reducePow, Int.reduceToNat, Int.reduceNeg, decide_true, decide_false, Nat.reduceEqDiff, reduceCtorEq, Nat.zero_le, List.map_append, Int.toNat_natCast, List.length_range, List.length_append, List.length_reverse, Bool.true_or, Bool.false_or, Bool.or_false, Bool.or_true, List.headD_nil, List.tail_nil]
        rw [i3]
        simp -implicitDefEqProofs (disch := (first | exact id rfl | assumption | omega | (simp only [List.length_map, List.length_append, List.length_cons, List.length_nil, List.length_range, List.length_replicate, List.length_reverse, List.length_zip, List.length_zipIdx, List.length_set, line_e]; first | done | omega))) only [hl, lA, runI_call, zA, den, dens, denI, W.frz, Fw.frz, frzF, String.reduceEq, Option.isNone_none, Option.isNone_some, Option.map_some, Bool.true_and, Bool.false_and, Bool.false_eq_true, Bool.not_true, Bool.not_false, List.headD_cons, List.tail_cons, entry, List.map_cons, List.map_nil, List.cons_append, List.nil_append, List.replicate, List.length_cons, List.length_nil, List.getElem?_cons_zero, List.getElem?_cons_succ, List.getElem?_map, List.length_map, Int.reduceLT, Int.reduceLE, Nat.reduceLT, Nat.reduceLeDiff, and_self, and_true, true_and, if_true, if_false, Nat.reduceAdd, Int.reduceAdd, Int.reduceMul, Int.reducePow, Int.reduceToNat, Int.reduceNeg, decide_true, decide_false, Nat.reduceEqDiff, reduceCtorEq, Nat.zero_le, List.map_append, Int.toNat_natCast, List.length_range, List.length_append, List.length_reverse, Bool.true_or, Bool.false_or, Bool.or_false, Bool.or_true, List.headD_nil, List.tail_nil]
      · rw [if_neg h1] at hen2
        have h2 : ke + u < V := by omega
        have hen3 : mo + u + c = en := by omega
        simp -implicitDefEqProofs (disch := (first | exact id rfl | assumption | omega | (simp only [List.length_map, List.length_append, List.length_cons, List.length_nil, List.length_range, List.length_replicate, List.length_reverse, List.length_zip, List.length_zipIdx, List.length_set, line_e]; first | done | omega))) only [l2__law_runs, h0, hu2, hen3, h2, lA, runI_call, zA, den, dens, denI, W.frz, Fw.frz, frzF, String.reduceEq, Option.isNone_none, Option.isNone_some, Option.map_some, Bool.true_and, Bool.false_and, Bool.false_eq_true, Bool.not_true, Bool.not_false, List.headD_cons, List.tail_cons, entry, List.map_cons, List.map_nil, List.cons_append, List.nil_append, List.replicate, List.length_cons, List.length_nil, List.getElem?_cons_zero, List.getElem?_cons_succ, List.getElem?_map, List.length_map, Int.reduceLT, Int.reduceLE, Nat.reduceLT, Nat.reduceLeDiff, and_self, and_true, true_and, if_true, if_false, Nat.reduceAdd, Int.reduceAdd, Int.reduceMul, Int.reducePow, Int.reduceToNat, Int.reduceNeg, decide_true, decide_false, Nat.reduceEqDiff, reduceCtorEq, Nat.zero_le, List.map_append, Int.toNat_natCast, List.length_range, List.length_append, List.length_reverse, Bool.true_or, Bool.false_or, Bool.or_false, Bool.or_true, List.headD_nil, List.tail_nil]
        rw [i3]
        simp -implicitDefEqProofs (disch := (first | exact id rfl | assumption | omega | (simp only [List.length_map, List.length_append, List.length_cons, List.length_nil, List.length_range, List.length_replicate, List.length_reverse, List.length_zip, List.length_zipIdx, List.length_set, line_e]; first | done | omega))) only [hl, lA, runI_call, zA, den, dens, denI, W.frz, Fw.frz, frzF, String.reduceEq, Option.isNone_none, Option.isNone_some, Option.map_some, Bool.true_and, Bool.false_and, Bool.false_eq_true, Bool.not_true, Bool.not_false, List.headD_cons, List.tail_cons, entry, List.map_cons, List.map_nil, List.cons_append, List.nil_append, List.replicate, List.length_cons, List.length_nil, List.getElem?_cons_zero, List.getElem?_cons_succ, List.getElem?_map, List.length_map, Int.reduceLT, Int.reduceLE, Nat.reduceLT, Nat.reduceLeDiff, and_self, and_true, true_and, if_true, if_false, Nat.reduceAdd, Int.reduceAdd, Int.reduceMul, Int.reducePow, Int.reduceToNat, Int.reduceNeg, decide_true, decide_false, Nat.reduceEqDiff, reduceCtorEq, Nat.zero_le, List.map_append, Int.toNat_natCast, List.length_range, List.length_append, List.length_reverse, Bool.true_or, Bool.false_or, Bool.or_false, Bool.or_true, List.headD_nil, List.tail_nil]
    | cons f r =>
      have hlt : sp' < F.length := by
        have := congrArg List.length i2
        rw [List.length_drop, List.length_cons] at this
        omega
      have hl : (sp' : Int) < (F.length : Int) := by omega
      have g := gtF hlt
      have hf : F[sp'] = f := by
        have h3 := List.drop_eq_getElem_cons hlt
        rw [i2] at h3
        exact (List.cons.inj h3).1.symm
      rw [hf] at g
      by_cases h4 : f < en
      · simp only [h4, if_true]
        by_cases h1 : u = V - ke
        · rw [if_pos h1] at hen2
          have h2 : ¬ ke + u < V := by omega
          rw [show mi2 u (f - mo) = f - mo from if_pos (by omega)]
          simp -implicitDefEqProofs (disch := (first | exact id rfl | assumption | omega | (simp only [List.length_map, List.length_append, List.length_cons, List.length_nil, List.length_range, List.length_replicate, List.length_reverse, List.length_zip, List.length_zipIdx, List.length_set, line_e]; first | done | omega))) only [l2__law_runs, h0, hu2, hen2, h2, lA, runI_call, zA, den, dens, denI, W.frz, Fw.frz, frzF, String.reduceEq, Option.isNone_none, Option.isNone_some, Option.map_some, Bool.true_and, Bool.false_and, Bool.false_eq_true, Bool.not_true, Bool.not_false, List.headD_cons, List.tail_cons, entry, List.map_cons, List.map_nil, List.cons_append, List.nil_append, List.replicate, List.length_cons, List.length_nil, List.getElem?_cons_zero, List.getElem?_cons_succ, List.getElem?_map, List.length_map, Int.reduceLT, Int.reduceLE, Nat.reduceLT, Nat.reduceLeDiff, and_self, and_true, true_and, if_true, if_false, Nat.reduceAdd, Int.reduceAdd, Int.reduceMul, Int.reducePow, Int.reduceToNat, Int.reduceNeg, decide_true, decide_false, Nat.reduceEqDiff, reduceCtorEq, Nat.zero_le, List.map_append, Int.toNat_natCast, List.length_range, List.length_append, List.length_reverse, Bool.true_or, Bool.false_or, Bool.or_false, Bool.or_true, List.headD_nil, List.tail_nil]
          rw [i3]
          simp -implicitDefEqProofs (disch := (first | exact id rfl | assumption | omega | (simp only [List.length_map, List.length_append, List.length_cons, List.length_nil, List.length_range, List.length_replicate, List.length_reverse, List.length_zip, List.length_zipIdx, List.length_set, line_e]; first | done | omega))) only [hl, g, h4, lA, runI_call, zA, den, dens, denI, W.frz, Fw.frz, frzF, String.reduceEq, Option.isNone_none, Option.isNone_some, Option.map_some, Bool.true_and, Bool.false_and, Bool.false_eq_true, Bool.not_true, Bool.not_false, List.headD_cons, List.tail_cons, entry, List.map_cons, List.map_nil, List.cons_append, List.nil_append, List.replicate, List.length_cons, List.length_nil, List.getElem?_cons_zero, List.getElem?_cons_succ, List.getElem?_map, List.length_map, Int.reduceLT, Int.reduceLE, Nat.reduceLT, Nat.reduceLeDiff, and_self, and_true, true_and, if_true, if_false, Nat.reduceAdd, Int.reduceAdd, Int.reduceMul, Int.reducePow, Int.reduceToNat, Int.reduceNeg, decide_true, decide_false, Nat.reduceEqDiff, reduceCtorEq, Nat.zero_le, List.map_append, Int.toNat_natCast, List.length_range, List.length_append, List.length_reverse, Bool.true_or, Bool.false_or, Bool.or_false, Bool.or_true, List.headD_nil, List.tail_nil]
        · rw [if_neg h1] at hen2
          have h2 : ke + u < V := by omega
          have hen3 : mo + u + c = en := by omega
          simp -implicitDefEqProofs (disch := (first | exact id rfl | assumption | omega | (simp only [List.length_map, List.length_append, List.length_cons, List.length_nil, List.length_range, List.length_replicate, List.length_reverse, List.length_zip, List.length_zipIdx, List.length_set, line_e]; first | done | omega))) only [l2__law_runs, h0, hu2, hen3, h2, lA, runI_call, zA, den, dens, denI, W.frz, Fw.frz, frzF, String.reduceEq, Option.isNone_none, Option.isNone_some, Option.map_some, Bool.true_and, Bool.false_and, Bool.false_eq_true, Bool.not_true, Bool.not_false, List.headD_cons, List.tail_cons, entry, List.map_cons, List.map_nil, List.cons_append, List.nil_append, List.replicate, List.length_cons, List.length_nil, List.getElem?_cons_zero, List.getElem?_cons_succ, List.getElem?_map, List.length_map, Int.reduceLT, Int.reduceLE, Nat.reduceLT, Nat.reduceLeDiff, and_self, and_true, true_and, if_true, if_false, Nat.reduceAdd, Int.reduceAdd, Int.reduceMul, Int.reducePow, Int.reduceToNat, Int.reduceNeg, decide_true, decide_false, Nat.reduceEqDiff, reduceCtorEq, Nat.zero_le, List.map_append, Int.toNat_natCast, List.length_range, List.length_append, List.length_reverse, Bool.true_or, Bool.false_or, Bool.or_false, Bool.or_true, List.headD_nil, List.tail_nil]
          rw [i3]
          simp -implicitDefEqProofs (disch := (first | exact id rfl | assumption | omega | (simp only [List.length_map, List.length_append, List.length_cons, List.length_nil, List.length_range, List.length_replicate, List.length_reverse, List.length_zip, List.length_zipIdx, List.length_set, line_e]; first | done | omega))) only [hl, g, h4, lA, runI_call, zA, den, dens, denI, W.frz, Fw.frz, frzF, String.reduceEq, Option.isNone_none, Option.isNone_some, Option.map_some, Bool.true_and, Bool.false_and, Bool.false_eq_true, Bool.not_true, Bool.not_false, List.headD_cons, List.tail_cons, entry, List.map_cons, List.map_nil, List.cons_append, List.nil_append, List.replicate, List.length_cons, List.length_nil, List.getElem?_cons_zero, List.getElem?_cons_succ, List.getElem?_map, List.length_map, Int.reduceLT, Int.reduceLE, Nat.reduceLT, Nat.reduceLeDiff, and_self, and_true, true_and, if_true, if_false, Nat.reduceAdd, Int.reduceAdd, Int.reduceMul, Int.reducePow, Int.reduceToNat, Int.reduceNeg, decide_true, decide_false, Nat.reduceEqDiff, reduceCtorEq, Nat.zero_le, List.map_append, Int.toNat_natCast, List.length_range, List.length_append, List.length_reverse, Bool.true_or, Bool.false_or, Bool.or_false, Bool.or_true, List.headD_nil, List.tail_nil]
          rfl
      · simp only [h4, if_false]
        by_cases h1 : u = V - ke
        · rw [if_pos h1] at hen2
          have h2 : ¬ ke + u < V := by omega
          simp -implicitDefEqProofs (disch := (first | exact id rfl | assumption | omega | (simp only [List.length_map, List.length_append, List.length_cons, List.length_nil, List.length_range, List.length_replicate, List.length_reverse, List.length_zip, List.length_zipIdx, List.length_set, line_e]; first | done | omega))) only [l2__law_runs, h0, hu2, hen2, h2, lA, runI_call, zA, den, dens, denI, W.frz, Fw.frz, frzF, String.reduceEq, Option.isNone_none, Option.isNone_some, Option.map_some, Bool.true_and, Bool.false_and, Bool.false_eq_true, Bool.not_true, Bool.not_false, List.headD_cons, List.tail_cons, entry, List.map_cons, List.map_nil, List.cons_append, List.nil_append, List.replicate, List.length_cons, List.length_nil, List.getElem?_cons_zero, List.getElem?_cons_succ, List.getElem?_map, List.length_map, Int.reduceLT, Int.reduceLE, Nat.reduceLT, Nat.reduceLeDiff, and_self, and_true, true_and, if_true, if_false, Nat.reduceAdd, Int.reduceAdd, Int.reduceMul, Int.reducePow, Int.reduceToNat, Int.reduceNeg, decide_true, decide_false, Nat.reduceEqDiff, reduceCtorEq, Nat.zero_le, List.map_append, Int.toNat_natCast, List.length_range, List.length_append, List.length_reverse, Bool.true_or, Bool.false_or, Bool.or_false, Bool.or_true, List.headD_nil, List.tail_nil]
          rw [i3]
          simp -implicitDefEqProofs (disch := (first | exact id rfl | assumption | omega | (simp only [List.length_map, List.length_append, List.length_cons, List.length_nil, List.length_range, List.length_replicate, List.length_reverse, List.length_zip, List.length_zipIdx, List.length_set, line_e]; first | done | omega))) only [hl, g, h4, lA, runI_call, zA, den, dens, denI, W.frz, Fw.frz, frzF, String.reduceEq, Option.isNone_none, Option.isNone_some, Option.map_some, Bool.true_and, Bool.false_and, Bool.false_eq_true, Bool.not_true, Bool.not_false, List.headD_cons, List.tail_cons, entry, List.map_cons, List.map_nil, List.cons_append, List.nil_append, List.replicate, List.length_cons, List.length_nil, List.getElem?_cons_zero, List.getElem?_cons_succ, List.getElem?_map, List.length_map, Int.reduceLT, Int.reduceLE, Nat.reduceLT, Nat.reduceLeDiff, and_self, and_true, true_and, if_true, if_false, Nat.reduceAdd, Int.reduceAdd, Int.reduceMul, Int.reducePow, Int.reduceToNat, Int.reduceNeg, decide_true, decide_false, Nat.reduceEqDiff, reduceCtorEq, Nat.zero_le, List.map_append, Int.toNat_natCast, List.length_range, List.length_append, List.length_reverse, Bool.true_or, Bool.false_or, Bool.or_false, Bool.or_true, List.headD_nil, List.tail_nil]
        · rw [if_neg h1] at hen2
          have h2 : ke + u < V := by omega
          have hen3 : mo + u + c = en := by omega
          simp -implicitDefEqProofs (disch := (first | exact id rfl | assumption | omega | (simp only [List.length_map, List.length_append, List.length_cons, List.length_nil, List.length_range, List.length_replicate, List.length_reverse, List.length_zip, List.length_zipIdx, List.length_set, line_e]; first | done | omega))) only [l2__law_runs, h0, hu2, hen3, h2, lA, runI_call, zA, den, dens, denI, W.frz, Fw.frz, frzF, String.reduceEq, Option.isNone_none, Option.isNone_some, Option.map_some, Bool.true_and, Bool.false_and, Bool.false_eq_true, Bool.not_true, Bool.not_false, List.headD_cons, List.tail_cons, entry, List.map_cons, List.map_nil, List.cons_append, List.nil_append, List.replicate, List.length_cons, List.length_nil, List.getElem?_cons_zero, List.getElem?_cons_succ, List.getElem?_map, List.length_map, Int.reduceLT, Int.reduceLE, Nat.reduceLT, Nat.reduceLeDiff, and_self, and_true, true_and, if_true, if_false, Nat.reduceAdd, Int.reduceAdd, Int.reduceMul, Int.reducePow, Int.reduceToNat, Int.reduceNeg, decide_true, decide_false, Nat.reduceEqDiff, reduceCtorEq, Nat.zero_le, List.map_append, Int.toNat_natCast, List.length_range, List.length_append, List.length_reverse, Bool.true_or, Bool.false_or, Bool.or_false, Bool.or_true, List.headD_nil, List.tail_nil]
          rw [i3]
          simp -implicitDefEqProofs (disch := (first | exact id rfl | assumption | omega | (simp only [List.length_map, List.length_append, List.length_cons, List.length_nil, List.length_range, List.length_replicate, List.length_reverse, List.length_zip, List.length_zipIdx, List.length_set, line_e]; first | done | omega))) only [hl, g, h4, lA, runI_call, zA, den, dens, denI, W.frz, Fw.frz, frzF, String.reduceEq, Option.isNone_none, Option.isNone_some, Option.map_some, Bool.true_and, Bool.false_and, Bool.false_eq_true, Bool.not_true, Bool.not_false, List.headD_cons, List.tail_cons, entry, List.map_cons, List.map_nil, List.cons_append, List.nil_append, List.replicate, List.length_cons, List.length_nil, List.getElem?_cons_zero, List.getElem?_cons_succ, List.getElem?_map, List.length_map, Int.reduceLT, Int.reduceLE, Nat.reduceLT, Nat.reduceLeDiff, and_self, and_true, true_and, if_true, if_false, Nat.reduceAdd, Int.reduceAdd, Int.reduceMul, Int.reducePow, Int.reduceToNat, Int.reduceNeg, decide_true, decide_false, Nat.reduceEqDiff, reduceCtorEq, Nat.zero_le, List.map_append, Int.toNat_natCast, List.length_range, List.length_append, List.length_reverse, Bool.true_or, Bool.false_or, Bool.or_false, Bool.or_true, List.headD_nil, List.tail_nil]
theorem lruns_loop (wf n : Nat) (hw : 200 ≤ wf) (V e c : Int) (F : List Int) (hF : F.length ≤ 100) {k : Nat} {s t : Sx} (h : Fin V e c k s t) : s.fs.Pairwise (· < ·) → ∀ (spot : Nat) (L : List Nat), spot ≤ F.length → (F.drop spot).dropWhile (fun x => decide (x ≤ s.mo)) = s.fs → k + 1 ≤ L.length →
    ∃ sp' a, forL (.v 8) (execs (clK Gm wf n) l2__law_runs) (L.map dn) (E__law_runs (work := some (.sh (.int V))) (every := some (.sh (.int e))) (cost := some (.sh (.int c))) (falls := some (.sh (.lst (F.map D.int)))) (time := some (.sh (.int (s.mo)))) (done := some (.sh (.int (s.ke)))) (lost := some (.sh (.int (s.lo)))) (spot := some (.sh (dn (spot))))) = .ok (.nx, (E__law_runs (work := some (.sh (.int V))) (every := some (.sh (.int e))) (cost := some (.sh (.int c))) (falls := some (.sh (.lst (F.map D.int)))) (time := some (.sh (.int (t.mo)))) (done := some (.sh (.int (t.ke)))) (lost := some (.sh (.int (t.lo)))) (spot := some (.sh (dn (sp')))) (step := some (.sh (dn a))))) := by
  induction h with
  | done s hk =>
    intro hs spot L h1 h2 h3
    cases L with
    | nil => simp at h3
    | cons a L =>
      have h0 : s.ke ≥ V := by omega
      refine ⟨spot, a, ?_⟩
      rw [List.map_cons, forL_c (ρ1 := (E__law_runs (work := some (.sh (.int V))) (every := some (.sh (.int e))) (cost := some (.sh (.int c))) (falls := some (.sh (.lst (F.map D.int)))) (time := some (.sh (.int (s.mo)))) (done := some (.sh (.int (s.ke)))) (lost := some (.sh (.int (s.lo)))) (spot := some (.sh (dn (spot)))) (step := some (.sh (dn a))))) rfl]
      have hq : execs (clK Gm wf n) l2__law_runs (E__law_runs (work := some (.sh (.int V))) (every := some (.sh (.int e))) (cost := some (.sh (.int c))) (falls := some (.sh (.lst (F.map D.int)))) (time := some (.sh (.int (s.mo)))) (done := some (.sh (.int (s.ke)))) (lost := some (.sh (.int (s.lo)))) (spot := some (.sh (dn (spot)))) (step := some (.sh (dn a)))) = .ok (.brk, (E__law_runs (work := some (.sh (.int V))) (every := some (.sh (.int e))) (cost := some (.sh (.int c))) (falls := some (.sh (.lst (F.map D.int)))) (time := some (.sh (.int (s.mo)))) (done := some (.sh (.int (s.ke)))) (lost := some (.sh (.int (s.lo)))) (spot := some (.sh (dn (spot)))) (step := some (.sh (dn a))))) := by
        simp -implicitDefEqProofs (disch := (first | exact id rfl | assumption | omega | (simp only [List.length_map, List.length_append, List.length_cons, List.length_nil, List.length_range, List.length_replicate, List.length_reverse, List.length_zip, List.length_zipIdx, List.length_set, line_e]; first | done | omega))) only [l2__law_runs, h0, lA, runI_call, zA, den, dens, denI, W.frz, Fw.frz, frzF, String.reduceEq, Option.isNone_none, Option.isNone_some, Option.map_some, Bool.true_and, Bool.false_and, Bool.false_eq_true, Bool.not_true, Bool.not_false, List.headD_cons, List.tail_cons, entry, List.map_cons, List.map_nil, List.cons_append, List.nil_append, List.replicate, List.length_cons, List.length_nil, List.getElem?_cons_zero, List.getElem?_cons_succ, List.getElem?_map, List.length_map, Int.reduceLT, Int.reduceLE, Nat.reduceLT, Nat.reduceLeDiff, and_self, and_true, true_and, if_true, if_false, Nat.reduceAdd, Int.reduceAdd, Int.reduceMul, Int.reducePow, Int.reduceToNat, Int.reduceNeg, decide_true, decide_false, Nat.reduceEqDiff, reduceCtorEq, Nat.zero_le, List.map_append, Int.toNat_natCast, List.length_range, List.length_append, List.length_reverse, Bool.true_or, Bool.false_or, Bool.or_false, Bool.or_true, List.headD_nil, List.tail_nil]
      rw [hq, kFl_brk]
  | more k s t hk hf ih =>
    intro hs spot L h1 h2 h3
    cases L with
    | nil => simp at h3
    | cons a L =>
      obtain ⟨sp1, j1, j2, j3⟩ := lrun_turn wf n hw V e c F hF s hk hs spot h1 h2 (.sh (dn a))
      obtain ⟨sp', a', hq⟩ := ih (sorted_stp hs) sp1 L j1 j2 (by simp at h3; omega)
      refine ⟨sp', a', ?_⟩
      rw [List.map_cons, forL_c (ρ1 := (E__law_runs (work := some (.sh (.int V))) (every := some (.sh (.int e))) (cost := some (.sh (.int c))) (falls := some (.sh (.lst (F.map D.int)))) (time := some (.sh (.int (s.mo)))) (done := some (.sh (.int (s.ke)))) (lost := some (.sh (.int (s.lo)))) (spot := some (.sh (dn (spot)))) (step := some (.sh (dn a))))) rfl, j3, kFl_nx]
      exact hq
theorem lruns_run (wf n : Nat) (hw : 200 ≤ wf) (V e c : Int) (hV : 0 ≤ V ∧ V ≤ 1000) (F : List Int) (hF : F.length ≤ 100) (hs : F.Pairwise (· < ·)) (hp : ∀ x ∈ F, 0 < x) {k : Nat} {t : Sx} (h : Fin V e c k ⟨0, 0, 0, F⟩ t) (hk : (k : Int) ≤ V + F.length) : run Gm wf (n+1) "_law_runs" [.sh (.int V), .sh (.int e), .sh (.int c), .sh (.lst (F.map D.int))] = .ok (.sh (.lst [.int t.mo, .int t.lo])) [.sh .non, .sh .non, .sh .non, .sh .non] := by
  have h0 : (F.drop 0).dropWhile (fun x => decide (x ≤ 0)) = F := by
    rw [List.drop_zero]
    cases F with
    | nil => rfl
    | cons a l =>
      have := hp a (by simp)
      rw [List.dropWhile_cons, if_neg (by simp; omega)]
  obtain ⟨sp', a, e1⟩ := lruns_loop wf n hw V e c F hF h hs 0 (List.range (V + (F.length : Int) + 1).toNat) (by omega) h0 (by rw [List.length_range]; omega)
  simp only [E__law_runs] at e1
  have z : dn 0 = D.int 0 := rfl
  rw [z] at e1
  rw [run_call (fd := d__law_runs) rfl rfl]
  simp -implicitDefEqProofs (disch := (first | exact id rfl | assumption | omega | (simp only [List.length_map, List.length_append, List.length_cons, List.length_nil, List.length_range, List.length_replicate, List.length_reverse, List.length_zip, List.length_zipIdx, List.length_set, line_e]; first | done | omega))) only [d__law_runs, b__law_runs, lA, runI_call, zA, den, dens, denI, W.frz, Fw.frz, frzF, String.reduceEq, Option.isNone_none, Option.isNone_some, Option.map_some, Bool.true_and, Bool.false_and, Bool.false_eq_true, Bool.not_true, Bool.not_false, List.headD_cons, List.tail_cons, entry, List.map_cons, List.map_nil, List.cons_append, List.nil_append, List.replicate, List.length_cons, List.length_nil, List.getElem?_cons_zero, List.getElem?_cons_succ, List.getElem?_map, List.length_map, Int.reduceLT, Int.reduceLE, Nat.reduceLT, Nat.reduceLeDiff, and_self, and_true, true_and, if_true, if_false, Nat.reduceAdd, Int.reduceAdd, Int.reduceMul, Int.reducePow, Int.reduceToNat, Int.reduceNeg, decide_true, decide_false, Nat.reduceEqDiff, reduceCtorEq, Nat.zero_le, List.map_append, Int.toNat_natCast, List.length_range, List.length_append, List.length_reverse, Bool.true_or, Bool.false_or, Bool.or_false, Bool.or_true, List.headD_nil, List.tail_nil]
  rw [e1]
  simp -implicitDefEqProofs (disch := (first | exact id rfl | assumption | omega | (simp only [List.length_map, List.length_append, List.length_cons, List.length_nil, List.length_range, List.length_replicate, List.length_reverse, List.length_zip, List.length_zipIdx, List.length_set, line_e]; first | done | omega))) only [lA, runI_call, zA, den, dens, denI, W.frz, Fw.frz, frzF, String.reduceEq, Option.isNone_none, Option.isNone_some, Option.map_some, Bool.true_and, Bool.false_and, Bool.false_eq_true, Bool.not_true, Bool.not_false, List.headD_cons, List.tail_cons, entry, List.map_cons, List.map_nil, List.cons_append, List.nil_append, List.replicate, List.length_cons, List.length_nil, List.getElem?_cons_zero, List.getElem?_cons_succ, List.getElem?_map, List.length_map, Int.reduceLT, Int.reduceLE, Nat.reduceLT, Nat.reduceLeDiff, and_self, and_true, true_and, if_true, if_false, Nat.reduceAdd, Int.reduceAdd, Int.reduceMul, Int.reducePow, Int.reduceToNat, Int.reduceNeg, decide_true, decide_false, Nat.reduceEqDiff, reduceCtorEq, Nat.zero_le, List.map_append, Int.toNat_natCast, List.length_range, List.length_append, List.length_reverse, Bool.true_or, Bool.false_or, Bool.or_false, Bool.or_true, List.headD_nil, List.tail_nil]
end Lw

set_option Elab.async false
set_option linter.all false
set_option maxRecDepth 100000
set_option maxHeartbeats 0
namespace Lw
open Z

structure FOk (F : List Int) : Prop where
  len : F.length ≤ 20
  srt : F.Pairwise (· < ·)
  pos : ∀ x ∈ F, 0 < x ∧ x ≤ 6000
theorem falls_run (wf n : Nat) (ds : List Int) (K : Nat) (V e c : Int) (hV : 0 ≤ V ∧ V ≤ 200) (he : 1 ≤ e ∧ e ≤ 210) (hc : 0 ≤ c ∧ c ≤ 50) : ∃ F K', FOk F ∧ run Gm wf (n+2) "_law_drawn_falls" [Hw ds K, .sh (.int V), .sh (.int e), .sh (.int c)] = .ok (.sh (.lst (F.map D.int))) [Hw ds K', .sh .non, .sh .non, .sh .non] := by
  have t0 := takeF_lt (ds := ds) (k := K) (m := 6) (by omega)
  obtain ⟨m, hm, hm2⟩ : ∃ m : Nat, getL [D.int 0, .int 1, .int 2, .int 3, .int 6, .int 20] (takeF ds K 6) = some (dn m) ∧ m ≤ 20 := by
    have : takeF ds K 6 = 0 ∨ takeF ds K 6 = 1 ∨ takeF ds K 6 = 2 ∨ takeF ds K 6 = 3 ∨ takeF ds K 6 = 4 ∨ takeF ds K 6 = 5 := by omega
    rcases this with h | h | h | h | h | h <;> rw [h]
    · exact ⟨0, rfl, by decide⟩
    · exact ⟨1, rfl, by decide⟩
    · exact ⟨2, rfl, by decide⟩
    · exact ⟨3, rfl, by decide⟩
    · exact ⟨6, rfl, by decide⟩
    · exact ⟨20, rfl, by decide⟩
  obtain ⟨ρ', lp, F, mo, K', h1, h2, h3, h4, rfl⟩ := loop_idx (t := .v 6) (b := execs (clK Gm wf (n+1)) l1__law_drawn_falls) m dn (fun j ρ => ∃ (F : List Int) (mo : Int) (K' : Nat), F.length = j ∧ F.Pairwise (· < ·) ∧ (∀ x ∈ F, 0 < x ∧ x ≤ mo) ∧ (0 ≤ mo ∧ mo ≤ 300 * j) ∧ ρ = (E__law_drawn_falls (hand := some (Hw ds (K'))) (work := some (.sh (.int V))) (every := some (.sh (.int e))) (cost := some (.sh (.int c))) (falls := some (.ol ((F).map D.int))) (moment := some (.sh (.int (mo))))))
    (fun j hj ρ ⟨F, mo, K', h1, h2, h3, h4, hρ⟩ => by
      subst hρ
      have u1 := takeF_lt (ds := ds) (k := K') (m := 4) (by omega)
      have u2 := takeF_lt (ds := ds) (k := K' + 1) (m := V + 3) (by omega)
      have u3 := takeF_lt (ds := ds) (k := K' + 1 + 1) (m := 4) (by omega)
      obtain ⟨g, hg, hg2⟩ : ∃ g : Int, getL [D.int (takeF ds K' 4), .int (takeF ds (K' + 1) (V + 3)), .int (e + c - 1), .int (e - 1)] (takeF ds (K' + 1 + 1) 4) = some (.int g) ∧ g ≤ 290 := by
        have : takeF ds (K' + 1 + 1) 4 = 0 ∨ takeF ds (K' + 1 + 1) 4 = 1 ∨ takeF ds (K' + 1 + 1) 4 = 2 ∨ takeF ds (K' + 1 + 1) 4 = 3 := by omega
        rcases this with h | h | h | h <;> rw [h]
        · exact ⟨_, rfl, by omega⟩
        · exact ⟨_, rfl, by omega⟩
        · exact ⟨_, rfl, by omega⟩
        · exact ⟨_, rfl, by omega⟩
      obtain ⟨a, ha, ha2⟩ : ∃ a : Int, (if 1 + g > 1 then 1 + g else 1) = a ∧ 1 ≤ a ∧ a ≤ 300 := ⟨_, rfl, by split <;> omega, by split <;> omega⟩
      refine ⟨_, (E__law_drawn_falls (hand := some (Hw ds (K' + 1 + 1 + 1))) (work := some (.sh (.int V))) (every := some (.sh (.int e))) (cost := some (.sh (.int c))) (falls := some (.ol ((F ++ [mo + a]).map D.int))) (moment := some (.sh (.int (mo + a))))), rfl, ?_, F ++ [mo + a], mo + a, K' + 1 + 1 + 1, by simp; omega, ?_, ?_, by omega, rfl⟩
      · simp -implicitDefEqProofs (disch := (first | exact id rfl | assumption | omega | (simp only [List.length_map, List.length_append, List.length_cons, List.length_nil, List.length_range, List.length_replicate, List.length_reverse, List.length_zip, List.length_zipIdx, List.length_set, line_e]; first | done | omega))) only [l1__law_drawn_falls, hg, ha, lA, runI_call, zA, den, dens, denI, W.frz, Fw.frz, frzF, String.reduceEq, Option.isNone_none, Option.isNone_some, Option.map_some, Bool.true_and, Bool.false_and, Bool.false_eq_true, Bool.not_true, Bool.not_false, List.headD_cons, List.tail_cons, entry, List.map_cons, List.map_nil, List.cons_append, List.nil_append, List.replicate, List.length_cons, List.length_nil, List.getElem?_cons_zero, List.getElem?_cons_succ, List.getElem?_map, List.length_map, Int.reduceLT, Int.reduceLE, Nat.reduceLT, Nat.reduceLeDiff, and_self, and_true, true_and, if_true, if_false, Nat.reduceAdd, Int.reduceAdd, Int.reduceMul, Int.reducePow, Int.reduceToNat, Int.reduceNeg, decide_true, decide_false, Nat.reduceEqDiff, reduceCtorEq, Nat.zero_le, List.map_append, Int.toNat_natCast, List.length_range, List.length_append, List.length_reverse, Bool.true_or, Bool.false_or, Bool.or_false, Bool.or_true, List.headD_nil, List.tail_nil]
      · rw [List.pairwise_append]
        refine ⟨h2, by simp, fun x hx y hy => ?_⟩
        rw [List.mem_singleton.mp hy]
        have := h3 x hx
        omega
      · intro x hx
        rcases List.mem_append.mp hx with hx | hx
        · have := h3 x hx; omega
        · rw [List.mem_singleton.mp hx]; omega) (E__law_drawn_falls (hand := some (Hw ds (K + 1))) (work := some (.sh (.int V))) (every := some (.sh (.int e))) (cost := some (.sh (.int c))) (falls := some (.ol (([]).map D.int))) (moment := some (.sh (.int (0))))) ⟨[], 0, K + 1, rfl, List.Pairwise.nil, fun x hx => absurd hx (by simp), by omega, rfl⟩
  simp only [E__law_drawn_falls, List.map_nil] at lp
  refine ⟨F, K', ⟨by omega, h2, fun x hx => by have := h3 x hx; omega⟩, ?_⟩
  rw [run_call (fd := d__law_drawn_falls) rfl rfl]
  simp -implicitDefEqProofs (disch := (first | exact id rfl | assumption | omega | (simp only [List.length_map, List.length_append, List.length_cons, List.length_nil, List.length_range, List.length_replicate, List.length_reverse, List.length_zip, List.length_zipIdx, List.length_set, line_e]; first | done | omega))) only [d__law_drawn_falls, b__law_drawn_falls, hm, lA, runI_call, zA, den, dens, denI, W.frz, Fw.frz, frzF, String.reduceEq, Option.isNone_none, Option.isNone_some, Option.map_some, Bool.true_and, Bool.false_and, Bool.false_eq_true, Bool.not_true, Bool.not_false, List.headD_cons, List.tail_cons, entry, List.map_cons, List.map_nil, List.cons_append, List.nil_append, List.replicate, List.length_cons, List.length_nil, List.getElem?_cons_zero, List.getElem?_cons_succ, List.getElem?_map, List.length_map, Int.reduceLT, Int.reduceLE, Nat.reduceLT, Nat.reduceLeDiff, and_self, and_true, true_and, if_true, if_false, Nat.reduceAdd, Int.reduceAdd, Int.reduceMul, Int.reducePow, Int.reduceToNat, Int.reduceNeg, decide_true, decide_false, Nat.reduceEqDiff, reduceCtorEq, Nat.zero_le, List.map_append, Int.toNat_natCast, List.length_range, List.length_append, List.length_reverse, Bool.true_or, Bool.false_or, Bool.or_false, Bool.or_true, List.headD_nil, List.tail_nil]
  rw [lp]
  simp -implicitDefEqProofs (disch := (first | exact id rfl | assumption | omega | (simp only [List.length_map, List.length_append, List.length_cons, List.length_nil, List.length_range, List.length_replicate, List.length_reverse, List.length_zip, List.length_zipIdx, List.length_set, line_e]; first | done | omega))) only [lA, runI_call, zA, den, dens, denI, W.frz, Fw.frz, frzF, String.reduceEq, Option.isNone_none, Option.isNone_some, Option.map_some, Bool.true_and, Bool.false_and, Bool.false_eq_true, Bool.not_true, Bool.not_false, List.headD_cons, List.tail_cons, entry, List.map_cons, List.map_nil, List.cons_append, List.nil_append, List.replicate, List.length_cons, List.length_nil, List.getElem?_cons_zero, List.getElem?_cons_succ, List.getElem?_map, List.length_map, Int.reduceLT, Int.reduceLE, Nat.reduceLT, Nat.reduceLeDiff, and_self, and_true, true_and, if_true, if_false, Nat.reduceAdd, Int.reduceAdd, Int.reduceMul, Int.reducePow, Int.reduceToNat, Int.reduceNeg, decide_true, decide_false, Nat.reduceEqDiff, reduceCtorEq, Nat.zero_le, List.map_append, Int.toNat_natCast, List.length_range, List.length_append, List.length_reverse, Bool.true_or, Bool.false_or, Bool.or_false, Bool.or_true, List.headD_nil, List.tail_nil]
/-- bounds -/
theorem fin_bd {V e c : Int} (he : 1 ≤ e) (hc : 0 ≤ c ∧ c ≤ 50) (hV : V ≤ 200) {k : Nat} {s t : Sx} (h : Fin V e c k s t) : ∀ j : Nat, j + k ≤ 300 → 0 ≤ s.ke → (0 ≤ s.mo ∧ s.mo ≤ 6000 + 300 * j) → (-(200000 * j) ≤ s.lo ∧ s.lo ≤ 300 * j) → (∀ x ∈ s.fs, 0 < x ∧ x ≤ 6000) → (0 ≤ t.mo ∧ t.mo ≤ 100000) ∧ (-100000000 ≤ t.lo ∧ t.lo ≤ 100000) := by
  induction h with
  | done s hk =>
    intro j hj _ h1 h2 _
    omega
  | more k s t hk hf ih =>
    intro j hj h0 h1 h2 h3
    have hu : 1 ≤ uni V e s ∧ uni V e s ≤ 200 := by unfold uni; split <;> omega
    have hen : 0 ≤ enx V e c s ∧ enx V e c s ≤ s.mo + 250 := by unfold enx; split <;> omega
    have hst : 0 ≤ (stp V e c s).ke ∧ (0 ≤ (stp V e c s).mo ∧ (stp V e c s).mo ≤ 6000 + 300 * ((j + 1 : Nat) : Int)) ∧ (-(200000 * ((j + 1 : Nat) : Int)) ≤ (stp V e c s).lo ∧ (stp V e c s).lo ≤ 300 * ((j + 1 : Nat) : Int)) ∧ ∀ x ∈ (stp V e c s).fs, 0 < x ∧ x ≤ 6000 := by
      unfold stp
      cases hfs : s.fs with
      | nil =>
        refine ⟨?_, ?_, ?_, fun x hx => absurd hx (by simp)⟩
        · show 0 ≤ s.ke + uni V e s; omega
        · show 0 ≤ enx V e c s ∧ enx V e c s ≤ _; omega
        · show _ ≤ s.lo ∧ s.lo ≤ _; omega
      | cons f r =>
        rw [hfs] at h3
        have hf := h3 f (by simp)
        simp only []
        split
        · refine ⟨h0, ?_, ?_, fun x hx => h3 x (by simp [hx])⟩
          · show 0 ≤ f ∧ f ≤ _; omega
          · show _ ≤ s.lo + mi2 (uni V e s) (f - s.mo) ∧ s.lo + mi2 (uni V e s) (f - s.mo) ≤ _
            unfold mi2
            split <;> omega
        · refine ⟨?_, ?_, ?_, fun x hx => h3 x ((List.dropWhile_sublist (fun x => decide (x ≤ enx V e c s))).subset hx)⟩
          · show 0 ≤ s.ke + uni V e s; omega
          · show 0 ≤ enx V e c s ∧ enx V e c s ≤ _; omega
          · show _ ≤ s.lo ∧ s.lo ≤ _; omega
    exact ih (j + 1) (by omega) hst.1 hst.2.1 hst.2.2.1 hst.2.2.2
/-- without falls -/
theorem fin_free {V e c : Int} (he : 1 ≤ e) {k : Nat} {s t : Sx} (h : Fin V e c k s t) : s.fs = [] → s.ke < V → t.mo = s.mo + (V - s.ke) + c * ((V - s.ke - 1) / e) := by
  induction h with
  | done s hk => intro _ h; exact absurd h hk
  | more k s t hk hf ih =>
    intro hfs _
    have es : stp V e c s = ⟨enx V e c s, s.ke + uni V e s, s.lo, []⟩ := by unfold stp; rw [hfs]
    by_cases h1 : e < V - s.ke
    · have hu : uni V e s = e := if_pos h1
      have hen : enx V e c s = s.mo + (e + c) := by unfold enx; rw [hu, if_neg (by omega)]
      rw [hu, hen] at es
      have := ih (by rw [es]) (by rw [es]; show s.ke + e < V; omega)
      rw [es] at this
      simp only at this
      rw [this]
      have q : (V - s.ke - 1) / e = (V - (s.ke + e) - 1) / e + 1 := by
        have e1 : V - s.ke - 1 = (V - (s.ke + e) - 1) + 1 * e := by omega
        rw [e1, Int.add_mul_ediv_right _ _ (by omega)]
      rw [q, Int.mul_add, Int.mul_one]
      omega
    · have hu : uni V e s = V - s.ke := if_neg h1
      have hen : enx V e c s = s.mo + (V - s.ke) := by unfold enx; rw [hu, if_pos rfl]
      rw [hu, hen] at es
      have q : (V - s.ke - 1) / e = 0 := Int.ediv_eq_zero_of_lt (by omega) (by omega)
      rw [q, Int.mul_zero]
      rw [es] at hf
      cases hf with
      | done _ _ => show s.mo + (V - s.ke) = _; omega
      | more _ _ _ hk2 _ => exact absurd hk2 (by show ¬ s.ke + (V - s.ke) < V; omega)
end Lw

set_option Elab.async false
set_option linter.all false
set_option maxRecDepth 100000
set_option maxHeartbeats 0
namespace Lw
open Z

abbrev pI (x : Int × Int) : D := .tup [.int x.1, .int x.2]
def ltI (x y : Int × Int) : Bool := decide (x.1 < y.1 ∨ (x.1 = y.1 ∧ x.2 < y.2))
def mnI (x : Int × Int) (l : List (Int × Int)) : Int × Int := l.foldl (fun a y => if ltI y a then y else a) x
abbrev qI (x : Int × Int) : PySem.PyData := .tuple [.int x.1, .int x.2]
theorem toPs_I (l : List (Int × Int)) : toPs (l.map pI) = some (l.map qI) := by
  induction l with
  | nil => rfl
  | cons x l ih =>
    rw [List.map_cons]
    unfold toPs
    rw [ih]; rfl
theorem minD_I : ∀ (l : List (Int × Int)) (x : Int × Int), PySem.W.minD (qI x) (l.map qI) = qI (mnI x l) := by
  intro l
  induction l with
  | nil => intro x; rfl
  | cons a l ih =>
    intro x
    unfold PySem.W.minD mnI
    rw [List.map_cons, List.foldl_cons, List.foldl_cons, PySem.W.dataLt_ii]
    cases e : ltI a x with
    | true =>
      have e2 : decide (a.1 < x.1 ∨ (a.1 = x.1 ∧ a.2 < x.2)) = true := e
      rw [e2]
      exact ih a
    | false =>
      have e2 : decide (a.1 < x.1 ∨ (a.1 = x.1 ∧ a.2 < x.2)) = false := e
      rw [e2]
      exact ih x
theorem dep_I (l : List (Int × Int)) : PySem.PyData.depthAll (l.map qI) ≤ 1 := by
  induction l with
  | nil => simp [PySem.PyData.depthAll]
  | cons x l ih =>
    rw [List.map_cons]
    simp [PySem.PyData.depthAll, PySem.PyData.depth]
    omega
theorem minO_I (x : Int × Int) (l : List (Int × Int)) : minO (pI x :: l.map pI) = some (pI (mnI x l)) := by
  have e : minO ((x :: l).map pI) = some (pI (mnI x l)) := by
    unfold minO
    rw [toPs_I]
    simp only [List.map_cons]
    have h1 : allAlike (qI x :: l.map qI) = true := by
      unfold allAlike
      rw [← List.map_cons, List.all_eq_true]
      intro a ha
      obtain ⟨a, _, rfl⟩ := List.mem_map.mp ha
      rw [List.all_eq_true]
      intro b hb
      obtain ⟨b, _, rfl⟩ := List.mem_map.mp hb
      simp [PySem.W.alike, PySem.W.alikeAll]
    have h2 : (qI x :: l.map qI).all notNone = true := by
      rw [← List.map_cons, List.all_eq_true]
      intro a ha
      obtain ⟨b, _, rfl⟩ := List.mem_map.mp ha
      rfl
    have h3 : PySem.PyData.depthAll (qI x :: l.map qI) ≤ 56 := by
      have := dep_I (x :: l)
      rw [List.map_cons] at this
      omega
    rw [h1, h2, decide_eq_true h3, minD_I]
    rfl
  exact e
theorem mnI_ok : ∀ (l : List (Int × Int)) (x : Int × Int), (mnI x l = x ∨ mnI x l ∈ l) ∧ ∀ y, (y = x ∨ y ∈ l) → (mnI x l).1 < y.1 ∨ ((mnI x l).1 = y.1 ∧ (mnI x l).2 ≤ y.2)
  | [], x => ⟨.inl rfl, fun y hy => by
    rcases hy with rfl | hy
    · exact .inr ⟨rfl, Int.le_refl _⟩
    · simp at hy⟩
  | a :: l, x => by
    have e : mnI x (a :: l) = mnI (if ltI a x then a else x) l := rfl
    obtain ⟨h1, h2⟩ := mnI_ok l (if ltI a x then a else x)
    rw [e]
    have key : ∀ z, z = a ∨ z = x → ((if ltI a x then a else x).1 < z.1 ∨ ((if ltI a x then a else x).1 = z.1 ∧ (if ltI a x then a else x).2 ≤ z.2)) := fun z hz => by
      unfold ltI
      by_cases hc : a.1 < x.1 ∨ (a.1 = x.1 ∧ a.2 < x.2)
      · rw [decide_eq_true hc]
        simp only [if_true]
        rcases hz with rfl | rfl <;> omega
      · rw [decide_eq_false hc]
        simp only [Bool.false_eq_true, if_false]
        rcases hz with rfl | rfl <;> omega
    refine ⟨?_, fun y hy => ?_⟩
    · rcases h1 with h1 | h1
      · rw [h1]
        split
        · exact .inr (by simp)
        · exact .inl rfl
      · exact .inr (by simp [h1])
    · have h0 := h2 _ (.inl rfl)
      rcases hy with rfl | hy
      · have := key _ (.inr rfl); omega
      · rcases List.mem_cons.mp hy with rfl | hy
        · have := key _ (.inl rfl); omega
        · exact h2 y (.inr hy)
theorem minI_ok : ∀ (l : List Int) (x : Int), (minI x l = x ∨ minI x l ∈ l) ∧ minI x l ≤ x ∧ ∀ y ∈ l, minI x l ≤ y
  | [], x => ⟨.inl rfl, Int.le_refl _, fun y hy => absurd hy (by simp)⟩
  | a :: l, x => by
    have e : minI x (a :: l) = minI (if a < x then a else x) l := rfl
    obtain ⟨h1, h2, h3⟩ := minI_ok l (if a < x then a else x)
    rw [e]
    have h4 : (if a < x then a else x) ≤ a ∧ (if a < x then a else x) ≤ x := by split <;> omega
    refine ⟨?_, by omega, fun y hy => ?_⟩
    · rcases h1 with h1 | h1
      · rw [h1]
        split
        · exact .inr (by simp)
        · exact .inl rfl
      · exact .inr (by simp [h1])
    · rcases List.mem_cons.mp hy with rfl | hy
      · omega
      · exact h3 y hy
/-- the least pair is the least time at its first place -/
theorem least_pair (T : Nat → Int) (N : Nat) : ∃ m, mnI (T 0, 1) ((List.range N).map fun k => (T (k + 1), 1 + ((k + 1 : Nat) : Int))) = (m, 1 + ((((List.range (N + 1)).map T).idxOf m : Nat) : Int)) ∧ minI (T 0) ((List.range N).map fun k => T (k + 1)) = m ∧ m ∈ (List.range (N + 1)).map T := by
  obtain ⟨h1, h2⟩ := mnI_ok ((List.range N).map fun k => (T (k + 1), 1 + ((k + 1 : Nat) : Int))) (T 0, 1)
  obtain ⟨g1, g2, g3⟩ := minI_ok ((List.range N).map fun k => T (k + 1)) (T 0)
  generalize mnI (T 0, 1) ((List.range N).map fun k => (T (k + 1), 1 + ((k + 1 : Nat) : Int))) = r at *
  generalize minI (T 0) ((List.range N).map fun k => T (k + 1)) = m at *
  obtain ⟨k, hk, rfl⟩ : ∃ k, k < N + 1 ∧ r = (T k, 1 + (k : Int)) := by
    rcases h1 with h1 | h1
    · exact ⟨0, by omega, by rw [h1]; rfl⟩
    · obtain ⟨k, hk, rfl⟩ := List.mem_map.mp h1
      exact ⟨k + 1, by have := List.mem_range.mp hk; omega, rfl⟩
  have h3 : ∀ j, j < N + 1 → T k < T j ∨ (T k = T j ∧ (k : Int) ≤ j) := fun j hj => by
    cases j with
    | zero =>
      have := h2 (T 0, 1) (.inl rfl)
      simp only at this
      omega
    | succ j =>
      have := h2 (T (j + 1), 1 + ((j + 1 : Nat) : Int)) (.inr (List.mem_map.mpr ⟨j, List.mem_range.mpr (by omega), rfl⟩))
      simp only at this
      omega
  have g4 : ∀ j, j < N + 1 → m ≤ T j := fun j hj => by
    cases j with
    | zero => exact g2
    | succ j => exact g3 _ (List.mem_map.mpr ⟨j, List.mem_range.mpr (by omega), rfl⟩)
  have hm : m = T k := by
    have a1 := g4 k hk
    rcases g1 with g1 | g1
    · have := h3 0 (by omega); omega
    · obtain ⟨j, hj, hj2⟩ := List.mem_map.mp g1
      have := h3 (j + 1) (by have := List.mem_range.mp hj; omega)
      omega
  have hi : ((List.range (N + 1)).map T).idxOf m = k := by
    have hl : k < ((List.range (N + 1)).map T).length := by simpa using hk
    unfold List.idxOf
    rw [List.findIdx_eq hl]
    refine ⟨by simp [hm], fun j hj => ?_⟩
    have := h3 j (by omega)
    simp only [List.getElem_map, List.getElem_range]
    rw [hm]
    have hne : T j ≠ T k := by omega
    simpa using hne
  refine ⟨m, ?_, rfl, ?_⟩
  · rw [hi, hm]
  · rw [hm]; exact List.mem_map.mpr ⟨k, List.mem_range.mpr hk, rfl⟩
end Lw

set_option Elab.async false
set_option linter.all false
set_option maxRecDepth 100000
set_option maxHeartbeats 0
namespace Lw
open Z

theorem t_all (N : Nat) (c : Int) (F : List Int) : ∃ T : Nat → Int, ∀ k : Nat, ∃ n t, Fin (N : Int) (1 + (k : Int)) c n ⟨0, 0, 0, F⟩ t ∧ n ≤ N + F.length ∧ t.mo = T k := by
  have h : ∀ k : Nat, ∃ v : Int, ∃ n t, Fin (N : Int) (1 + (k : Int)) c n ⟨0, 0, 0, F⟩ t ∧ n ≤ N + F.length ∧ t.mo = v := fun k => by
    obtain ⟨n, t, h1, h2⟩ := fin_ex (N : Int) (1 + (k : Int)) c (by omega) (N + F.length) ⟨0, 0, 0, F⟩ (by show ((N : Int) - 0).toNat + F.length ≤ _; omega)
    exact ⟨t.mo, n, t, h1, h2, rfl⟩
  exact ⟨fun k => Classical.choose (h k), fun k => Classical.choose_spec (h k)⟩
theorem range_cons {α : Type} (f : Nat → α) (M : Nat) : (List.range (M + 1)).map f = f 0 :: (List.range M).map fun k => f (k + 1) := by
  rw [List.range_succ_eq_map, List.map_cons, List.map_map]; rfl
theorem least_run (wf n : Nat) (hw : 300 ≤ wf) (M : Nat) (hM : M ≤ 25) (c : Int) (b : Bool) (F : List Int) (hF : FOk F) (T : Nat → Int) (hT : ∀ k : Nat, ∃ n t, Fin ((M + 1 : Nat) : Int) (1 + (k : Int)) c n ⟨0, 0, 0, F⟩ t ∧ n ≤ M + 1 + F.length ∧ t.mo = T k) (m : Int)
    (hm : mnI (T 0, 1) ((List.range M).map fun k => (T (k + 1), 1 + ((k + 1 : Nat) : Int))) = (m, 1 + ((((List.range (M + 1)).map T).idxOf m : Nat) : Int))) :
    run Gm wf (n+6) "least_every" [.sh (.int ((M + 1 : Nat) : Int)), .sh (.int c), .sh (sqI b F)] = .ok (.sh (.int (1 + ((((List.range (M + 1)).map T).idxOf m : Nat) : Int)))) [.sh .non, .sh .non, .sh .non] := by
  have hl := hF.len
  have a1 : (((M + 1 : Nat) : Int) + 1 - 1).toNat = M + 1 := by omega
  have e1 : biO .min1 [.lst ((List.range (M + 1)).map fun k => pI (T k, 1 + (k : Int)))] = .ok (.sh (pI (m, 1 + ((((List.range (M + 1)).map T).idxOf m : Nat) : Int)))) := by
    rw [range_cons, min1_l]
    have z : intsOf (pI (T 0, 1 + ((0 : Nat) : Int)) :: (List.range M).map fun k => pI (T (k + 1), 1 + ((k + 1 : Nat) : Int))) = none := rfl
    rw [z, kMin1_n]
    have z2 : (List.range M).map (fun k => pI (T (k + 1), 1 + ((k + 1 : Nat) : Int))) = ((List.range M).map fun k => (T (k + 1), 1 + ((k + 1 : Nat) : Int))).map pI := by rw [List.map_map]; rfl
    have z3 := minO_I (T 0, 1) ((List.range M).map fun k => (T (k + 1), 1 + ((k + 1 : Nat) : Int)))
    rw [hm, ← z2] at z3
    have z3 : minO (pI (T 0, 1 + ((0 : Nat) : Int)) :: (List.range M).map fun k => pI (T (k + 1), 1 + ((k + 1 : Nat) : Int))) = _ := z3
    rw [z3]; rfl
  have g1 : ∀ a b : D, getL [a, b] 1 = some b := fun _ _ => rfl
  rw [run_call (fd := d_least_every) rfl rfl]
  simp -implicitDefEqProofs (disch := (first | exact id rfl | assumption | omega | (simp only [List.length_map, List.length_append, List.length_cons, List.length_nil, List.length_range, List.length_replicate, List.length_reverse, List.length_zip, List.length_zipIdx, List.length_set, line_e]; first | done | omega))) only [d_least_every, b_least_every, a1, lA, runI_call, zA, den, dens, denI, W.frz, Fw.frz, frzF, String.reduceEq, Option.isNone_none, Option.isNone_some, Option.map_some, Bool.true_and, Bool.false_and, Bool.false_eq_true, Bool.not_true, Bool.not_false, List.headD_cons, List.tail_cons, entry, List.map_cons, List.map_nil, List.cons_append, List.nil_append, List.replicate, List.length_cons, List.length_nil, List.getElem?_cons_zero, List.getElem?_cons_succ, List.getElem?_map, List.length_map, Int.reduceLT, Int.reduceLE, Nat.reduceLT, Nat.reduceLeDiff, and_self, and_true, true_and, if_true, if_false, Nat.reduceAdd, Int.reduceAdd, Int.reduceMul, Int.reducePow, Int.reduceToNat, Int.reduceNeg, decide_true, decide_false, Nat.reduceEqDiff, reduceCtorEq, Nat.zero_le, List.map_append, Int.toNat_natCast, List.length_range, List.length_append, List.length_reverse, Bool.true_or, Bool.false_or, Bool.or_false, Bool.or_true, List.headD_nil, List.tail_nil]
  rw [comp_m (List.range (M + 1)) (fun k : Nat => D.int (1 + (k : Int))) (fun k => pI (T k, 1 + (k : Int))) _ (fun k hk => ⟨_, rfl, ?_⟩) rfl]
  rotate_left
  · obtain ⟨j, t, h1, h2, h3⟩ := hT k
    have e2 := time_run wf n ((M + 1 : Nat) : Int) (1 + (k : Int)) c (by omega) b F h1 (by omega) (by omega)
    rw [h3] at e2
    simp -implicitDefEqProofs (disch := (first | exact id rfl | assumption | omega | (simp only [List.length_map, List.length_append, List.length_cons, List.length_nil, List.length_range, List.length_replicate, List.length_reverse, List.length_zip, List.length_zipIdx, List.length_set, line_e]; first | done | omega))) only [e2, lA, runI_call, zA, den, dens, denI, W.frz, Fw.frz, frzF, String.reduceEq, Option.isNone_none, Option.isNone_some, Option.map_some, Bool.true_and, Bool.false_and, Bool.false_eq_true, Bool.not_true, Bool.not_false, List.headD_cons, List.tail_cons, entry, List.map_cons, List.map_nil, List.cons_append, List.nil_append, List.replicate, List.length_cons, List.length_nil, List.getElem?_cons_zero, List.getElem?_cons_succ, List.getElem?_map, List.length_map, Int.reduceLT, Int.reduceLE, Nat.reduceLT, Nat.reduceLeDiff, and_self, and_true, true_and, if_true, if_false, Nat.reduceAdd, Int.reduceAdd, Int.reduceMul, Int.reducePow, Int.reduceToNat, Int.reduceNeg, decide_true, decide_false, Nat.reduceEqDiff, reduceCtorEq, Nat.zero_le, List.map_append, Int.toNat_natCast, List.length_range, List.length_append, List.length_reverse, Bool.true_or, Bool.false_or, Bool.or_false, Bool.or_true, List.headD_nil, List.tail_nil]
  simp -implicitDefEqProofs (disch := (first | exact id rfl | assumption | omega | (simp only [List.length_map, List.length_append, List.length_cons, List.length_nil, List.length_range, List.length_replicate, List.length_reverse, List.length_zip, List.length_zipIdx, List.length_set, line_e]; first | done | omega))) only [e1, g1, lA, runI_call, zA, den, dens, denI, W.frz, Fw.frz, frzF, String.reduceEq, Option.isNone_none, Option.isNone_some, Option.map_some, Bool.true_and, Bool.false_and, Bool.false_eq_true, Bool.not_true, Bool.not_false, List.headD_cons, List.tail_cons, entry, List.map_cons, List.map_nil, List.cons_append, List.nil_append, List.replicate, List.length_cons, List.length_nil, List.getElem?_cons_zero, List.getElem?_cons_succ, List.getElem?_map, List.length_map, Int.reduceLT, Int.reduceLE, Nat.reduceLT, Nat.reduceLeDiff, and_self, and_true, true_and, if_true, if_false, Nat.reduceAdd, Int.reduceAdd, Int.reduceMul, Int.reducePow, Int.reduceToNat, Int.reduceNeg, decide_true, decide_false, Nat.reduceEqDiff, reduceCtorEq, Nat.zero_le, List.map_append, Int.toNat_natCast, List.length_range, List.length_append, List.length_reverse, Bool.true_or, Bool.false_or, Bool.or_false, Bool.or_true, List.headD_nil, List.tail_nil]
theorem F_pd {F : List Int} (hF : FOk F) : Pd (.lst (F.map D.int)) := by
  have h1 : Prs 0 (F.length * 41) (F.map D.int) := Pr.ints _ fun i hi => by have := hF.pos i hi; omega
  have := hF.len
  exact (Pr.lst _ h1).mono (by decide) (by omega)
end Lw

set_option Elab.async false
set_option linter.all false
set_option maxRecDepth 100000
set_option maxHeartbeats 0
namespace Lw
open Z

theorem k_turn (ns ds : List Int) (K : Nat) (st : D) : ∃ K', execs (clK Gm 400 29) l1_law (E_law (script := some (.sh (.lst (ns.map D.int)))) (hand := some (Hw ds (K))) (k := some (.sh st))) = .ok (.nx, (E_law (script := some (.sh (.lst (ns.map D.int)))) (hand := some (Hw ds (K'))))) := by
  have u1 := takeF_lt (ds := ds) (k := K) (m := 12) (by omega)
  have u2 := takeF_lt (ds := ds) (k := K + 1) (m := 201) (by omega)
  have u3 := takeF_lt (ds := ds) (k := K + 1 + 1) (m := 2) (by omega)
  obtain ⟨V, gV, hV⟩ : ∃ V : Nat, getL [D.int (takeF ds K 12), .int (takeF ds (K + 1) 201)] (takeF ds (K + 1 + 1) 2) = some (.int (V : Int)) ∧ V ≤ 200 := by
    have : takeF ds (K + 1 + 1) 2 = 0 ∨ takeF ds (K + 1 + 1) 2 = 1 := by omega
    rcases this with h | h <;> rw [h]
    · exact ⟨(takeF ds K 12).toNat, by show some _ = some _; congr 2; omega, by omega⟩
    · exact ⟨(takeF ds (K + 1) 201).toNat, by show some _ = some _; congr 2; omega, by omega⟩
  have v1 := takeF_lt (ds := ds) (k := K + 1 + 1 + 1) (m := 5) (by omega)
  have v2 := takeF_lt (ds := ds) (k := K + 1 + 1 + 1 + 1) (m := (V : Int) + 2) (by omega)
  have v3 := takeF_lt (ds := ds) (k := K + 1 + 1 + 1 + 1 + 1) (m := 2) (by omega)
  obtain ⟨e0, ge, he⟩ : ∃ e0 : Int, getL [D.int (takeF ds (K + 1 + 1 + 1) 5), .int (takeF ds (K + 1 + 1 + 1 + 1) ((V : Int) + 2))] (takeF ds (K + 1 + 1 + 1 + 1 + 1) 2) = some (.int e0) ∧ 0 ≤ e0 ∧ e0 ≤ 202 := by
    have : takeF ds (K + 1 + 1 + 1 + 1 + 1) 2 = 0 ∨ takeF ds (K + 1 + 1 + 1 + 1 + 1) 2 = 1 := by omega
    rcases this with h | h <;> rw [h]
    · exact ⟨_, rfl, by omega⟩
    · exact ⟨_, rfl, by omega⟩
  obtain ⟨e, hee⟩ : ∃ e, 1 + e0 = e := ⟨_, rfl⟩
  have w1 := takeF_lt (ds := ds) (k := K + 1 + 1 + 1 + 1 + 1 + 1) (m := 4) (by omega)
  have w2 := takeF_lt (ds := ds) (k := K + 1 + 1 + 1 + 1 + 1 + 1 + 1) (m := 51) (by omega)
  have w3 := takeF_lt (ds := ds) (k := K + 1 + 1 + 1 + 1 + 1 + 1 + 1 + 1) (m := 3) (by omega)
  obtain ⟨c, gc, hc⟩ : ∃ c : Int, getL [D.int (takeF ds (K + 1 + 1 + 1 + 1 + 1 + 1) 4), .int (takeF ds (K + 1 + 1 + 1 + 1 + 1 + 1 + 1) 51), .int 0] (takeF ds (K + 1 + 1 + 1 + 1 + 1 + 1 + 1 + 1) 3) = some (.int c) ∧ 0 ≤ c ∧ c ≤ 50 := by
    have : takeF ds (K + 1 + 1 + 1 + 1 + 1 + 1 + 1 + 1) 3 = 0 ∨ takeF ds (K + 1 + 1 + 1 + 1 + 1 + 1 + 1 + 1) 3 = 1 ∨ takeF ds (K + 1 + 1 + 1 + 1 + 1 + 1 + 1 + 1) 3 = 2 := by omega
    rcases this with h | h | h <;> rw [h]
    · exact ⟨_, rfl, by omega⟩
    · exact ⟨_, rfl, by omega⟩
    · exact ⟨0, rfl, by omega⟩
  obtain ⟨K3, hK3⟩ : ∃ K3, K + 1 + 1 + 1 + 1 + 1 + 1 + 1 + 1 + 1 = K3 := ⟨_, rfl⟩
  obtain ⟨F, K4, hF, e1⟩ := falls_run 400 27 ds K3 (V : Int) e c (by omega) (by omega) hc
  have hFl := hF.len
  have x3 := takeF_lt (ds := ds) (k := K4) (m := 2) (by omega)
  obtain ⟨b, gb⟩ : ∃ b : Bool, getL [D.lst (F.map D.int), .tup (F.map D.int)] (takeF ds K4 2) = some (sqI b F) := by
    have : takeF ds K4 2 = 0 ∨ takeF ds K4 2 = 1 := by omega
    rcases this with h | h <;> rw [h]
    · exact ⟨false, rfl⟩
    · exact ⟨true, rfl⟩
  obtain ⟨k1, t1, f1, f2⟩ := fin_ex (V : Int) e c (by omega) (V + F.length) ⟨0, 0, 0, F⟩ (by show ((V : Int) - 0).toNat + F.length ≤ _; omega)
  have hp : ∀ x ∈ F, 0 < x := fun x hx => (hF.pos x hx).1
  have r1 := lruns_run 400 28 (by decide) (V : Int) e c (by omega) F (by omega) hF.srt hp f1 (by omega)
  have r2 := time_run 400 24 (V : Int) e c (by decide) b F f1 (by omega) (by omega)
  have r3 := again_run 400 24 (V : Int) e c (by decide) b F f1 (by omega) (by omega)
  obtain ⟨b1, b2⟩ := fin_bd (by omega) hc (by omega) f1 0 (by omega) (by show (0 : Int) ≤ 0; omega) (by show (0 : Int) ≤ 0 ∧ (0 : Int) ≤ _; omega) (by show _ ≤ (0 : Int) ∧ (0 : Int) ≤ _; omega) hF.pos
  have p1 : Pd (.int t1.mo) := .int _ (by omega) (by omega)
  have p2 : Pd (.int t1.lo) := .int _ (by omega) (by omega)
  have q1 := repr_run p1
  have q2 := eqO_same p1
  have q3 := repr_run p2
  have q4 := eqO_same p2
  have q5 := eqO_refl (F_pd hF)
  have l1 : biO .list [sqI b F] = .ok (.ol (F.map D.int)) := by cases b <;> rfl
  -- without falls
  obtain ⟨k2, t2, f3, f4⟩ := fin_ex (V : Int) e c (by omega) V ⟨0, 0, 0, []⟩ (by show ((V : Int) - 0).toNat + 0 ≤ _; omega)
  have r4 := time_run 400 24 (V : Int) e c (by decide) false [] f3 (by decide) (by omega)
  have r4 : run Gm 400 29 "time_with_falls" [.sh (.int (V : Int)), .sh (.int e), .sh (.int c), .sh (.lst [])] = .ok (.sh (.int t2.mo)) [.sh .non, .sh .non, .sh .non, .sh .non] := r4
  -- the least
  obtain ⟨M, hM⟩ : ∃ M : Nat, (V : Int) % 25 = (M : Int) := ⟨V % 25, by simp⟩
  have hM2 : M ≤ 24 := by omega
  have hM3 : 1 + (M : Int) = ((M + 1 : Nat) : Int) := by omega
  obtain ⟨T, hT⟩ := t_all (M + 1) c F
  obtain ⟨m, m1, m2, m3⟩ := least_pair T M
  have r5 := least_run 400 23 (by decide) M (by omega) c b F hF T hT m m1
  have a1 : (((M + 1 : Nat) : Int) + 1 - 1).toNat = M + 1 := by omega
  have i1 := idx_ints m3
  have i2 : ((List.range (M + 1)).map T).map D.int = (List.range (M + 1)).map fun k => .int (T k) := List.map_map
  rw [i2] at i1
  have i3 : biO .min1 [.lst ((List.range (M + 1)).map fun k => .int (T k))] = .ok (.sh (.int m)) := by
    rw [range_cons, min1_l]
    have z : intsOf (.int (T 0) :: (List.range M).map fun k => .int (T (k + 1))) = some (T 0 :: (List.range M).map fun k => T (k + 1)) := by
      have : ∀ l : List Nat, intsOf (l.map fun k => .int (T (k + 1))) = some (l.map fun k => T (k + 1)) := fun l => by
        induction l with
        | nil => rfl
        | cons a l ih => rw [List.map_cons]; unfold intsOf; rw [ih]; rfl
      unfold intsOf
      rw [this]; rfl
    rw [z, kMin1_ok, m2]
  have hid : ((((List.range (M + 1)).map T).idxOf m : Nat) : Int) ≤ 100 := by
    have := List.idxOf_lt_length_of_mem m3
    rw [List.length_map, List.length_range] at this
    omega
  have p3 : Pd (.int (1 + ((((List.range (M + 1)).map T).idxOf m : Nat) : Int))) := .int _ (by omega) (by omega)
  have q6 := repr_run p3
  have q7 := eqO_same p3
  have g0 : ∀ a b : D, getL [a, b] 0 = some a := fun _ _ => rfl
  refine ⟨K4 + 1, ?_⟩
  by_cases hV0 : (V : Int) > 0
  · have s1 := fin_free (by omega) f3 rfl (by show 0 < (V : Int); omega)
    have s2 : t2.mo = (V : Int) + c * (((V : Int) - 1) / e) := by
      rw [s1]
      show 0 + ((V : Int) - 0) + c * (((V : Int) - 0 - 1) / e) = _
      rw [Int.sub_zero]; omega
    simp -implicitDefEqProofs (disch := (first | exact id rfl | assumption | omega | (simp only [List.length_map, List.length_append, List.length_cons, List.length_nil, List.length_range, List.length_replicate, List.length_reverse, List.length_zip, List.length_zipIdx, List.length_set, line_e]; first | done | omega))) only [l1_law, gV, ge, hee, gc, hK3, e1, gb, frzs_e, r1, r2, q1, q2, r3, q3, q4, l1, q5, hV0, r4, s2, hM, hM3, a1, lA, runI_call, zA, den, dens, denI, W.frz, Fw.frz, frzF, String.reduceEq, Option.isNone_none, Option.isNone_some, Option.map_some, Bool.true_and, Bool.false_and, Bool.false_eq_true, Bool.not_true, Bool.not_false, List.headD_cons, List.tail_cons, entry, List.map_cons, List.map_nil, List.cons_append, List.nil_append, List.replicate, List.length_cons, List.length_nil, List.getElem?_cons_zero, List.getElem?_cons_succ, List.getElem?_map, List.length_map, Int.reduceLT, Int.reduceLE, Nat.reduceLT, Nat.reduceLeDiff, and_self, and_true, true_and, if_true, if_false, Nat.reduceAdd, Int.reduceAdd, Int.reduceMul, Int.reducePow, Int.reduceToNat, Int.reduceNeg, decide_true, decide_false, Nat.reduceEqDiff, reduceCtorEq, Nat.zero_le, List.map_append, Int.toNat_natCast, List.length_range, List.length_append, List.length_reverse, Bool.true_or, Bool.false_or, Bool.or_false, Bool.or_true, List.headD_nil, List.tail_nil]
    rw [comp_m (List.range (M + 1)) (fun k : Nat => D.int (1 + (k : Int))) (fun k => .int (T k)) _ (fun k hk => ⟨_, rfl, ?_⟩) rfl]
    rotate_left
    · obtain ⟨j, t, h1, h2, h3⟩ := hT k
      have e2 := lruns_run 400 28 (by decide) ((M + 1 : Nat) : Int) (1 + (k : Int)) c (by omega) F (by omega) hF.srt hp h1 (by omega)
      rw [h3] at e2
      simp -implicitDefEqProofs (disch := (first | exact id rfl | assumption | omega | (simp only [List.length_map, List.length_append, List.length_cons, List.length_nil, List.length_range, List.length_replicate, List.length_reverse, List.length_zip, List.length_zipIdx, List.length_set, line_e]; first | done | omega))) only [e2, g0, lA, runI_call, zA, den, dens, denI, W.frz, Fw.frz, frzF, String.reduceEq, Option.isNone_none, Option.isNone_some, Option.map_some, Bool.true_and, Bool.false_and, Bool.false_eq_true, Bool.not_true, Bool.not_false, List.headD_cons, List.tail_cons, entry, List.map_cons, List.map_nil, List.cons_append, List.nil_append, List.replicate, List.length_cons, List.length_nil, List.getElem?_cons_zero, List.getElem?_cons_succ, List.getElem?_map, List.length_map, Int.reduceLT, Int.reduceLE, Nat.reduceLT, Nat.reduceLeDiff, and_self, and_true, true_and, if_true, if_false, Nat.reduceAdd, Int.reduceAdd, Int.reduceMul, Int.reducePow, Int.reduceToNat, Int.reduceNeg, decide_true, decide_false, Nat.reduceEqDiff, reduceCtorEq, Nat.zero_le, List.map_append, Int.toNat_natCast, List.length_range, List.length_append, List.length_reverse, Bool.true_or, Bool.false_or, Bool.or_false, Bool.or_true, List.headD_nil, List.tail_nil]
    simp -implicitDefEqProofs (disch := (first | exact id rfl | assumption | omega | (simp only [List.length_map, List.length_append, List.length_cons, List.length_nil, List.length_range, List.length_replicate, List.length_reverse, List.length_zip, List.length_zipIdx, List.length_set, line_e]; first | done | omega))) only [frzs_e, r5, i3, i1, q6, q7, lA, runI_call, zA, den, dens, denI, W.frz, Fw.frz, frzF, String.reduceEq, Option.isNone_none, Option.isNone_some, Option.map_some, Bool.true_and, Bool.false_and, Bool.false_eq_true, Bool.not_true, Bool.not_false, List.headD_cons, List.tail_cons, entry, List.map_cons, List.map_nil, List.cons_append, List.nil_append, List.replicate, List.length_cons, List.length_nil, List.getElem?_cons_zero, List.getElem?_cons_succ, List.getElem?_map, List.length_map, Int.reduceLT, Int.reduceLE, Nat.reduceLT, Nat.reduceLeDiff, and_self, and_true, true_and, if_true, if_false, Nat.reduceAdd, Int.reduceAdd, Int.reduceMul, Int.reducePow, Int.reduceToNat, Int.reduceNeg, decide_true, decide_false, Nat.reduceEqDiff, reduceCtorEq, Nat.zero_le, List.map_append, Int.toNat_natCast, List.length_range, List.length_append, List.length_reverse, Bool.true_or, Bool.false_or, Bool.or_false, Bool.or_true, List.headD_nil, List.tail_nil]
  · simp -implicitDefEqProofs (disch := (first | exact id rfl | assumption | omega | (simp only [List.length_map, List.length_append, List.length_cons, List.length_nil, List.length_range, List.length_replicate, List.length_reverse, List.length_zip, List.length_zipIdx, List.length_set, line_e]; first | done | omega))) only [l1_law, gV, ge, hee, gc, hK3, e1, gb, frzs_e, r1, r2, q1, q2, r3, q3, q4, l1, q5, hV0, hM, hM3, a1, lA, runI_call, zA, den, dens, denI, W.frz, Fw.frz, frzF, String.reduceEq, Option.isNone_none, Option.isNone_some, Option.map_some, Bool.true_and, Bool.false_and, Bool.false_eq_true, Bool.not_true, Bool.not_false, List.headD_cons, List.tail_cons, entry, List.map_cons, List.map_nil, List.cons_append, List.nil_append, List.replicate, List.length_cons, List.length_nil, List.getElem?_cons_zero, List.getElem?_cons_succ, List.getElem?_map, List.length_map, Int.reduceLT, Int.reduceLE, Nat.reduceLT, Nat.reduceLeDiff, and_self, and_true, true_and, if_true, if_false, Nat.reduceAdd, Int.reduceAdd, Int.reduceMul, Int.reducePow, Int.reduceToNat, Int.reduceNeg, decide_true, decide_false, Nat.reduceEqDiff, reduceCtorEq, Nat.zero_le, List.map_append, Int.toNat_natCast, List.length_range, List.length_append, List.length_reverse, Bool.true_or, Bool.false_or, Bool.or_false, Bool.or_true, List.headD_nil, List.tail_nil]
    rw [comp_m (List.range (M + 1)) (fun k : Nat => D.int (1 + (k : Int))) (fun k => .int (T k)) _ (fun k hk => ⟨_, rfl, ?_⟩) rfl]
    rotate_left
    · obtain ⟨j, t, h1, h2, h3⟩ := hT k
      have e2 := lruns_run 400 28 (by decide) ((M + 1 : Nat) : Int) (1 + (k : Int)) c (by omega) F (by omega) hF.srt hp h1 (by omega)
      rw [h3] at e2
      simp -implicitDefEqProofs (disch := (first | exact id rfl | assumption | omega | (simp only [List.length_map, List.length_append, List.length_cons, List.length_nil, List.length_range, List.length_replicate, List.length_reverse, List.length_zip, List.length_zipIdx, List.length_set, line_e]; first | done | omega))) only [e2, g0, lA, runI_call, zA, den, dens, denI, W.frz, Fw.frz, frzF, String.reduceEq, Option.isNone_none, Option.isNone_some, Option.map_some, Bool.true_and, Bool.false_and, Bool.false_eq_true, Bool.not_true, Bool.not_false, List.headD_cons, List.tail_cons, entry, List.map_cons, List.map_nil, List.cons_append, List.nil_append, List.replicate, List.length_cons, List.length_nil, List.getElem?_cons_zero, List.getElem?_cons_succ, List.getElem?_map, List.length_map, Int.reduceLT, Int.reduceLE, Nat.reduceLT, Nat.reduceLeDiff, and_self, and_true, true_and, if_true, if_false, Nat.reduceAdd, Int.reduceAdd, Int.reduceMul, Int.reducePow, Int.reduceToNat, Int.reduceNeg, decide_true, decide_false, Nat.reduceEqDiff, reduceCtorEq, Nat.zero_le, List.map_append, Int.toNat_natCast, List.length_range, List.length_append, List.length_reverse, Bool.true_or, Bool.false_or, Bool.or_false, Bool.or_true, List.headD_nil, List.tail_nil]
    simp -implicitDefEqProofs (disch := (first | exact id rfl | assumption | omega | (simp only [List.length_map, List.length_append, List.length_cons, List.length_nil, List.length_range, List.length_replicate, List.length_reverse, List.length_zip, List.length_zipIdx, List.length_set, line_e]; first | done | omega))) only [frzs_e, r5, i3, i1, q6, q7, lA, runI_call, zA, den, dens, denI, W.frz, Fw.frz, frzF, String.reduceEq, Option.isNone_none, Option.isNone_some, Option.map_some, Bool.true_and, Bool.false_and, Bool.false_eq_true, Bool.not_true, Bool.not_false, List.headD_cons, List.tail_cons, entry, List.map_cons, List.map_nil, List.cons_append, List.nil_append, List.replicate, List.length_cons, List.length_nil, List.getElem?_cons_zero, List.getElem?_cons_succ, List.getElem?_map, List.length_map, Int.reduceLT, Int.reduceLE, Nat.reduceLT, Nat.reduceLeDiff, and_self, and_true, true_and, if_true, if_false, Nat.reduceAdd, Int.reduceAdd, Int.reduceMul, Int.reducePow, Int.reduceToNat, Int.reduceNeg, decide_true, decide_false, Nat.reduceEqDiff, reduceCtorEq, Nat.zero_le, List.map_append, Int.toNat_natCast, List.length_range, List.length_append, List.length_reverse, Bool.true_or, Bool.false_or, Bool.or_false, Bool.or_true, List.headD_nil, List.tail_nil]
theorem law_ok (ns : List Int) (hn : ns.length ≤ 63) : ∃ wf os, run Gm wf 30 "law" [.sh (.lst (ns.map D.int))] = .ok (.sh (.bl true)) os := by
  obtain ⟨ds, e0⟩ := draws_run gDraws ns 100 (by decide) 400 28
  have e0 : run Gm 400 29 "_law_draws" [.sh (.lst (ns.map D.int)), .sh (.int 100)] = .ok (.sh (.lst (ds.map D.int))) [.sh .non, .sh .non] := e0
  obtain ⟨ρ', lp, K', rfl⟩ := loop_idx (t := .v 2) (b := execs (clK Gm 400 29) l1_law) 3 dn (fun j ρ => ∃ K, ρ = (E_law (script := some (.sh (.lst (ns.map D.int)))) (hand := some (Hw ds (K)))))
    (fun j hj ρ ⟨K, hρ⟩ => by
      subst hρ
      obtain ⟨K', e⟩ := k_turn ns ds K (dn j)
      exact ⟨_, _, rfl, e, K', rfl⟩) (E_law (script := some (.sh (.lst (ns.map D.int)))) (hand := some (Hw ds (0)))) ⟨0, rfl⟩
  simp only [E_law] at lp
  refine ⟨400, [.sh .non], ?_⟩
  rw [run_call (fd := d_law) rfl rfl]
  simp -implicitDefEqProofs (disch := (first | exact id rfl | assumption | omega | (simp only [List.length_map, List.length_append, List.length_cons, List.length_nil, List.length_range, List.length_replicate, List.length_reverse, List.length_zip, List.length_zipIdx, List.length_set, line_e]; first | done | omega))) only [d_law, b_law, e0, lA, runI_call, zA, den, dens, denI, W.frz, Fw.frz, frzF, String.reduceEq, Option.isNone_none, Option.isNone_some, Option.map_some, Bool.true_and, Bool.false_and, Bool.false_eq_true, Bool.not_true, Bool.not_false, List.headD_cons, List.tail_cons, entry, List.map_cons, List.map_nil, List.cons_append, List.nil_append, List.replicate, List.length_cons, List.length_nil, List.getElem?_cons_zero, List.getElem?_cons_succ, List.getElem?_map, List.length_map, Int.reduceLT, Int.reduceLE, Nat.reduceLT, Nat.reduceLeDiff, and_self, and_true, true_and, if_true, if_false, Nat.reduceAdd, Int.reduceAdd, Int.reduceMul, Int.reducePow, Int.reduceToNat, Int.reduceNeg, decide_true, decide_false, Nat.reduceEqDiff, reduceCtorEq, Nat.zero_le, List.map_append, Int.toNat_natCast, List.length_range, List.length_append, List.length_reverse, Bool.true_or, Bool.false_or, Bool.or_false, Bool.or_true, List.headD_nil, List.tail_nil]
  rw [lp]
  simp -implicitDefEqProofs (disch := (first | exact id rfl | assumption | omega | (simp only [List.length_map, List.length_append, List.length_cons, List.length_nil, List.length_range, List.length_replicate, List.length_reverse, List.length_zip, List.length_zipIdx, List.length_set, line_e]; first | done | omega))) only [lA, runI_call, zA, den, dens, denI, W.frz, Fw.frz, frzF, String.reduceEq, Option.isNone_none, Option.isNone_some, Option.map_some, Bool.true_and, Bool.false_and, Bool.false_eq_true, Bool.not_true, Bool.not_false, List.headD_cons, List.tail_cons, entry, List.map_cons, List.map_nil, List.cons_append, List.nil_append, List.replicate, List.length_cons, List.length_nil, List.getElem?_cons_zero, List.getElem?_cons_succ, List.getElem?_map, List.length_map, Int.reduceLT, Int.reduceLE, Nat.reduceLT, Nat.reduceLeDiff, and_self, and_true, true_and, if_true, if_false, Nat.reduceAdd, Int.reduceAdd, Int.reduceMul, Int.reducePow, Int.reduceToNat, Int.reduceNeg, decide_true, decide_false, Nat.reduceEqDiff, reduceCtorEq, Nat.zero_le, List.map_append, Int.toNat_natCast, List.length_range, List.length_append, List.length_reverse, Bool.true_or, Bool.false_or, Bool.or_false, Bool.or_true, List.headD_nil, List.tail_nil]
end Lw

set_option Elab.async false
set_option linter.all false
set_option maxRecDepth 100000
set_option maxHeartbeats 0
namespace Lw
open PySem
open PySem.Spec
open PyProof.Rows
open L2
open Z
def top (i : Nat) : Stmt := PySem.Challenge.pw_stagesfull_k59_work_with_falls.main.body.getD i (.Pass ⟨0, 0, 0, 0⟩)
def sub (s : Stmt) (j : Nat) : Stmt := match s with
  | .ClassDef (body := b) .. => b.getD j (.Pass ⟨0, 0, 0, 0⟩)
  | _ => s
def x_worker_done : He.DefD := ⟨("worker_done", none), "worker_done", "worker_done", defArgs (top 2), defBody (top 2), defScope (top 2), [], []⟩
def x_time_with_falls : He.DefD := ⟨("time_with_falls", none), "time_with_falls", "time_with_falls", defArgs (top 3), defBody (top 3), defScope (top 3), [], []⟩
def x_units_again : He.DefD := ⟨("units_again", none), "units_again", "units_again", defArgs (top 4), defBody (top 4), defScope (top 4), [], []⟩
def x_least_every : He.DefD := ⟨("least_every", none), "least_every", "least_every", defArgs (top 5), defBody (top 5), defScope (top 5), [], []⟩
def x__law_draws : He.DefD := ⟨("_law_draws", none), "_law_draws", "_law_draws", defArgs (top 7), defBody (top 7), defScope (top 7), [], []⟩
def x__law_take : He.DefD := ⟨("_law_take", none), "_law_take", "_law_take", defArgs (top 8), defBody (top 8), defScope (top 8), [], []⟩
def x__law_runs : He.DefD := ⟨("_law_runs", none), "_law_runs", "_law_runs", defArgs (top 9), defBody (top 9), defScope (top 9), [], []⟩
def x__law_drawn_falls : He.DefD := ⟨("_law_drawn_falls", none), "_law_drawn_falls", "_law_drawn_falls", defArgs (top 10), defBody (top 10), defScope (top 10), [], []⟩
def x_law : He.DefD := ⟨("law", none), "law", "law", defArgs (top 11), defBody (top 11), defScope (top 11), [], []⟩
def x_Worker___init__ : He.DefD := ⟨("Worker", some "__init__"), "__init__", "Worker.__init__", defArgs (sub (top 1) 0), defBody (sub (top 1) 0), defScope (sub (top 1) 0), [], []⟩
def x_Worker_go_on : He.DefD := ⟨("Worker", some "go_on"), "go_on", "Worker.go_on", defArgs (sub (top 1) 1), defBody (sub (top 1) 1), defScope (sub (top 1) 1), [], []⟩
def x_Worker_fall : He.DefD := ⟨("Worker", some "fall"), "fall", "Worker.fall", defArgs (sub (top 1) 2), defBody (sub (top 1) 2), defScope (sub (top 1) 2), [], []⟩
def x_Worker_drop_passed : He.DefD := ⟨("Worker", some "drop_passed"), "drop_passed", "Worker.drop_passed", defArgs (sub (top 1) 3), defBody (sub (top 1) 3), defScope (sub (top 1) 3), [], []⟩
def x_Worker_run : He.DefD := ⟨("Worker", some "run"), "run", "Worker.run", defArgs (sub (top 1) 4), defBody (sub (top 1) 4), defScope (sub (top 1) 4), [], []⟩
def fn0 : List He.DefD := [x_worker_done, x_time_with_falls, x_units_again, x_least_every, x__law_draws, x__law_take, x__law_runs, x__law_drawn_falls, x_law, x_Worker___init__, x_Worker_go_on, x_Worker_fall]
def fn1 : List He.DefD := [x_Worker_drop_passed, x_Worker_run]
def fn : List He.DefD := fn0 ++ (fn1)

def fa0 : List He.Fa := [.glo "worker_done", .glo "time_with_falls", .glo "units_again", .glo "least_every", .glo "_law_draws", .glo "_law_take", .glo "_law_runs", .glo "_law_drawn_falls", .glo "law", .free "abs", .free "int", .free "len"]
def fa1 : List He.Fa := [.free "list", .free "max", .free "min", .free "range", .free "repr", .free "tuple", .glo "Worker", .cls "Worker", .noat "Worker" "work", .noat "Worker" "every", .noat "Worker" "cost", .noat "Worker" "falls"]
def fa2 : List He.Fa := [.noat "Worker" "moment", .noat "Worker" "kept", .noat "Worker" "lost", .meth "Worker" "go_on", .meth "Worker" "fall", .meth "Worker" "drop_passed", .meth "Worker" "run", .mkr "Worker"]
def fa : List He.Fa := fa0 ++ (fa1 ++ (fa2))

def names0 : List PySem.Str := ["Worker", "worker_done", "time_with_falls", "units_again", "least_every", "_law_draws", "_law_take", "_law_runs", "_law_drawn_falls"]
def names : List PySem.Str := names0

abbrev R : PySem.W.OpenRow := PySem.W.OpenLaw.row PySem.Challenge.rw_stagesfull_k59_work_with_falls
abbrev hk : PySem.W.Hook := He.hookD 5 fa fn
def ob (s : PySem.W.SharedT) : He.AlD := He.obsDG 5 fa fn (HandSHeadRun.getT s)
theorem ob_eq (s : PySem.W.SharedT) : ob s = hk.obs s.abs := He.obsDG_eq (HandSHeadRun.getT_eq s)
theorem headRun (w : World) : HandSHeadRun.RunEq R (PySem.W.view R.prog [11]) hk ob 3000 names w := by
  intro os
  kernel_rfl


def df0 : List String := ["worker_done", "time_with_falls", "units_again", "least_every", "_law_draws", "_law_take", "_law_runs", "_law_drawn_falls", "law"]
def df : List String := df0

def dm0 : List String := ["Worker.__init__", "Worker.go_on", "Worker.fall", "Worker.drop_passed", "Worker.run"]
def dm : List String := dm0

def all : List String := df ++ dm
def fr0 : List String := ["abs", "int", "len", "list", "max", "min", "range", "repr", "tuple"]
def fr : List String := fr0

def kn : String → List String := fun g =>
  if g = "time_with_falls" then ["work", "every", "cost", "falls"] else
  if g = "units_again" then ["work", "every", "cost", "falls"] else
  if g = "least_every" then ["work", "cost", "falls"] else
  []

def adr (K : PySem.W.Frag) : String → Addr := fun g =>
  if g = "Worker.__init__" then He.ma K (He.ga K "Worker") "__init__" else
  if g = "Worker.go_on" then He.ma K (He.ga K "Worker") "go_on" else
  if g = "Worker.fall" then He.ma K (He.ga K "Worker") "fall" else
  if g = "Worker.drop_passed" then He.ma K (He.ga K "Worker") "drop_passed" else
  if g = "Worker.run" then He.ma K (He.ga K "Worker") "run" else
  He.ga K (Str.ofString g)
def cmK (K : PySem.W.Frag) : String → Option Addr := fun g =>
  if g = "Worker" then some (He.ga K "Worker") else
  none
section
variable {K : PySem.W.Frag} {mg : PySem.Str → Option Value} {h : Heap} (KX : K.In h) (G : h.Ns mainGlobals mg) (c : He.SaysD fa fn K)
include KX G c
theorem ok_worker_done : DefOk K (adr K) Gm fr df kn "worker_done" := by
  obtain ⟨fdt, F⟩ := c.def_ 0 (d := x_worker_done) rfl
  exact ⟨fdt, _, _, _, _, _, ["work", "every", "cost", "falls"], n_worker_done, d_worker_done, brP d_worker_done.br, _, _, F, ⟨rfl, rfl, rfl, by decide +kernel, rfl, by decide +kernel, by decide +kernel⟩, rfl, rfl, rfl,
    fun _ => F.bindsN (fun _ _ _ _ _ _ us hl => match us, hl with | [_, _, _, _], _ => rfl), by decide +kernel, brP_ok _, fun z => absurd z (by decide), fun sk s h => by have h := lookMem2 h; exact absurd h (by simp [Gm, gx])⟩
theorem ok_time_with_falls : DefOk K (adr K) Gm fr df kn "time_with_falls" := by
  obtain ⟨fdt, F⟩ := c.def_ 1 (d := x_time_with_falls) rfl
  exact ⟨fdt, _, _, _, _, _, ["work", "every", "cost", "falls"], n_time_with_falls, d_time_with_falls, brP d_time_with_falls.br, _, _, F, ⟨rfl, rfl, rfl, by decide +kernel, rfl, by decide +kernel, by decide +kernel⟩, rfl, rfl, rfl,
    fun _ => F.bindsN (fun _ _ _ _ _ _ us hl => match us, hl with | [_, _, _, _], _ => rfl), by decide +kernel, brP_ok _, fun _ => ⟨rfl, fun s us _ hl => kw_bind (ps := ["work", "every", "cost", "falls"]) F (fun _ _ _ _ _ _ us hl => match us, hl with | [_, _, _, _], _ => rfl) s us hl⟩, fun sk s h => by have h := lookMem2 h; exact absurd h (by simp [Gm, gx])⟩
theorem ok_units_again : DefOk K (adr K) Gm fr df kn "units_again" := by
  obtain ⟨fdt, F⟩ := c.def_ 2 (d := x_units_again) rfl
  exact ⟨fdt, _, _, _, _, _, ["work", "every", "cost", "falls"], n_units_again, d_units_again, brP d_units_again.br, _, _, F, ⟨rfl, rfl, rfl, by decide +kernel, rfl, by decide +kernel, by decide +kernel⟩, rfl, rfl, rfl,
    fun _ => F.bindsN (fun _ _ _ _ _ _ us hl => match us, hl with | [_, _, _, _], _ => rfl), by decide +kernel, brP_ok _, fun _ => ⟨rfl, fun s us _ hl => kw_bind (ps := ["work", "every", "cost", "falls"]) F (fun _ _ _ _ _ _ us hl => match us, hl with | [_, _, _, _], _ => rfl) s us hl⟩, fun sk s h => by have h := lookMem2 h; exact absurd h (by simp [Gm, gx])⟩
theorem ok_least_every : DefOk K (adr K) Gm fr df kn "least_every" := by
  obtain ⟨fdt, F⟩ := c.def_ 3 (d := x_least_every) rfl
  exact ⟨fdt, _, _, _, _, _, ["work", "cost", "falls"], n_least_every, d_least_every, brP d_least_every.br, _, _, F, ⟨rfl, rfl, rfl, by decide +kernel, rfl, by decide +kernel, by decide +kernel⟩, rfl, rfl, rfl,
    fun _ => F.bindsN (fun _ _ _ _ _ _ us hl => match us, hl with | [_, _, _], _ => rfl), by decide +kernel, brP_ok _, fun _ => ⟨rfl, fun s us _ hl => kw_bind (ps := ["work", "cost", "falls"]) F (fun _ _ _ _ _ _ us hl => match us, hl with | [_, _, _], _ => rfl) s us hl⟩, fun sk s h => by have h := lookMem2 h; exact absurd h (by simp [Gm, gx])⟩
theorem ok__law_draws : DefOk K (adr K) Gm fr df kn "_law_draws" := by
  obtain ⟨fdt, F⟩ := c.def_ 4 (d := x__law_draws) rfl
  exact ⟨fdt, _, _, _, _, _, ["_law_script", "_law_many"], n__law_draws, d__law_draws, brP d__law_draws.br, _, _, F, ⟨rfl, rfl, rfl, by decide +kernel, rfl, by decide +kernel, by decide +kernel⟩, rfl, rfl, rfl,
    fun _ => F.bindsN (fun _ _ _ _ _ _ us hl => match us, hl with | [_, _], _ => rfl), by decide +kernel, brP_ok _, fun z => absurd z (by decide), fun sk s h => by have h := lookMem2 h; exact absurd h (by simp [Gm, gx])⟩
theorem ok__law_take : DefOk K (adr K) Gm fr df kn "_law_take" := by
  obtain ⟨fdt, F⟩ := c.def_ 5 (d := x__law_take) rfl
  exact ⟨fdt, _, _, _, _, _, ["_law_hand", "_law_many"], n__law_take, d__law_take, brP d__law_take.br, _, _, F, ⟨rfl, rfl, rfl, by decide +kernel, rfl, by decide +kernel, by decide +kernel⟩, rfl, rfl, rfl,
    fun _ => F.bindsN (fun _ _ _ _ _ _ us hl => match us, hl with | [_, _], _ => rfl), by decide +kernel, brP_ok _, fun z => absurd z (by decide), fun sk s h => by have h := lookMem2 h; exact absurd h (by simp [Gm, gx])⟩
theorem ok__law_runs : DefOk K (adr K) Gm fr df kn "_law_runs" := by
  obtain ⟨fdt, F⟩ := c.def_ 6 (d := x__law_runs) rfl
  exact ⟨fdt, _, _, _, _, _, ["_law_work", "_law_every", "_law_cost", "_law_falls"], n__law_runs, d__law_runs, brP d__law_runs.br, _, _, F, ⟨rfl, rfl, rfl, by decide +kernel, rfl, by decide +kernel, by decide +kernel⟩, rfl, rfl, rfl,
    fun _ => F.bindsN (fun _ _ _ _ _ _ us hl => match us, hl with | [_, _, _, _], _ => rfl), by decide +kernel, brP_ok _, fun z => absurd z (by decide), fun sk s h => by have h := lookMem2 h; exact absurd h (by simp [Gm, gx])⟩
theorem ok__law_drawn_falls : DefOk K (adr K) Gm fr df kn "_law_drawn_falls" := by
  obtain ⟨fdt, F⟩ := c.def_ 7 (d := x__law_drawn_falls) rfl
  exact ⟨fdt, _, _, _, _, _, ["_law_hand", "_law_work", "_law_every", "_law_cost"], n__law_drawn_falls, d__law_drawn_falls, brP d__law_drawn_falls.br, _, _, F, ⟨rfl, rfl, rfl, by decide +kernel, rfl, by decide +kernel, by decide +kernel⟩, rfl, rfl, rfl,
    fun _ => F.bindsN (fun _ _ _ _ _ _ us hl => match us, hl with | [_, _, _, _], _ => rfl), by decide +kernel, brP_ok _, fun z => absurd z (by decide), fun sk s h => by have h := lookMem2 h; exact absurd h (by simp [Gm, gx])⟩
theorem ok_law : DefOk K (adr K) Gm fr df kn "law" := by
  obtain ⟨fdt, F⟩ := c.def_ 8 (d := x_law) rfl
  exact ⟨fdt, _, _, _, _, _, ["_law_script"], n_law, d_law, brP d_law.br, _, _, F, ⟨rfl, rfl, rfl, by decide +kernel, rfl, by decide +kernel, by decide +kernel⟩, rfl, rfl, rfl,
    fun _ => F.bindsN (fun _ _ _ _ _ _ us hl => match us, hl with | [_], _ => rfl), by decide +kernel, brP_ok _, fun z => absurd z (by decide), fun sk s h => by have h := lookMem2 h; exact absurd h (by simp [Gm, gx])⟩
theorem ok_Worker___init__ : DefOk K (adr K) Gm fr df kn "Worker.__init__" := by
  obtain ⟨fdt, F⟩ := c.def_ 9 (d := x_Worker___init__) rfl
  exact ⟨fdt, _, _, _, _, _, ["self", "work", "every", "cost", "falls"], n_Worker___init__, d_Worker___init__, brP d_Worker___init__.br, _, _, F, ⟨rfl, rfl, rfl, by decide +kernel, rfl, by decide +kernel, by decide +kernel⟩, rfl, rfl, rfl,
    fun _ => F.bindsN (fun _ _ _ _ _ _ us hl => match us, hl with | [_, _, _, _, _], _ => rfl), by decide +kernel, brP_ok _, fun z => absurd z (by decide), fun sk s h => by have h := lookMem2 h; exact absurd h (by simp [Gm, gx])⟩
theorem ok_Worker_go_on : DefOk K (adr K) Gm fr df kn "Worker.go_on" := by
  obtain ⟨fdt, F⟩ := c.def_ 10 (d := x_Worker_go_on) rfl
  exact ⟨fdt, _, _, _, _, _, ["self"], n_Worker_go_on, d_Worker_go_on, brP d_Worker_go_on.br, _, _, F, ⟨rfl, rfl, rfl, by decide +kernel, rfl, by decide +kernel, by decide +kernel⟩, rfl, rfl, rfl,
    fun _ => F.bindsN (fun _ _ _ _ _ _ us hl => match us, hl with | [_], _ => rfl), by decide +kernel, brP_ok _, fun z => absurd z (by decide), fun sk s h => by have h := lookMem2 h; exact absurd h (by simp [Gm, gx])⟩
theorem ok_Worker_fall : DefOk K (adr K) Gm fr df kn "Worker.fall" := by
  obtain ⟨fdt, F⟩ := c.def_ 11 (d := x_Worker_fall) rfl
  exact ⟨fdt, _, _, _, _, _, ["self", "done"], n_Worker_fall, d_Worker_fall, brP d_Worker_fall.br, _, _, F, ⟨rfl, rfl, rfl, by decide +kernel, rfl, by decide +kernel, by decide +kernel⟩, rfl, rfl, rfl,
    fun _ => F.bindsN (fun _ _ _ _ _ _ us hl => match us, hl with | [_, _], _ => rfl), by decide +kernel, brP_ok _, fun z => absurd z (by decide), fun sk s h => by have h := lookMem2 h; exact absurd h (by simp [Gm, gx])⟩
theorem ok_Worker_drop_passed : DefOk K (adr K) Gm fr df kn "Worker.drop_passed" := by
  obtain ⟨fdt, F⟩ := c.def_ 12 (d := x_Worker_drop_passed) rfl
  exact ⟨fdt, _, _, _, _, _, ["self"], n_Worker_drop_passed, d_Worker_drop_passed, brP d_Worker_drop_passed.br, _, _, F, ⟨rfl, rfl, rfl, by decide +kernel, rfl, by decide +kernel, by decide +kernel⟩, rfl, rfl, rfl,
    fun _ => F.bindsN (fun _ _ _ _ _ _ us hl => match us, hl with | [_], _ => rfl), by decide +kernel, brP_ok _, fun z => absurd z (by decide), fun sk s h => by have h := lookMem2 h; exact absurd h (by simp [Gm, gx])⟩
theorem ok_Worker_run : DefOk K (adr K) Gm fr df kn "Worker.run" := by
  obtain ⟨fdt, F⟩ := c.def_ 13 (d := x_Worker_run) rfl
  exact ⟨fdt, _, _, _, _, _, ["self"], n_Worker_run, d_Worker_run, brP d_Worker_run.br, _, _, F, ⟨rfl, rfl, rfl, by decide +kernel, rfl, by decide +kernel, by decide +kernel⟩, rfl, rfl, rfl,
    fun _ => F.bindsN (fun _ _ _ _ _ _ us hl => match us, hl with | [_], _ => rfl), by decide +kernel, brP_ok _, fun z => absurd z (by decide), fun sk s h => by have h := lookMem2 h; exact absurd h (by simp [Gm, gx])⟩
theorem okf0 : ∀ g ∈ df0, DefOk K (adr K) Gm fr df kn g := by
  intro g hg
  simp only [df0, List.mem_cons, List.not_mem_nil, or_false] at hg
  rcases hg with rfl | rfl | rfl | rfl | rfl | rfl | rfl | rfl | rfl
  · exact ok_worker_done KX G c
  · exact ok_time_with_falls KX G c
  · exact ok_units_again KX G c
  · exact ok_least_every KX G c
  · exact ok__law_draws KX G c
  · exact ok__law_take KX G c
  · exact ok__law_runs KX G c
  · exact ok__law_drawn_falls KX G c
  · exact ok_law KX G c
theorem okf : ∀ g ∈ df, DefOk K (adr K) Gm fr df kn g := fun g hg => okf0 KX G c g hg
theorem okm0 : ∀ g ∈ dm0, DefOk K (adr K) Gm fr df kn g := by
  intro g hg
  simp only [dm0, List.mem_cons, List.not_mem_nil, or_false] at hg
  rcases hg with rfl | rfl | rfl | rfl | rfl
  · exact ok_Worker___init__ KX G c
  · exact ok_Worker_go_on KX G c
  · exact ok_Worker_fall KX G c
  · exact ok_Worker_drop_passed KX G c
  · exact ok_Worker_run KX G c
theorem okm : ∀ g ∈ dm, DefOk K (adr K) Gm fr df kn g := fun g hg => okm0 KX G c g hg
theorem all_ok : ∀ g ∈ all, DefOk K (adr K) Gm fr df kn g := fun g hg => (List.mem_append.mp hg).elim (okf KX G c g) (okm KX G c g)
theorem mgf0 : ∀ g ∈ df0, mg (Str.ofString g) = some (.ref (adr K g)) := by
  intro g hg
  simp only [df0, List.mem_cons, List.not_mem_nil, or_false] at hg
  rcases hg with rfl | rfl | rfl | rfl | rfl | rfl | rfl | rfl | rfl
  · exact He.glo_ok KX G (c.fact 0 (f := .glo "worker_done") rfl)
  · exact He.glo_ok KX G (c.fact 1 (f := .glo "time_with_falls") rfl)
  · exact He.glo_ok KX G (c.fact 2 (f := .glo "units_again") rfl)
  · exact He.glo_ok KX G (c.fact 3 (f := .glo "least_every") rfl)
  · exact He.glo_ok KX G (c.fact 4 (f := .glo "_law_draws") rfl)
  · exact He.glo_ok KX G (c.fact 5 (f := .glo "_law_take") rfl)
  · exact He.glo_ok KX G (c.fact 6 (f := .glo "_law_runs") rfl)
  · exact He.glo_ok KX G (c.fact 7 (f := .glo "_law_drawn_falls") rfl)
  · exact He.glo_ok KX G (c.fact 8 (f := .glo "law") rfl)
theorem mgf : ∀ g ∈ df, mg (Str.ofString g) = some (.ref (adr K g)) := fun g hg => mgf0 KX G c g hg
theorem all_fr0 : ∀ g ∈ fr0, mg (Str.ofString g) = none := by
  intro g hg
  simp only [fr0, List.mem_cons, List.not_mem_nil, or_false] at hg
  rcases hg with rfl | rfl | rfl | rfl | rfl | rfl | rfl | rfl | rfl
  · exact He.free_ok KX G (c.fact 9 (f := .free "abs") rfl)
  · exact He.free_ok KX G (c.fact 10 (f := .free "int") rfl)
  · exact He.free_ok KX G (c.fact 11 (f := .free "len") rfl)
  · exact He.free_ok KX G (c.fact 12 (f := .free "list") rfl)
  · exact He.free_ok KX G (c.fact 13 (f := .free "max") rfl)
  · exact He.free_ok KX G (c.fact 14 (f := .free "min") rfl)
  · exact He.free_ok KX G (c.fact 15 (f := .free "range") rfl)
  · exact He.free_ok KX G (c.fact 16 (f := .free "repr") rfl)
  · exact He.free_ok KX G (c.fact 17 (f := .free "tuple") rfl)
theorem all_fr : ∀ g ∈ fr, mg (Str.ofString g) = none := fun g hg => all_fr0 KX G c g hg
theorem g_ok : GOk K mg (cmK K) (adr K) gx where
  ci := fun p h => by
    exact absurd h (by simp [gx])
  cs := fun p h => by
    exact absurd h (by simp [gx])
  atr := fun c' f A h h2 => by
    have h : (c', f) ∈ gx.at_ := List.contains_iff_mem.mp h
    simp only [gx, List.mem_cons, List.not_mem_nil, or_false, Prod.mk.injEq] at h
    rcases h with ⟨rfl, rfl⟩ | ⟨rfl, rfl⟩ | ⟨rfl, rfl⟩ | ⟨rfl, rfl⟩ | ⟨rfl, rfl⟩ | ⟨rfl, rfl⟩ | ⟨rfl, rfl⟩
    · cases h2; exact ⟨He.cls_ok (c.fact 19 (f := .cls "Worker") rfl), He.noat_ok (c.fact 20 (f := .noat "Worker" "work") rfl)⟩
    · cases h2; exact ⟨He.cls_ok (c.fact 19 (f := .cls "Worker") rfl), He.noat_ok (c.fact 21 (f := .noat "Worker" "every") rfl)⟩
    · cases h2; exact ⟨He.cls_ok (c.fact 19 (f := .cls "Worker") rfl), He.noat_ok (c.fact 22 (f := .noat "Worker" "cost") rfl)⟩
    · cases h2; exact ⟨He.cls_ok (c.fact 19 (f := .cls "Worker") rfl), He.noat_ok (c.fact 23 (f := .noat "Worker" "falls") rfl)⟩
    · cases h2; exact ⟨He.cls_ok (c.fact 19 (f := .cls "Worker") rfl), He.noat_ok (c.fact 24 (f := .noat "Worker" "moment") rfl)⟩
    · cases h2; exact ⟨He.cls_ok (c.fact 19 (f := .cls "Worker") rfl), He.noat_ok (c.fact 25 (f := .noat "Worker" "kept") rfl)⟩
    · cases h2; exact ⟨He.cls_ok (c.fact 19 (f := .cls "Worker") rfl), He.noat_ok (c.fact 26 (f := .noat "Worker" "lost") rfl)⟩
  mt := fun c' m f A h h2 => by
    have h := lookMem h
    simp only [gx, List.mem_cons, List.not_mem_nil, or_false, Prod.mk.injEq] at h
    rcases h with ⟨⟨rfl, rfl⟩, rfl⟩ | ⟨⟨rfl, rfl⟩, rfl⟩ | ⟨⟨rfl, rfl⟩, rfl⟩ | ⟨⟨rfl, rfl⟩, rfl⟩
    · cases h2; exact ⟨He.cls_ok (c.fact 19 (f := .cls "Worker") rfl), He.meth_ok (c.fact 27 (f := .meth "Worker" "go_on") rfl)⟩
    · cases h2; exact ⟨He.cls_ok (c.fact 19 (f := .cls "Worker") rfl), He.meth_ok (c.fact 28 (f := .meth "Worker" "fall") rfl)⟩
    · cases h2; exact ⟨He.cls_ok (c.fact 19 (f := .cls "Worker") rfl), He.meth_ok (c.fact 29 (f := .meth "Worker" "drop_passed") rfl)⟩
    · cases h2; exact ⟨He.cls_ok (c.fact 19 (f := .cls "Worker") rfl), He.meth_ok (c.fact 30 (f := .meth "Worker" "run") rfl)⟩
  ini := fun c' f h => by
    have h := lookMem h
    simp only [gx, List.mem_cons, List.not_mem_nil, or_false, Prod.mk.injEq] at h
    rcases h with ⟨rfl, rfl⟩
    · exact ⟨_, rfl, He.glo_ok KX G (c.fact 18 (f := .glo "Worker") rfl), He.mkr_ok (c.fact 31 (f := .mkr "Worker") rfl)⟩
  cmn := ⟨rfl, rfl, rfl⟩
  xat := fun c' f A h h2 => by
    obtain ⟨ns, h, hf⟩ := exB_mem h
    exact absurd h (by simp [gx])
  clq := fun c' h => by
    exact absurd h (by simp [gx])
  exq := fun c' ns h => by
    have h := lookMem2 h
    exact absurd h (by simp [gx])
  shp := fun sk f s h => by
    have h := lookMem2 h
    exact absurd h (by simp [gx])
end

end Lw
open PySem PySem.W PySem.Calls PyProof.Rows
theorem PySem.Challenge.cw_stagesfull_k59_work_with_falls_holds : PySem.Challenge.rw_stagesfull_k59_work_with_falls.Holds := by
  w_on; o_law
  refine HandSHeadRun.head_any (r := PySem.W.OpenLaw.row PySem.Challenge.rw_stagesfull_k59_work_with_falls) (q := PySem.W.view (PySem.W.OpenLaw.row PySem.Challenge.rw_stagesfull_k59_work_with_falls).prog [11]) (H := Lw.hk) (ob := Lw.ob) (M := 3000) (loose := Lw.names) (d := HandSHeadRun.topDef (PySem.W.OpenLaw.row PySem.Challenge.rw_stagesfull_k59_work_with_falls).prog 11) (kwd := []) Lw.ob_eq
    (by kernel_rfl) (fun s => by kernel_rfl) Lw.headRun (by kernel_rfl) (by kernel_rfl) (by kernel_rfl) (by rfl) (by first | assumption | decide +kernel) (by decide +kernel) ⟨rfl, rfl, rfl, rfl, rfl, by decide +kernel⟩ ?hw ?hc
  case hw => w_witness2
  case hc =>
    refine Z.walk_Z (l := PySem.Challenge.rw_stagesfull_k59_work_with_falls) (n := 63) (lv := 30) (Γ := Lw.Gm) (fr := Lw.fr) (df := Lw.df) (all := Lw.all) (kn := Lw.kn) rfl (by decide) (by kernel_rfl) ⟨rfl, by decide, by decide⟩ (by kernel_rfl) (by decide +kernel) (fun g hg => List.mem_append_left _ hg) (by decide +kernel) (by decide +kernel) (by decide +kernel) (by decide +kernel) Lw.cmK Lw.adr ?F Lw.law_ok
    intro w mg h Y G
    obtain ⟨K, KX, c⟩ := Y
    exact ⟨K, KX, Lw.all_fr KX G c, Lw.g_ok KX G c, Lw.mgf KX G c, Lw.all_ok KX G c⟩
