import PyProof.Rows.All
import Wide.All
import OpenK.AllK
import Wide.FinOn
import HandS.ForMost
import KE.KDictKeyed
import HandS.Exc
import HandS.Slots
import HandS.SlotsOwn
import HandS.Wide
import HandS.TupMul
import HandS.IsInst
import HandS.Conv
import HandS.Zip
import HandS.Walk
import HandS.More
import HandS.ExcOwn
import KE.GoesZip
import KE.GoesMore
import KE.GoesEnum
import KE.KDictWalk
import HandS.WordsExc
import KE.KDictCopyH
import HandS.DictComp
import HandS.WordsDict
import HandS.Style
import HandS.Head0
import HandS.Head1
import HandS.Head2
import HandS.HeadEnd
import HandS.HeadHook1
import HandS.HeadHook2
import HandS.HeadHook3
import HandS.HeadHook4
import PySem.Challenge.RW_saywhat_k01_whole_tellings
set_option Elab.async false
set_option linter.all false
set_option maxRecDepth 100000
set_option maxHeartbeats 0
section
/-! The evaluator: pure values, code, what the code does. No Python model in it but its texts (Str). -/
namespace Sw
open PySem (Str)

/-- a value that nobody changes any more -/
inductive PV where
  | non
  | bl (b : Bool)
  | int (i : Int)
  | str (s : Str)
  | tup (xs : List PV)
  | lst (xs : List PV)
  | dct (kvs : List (PV × PV))
  | obj (c : Nat) (fs : List PV)

/-- a value: pure, or a place of the store -/
inductive Val where
  | p (v : PV)
  | loc (l : Nat)

inductive EO where
  | lst (ps : List PV)
  | dct (kvs : List (PV × PV))
  | obj (c : Nat) (fs : List (Option Val))
  | fzn (p : PV)

abbrev Store := List EO
abbrev Env := List (Option Val)

structure Exc where
  cls : Nat
  arg : Option PV

inductive Res (α : Type) where
  | bad
  | ok (a : α) (h : Store)
  | exc (x : Exc) (h : Store)

def Res.bind {α β : Type} (r : Res α) (f : α → Store → Res β) : Res β := match r with
  | .bad => .bad
  | .ok a h => f a h
  | .exc x h => .exc x h
@[simp] theorem Res.bind_ok {α β : Type} (a : α) (h : Store) (f : α → Store → Res β) : (Res.ok a h).bind f = f a h := rfl
@[simp] theorem Res.bind_bad {α β : Type} (f : α → Store → Res β) : (Res.bad : Res α).bind f = .bad := rfl
@[simp] theorem Res.bind_exc {α β : Type} (x : Exc) (h : Store) (f : α → Store → Res β) : (Res.exc x h : Res α).bind f = .exc x h := rfl

theorem Res.bind_assoc {α β γ : Type} (r : Res α) (f : α → Store → Res β) (g : β → Store → Res γ) : (r.bind f).bind g = r.bind fun a h => (f a h).bind g := by
  cases r <;> rfl
/-- from an answer that may fail -/
def Res.of {α : Type} (o : Option α) (h : Store) : Res α := match o with
  | some a => .ok a h
  | none => .bad
@[simp] theorem Res.of_some {α : Type} (a : α) (h : Store) : Res.of (some a) h = .ok a h := rfl
@[simp] theorem Res.of_none {α : Type} (h : Store) : Res.of (none : Option α) h = .bad := rfl

/-! ### Python's == of data -/
def b2i (b : Bool) : Int := if b then 1 else 0
mutual
def PV.eqv : PV → PV → Bool
  | .non, .non => true
  | .bl a, .bl b => a == b
  | .bl a, .int j => b2i a == j
  | .int i, .bl b => i == b2i b
  | .int i, .int j => i == j
  | .str x, .str y => x == y
  | .lst xs, .lst ys => PV.eqvAll xs ys
  | .tup xs, .tup ys => PV.eqvAll xs ys
  | _, _ => false
def PV.eqvAll : List PV → List PV → Bool
  | [], [] => true
  | x :: xs, y :: ys => PV.eqv x y && PV.eqvAll xs ys
  | _, _ => false
end
mutual
/-- no dict, no instance within -/
def PV.plain : PV → Bool
  | .dct _ => false
  | .obj _ _ => false
  | .tup xs => PV.plainAll xs
  | .lst xs => PV.plainAll xs
  | .str s => PySem.PyData.strOk s
  | _ => true
def PV.plainAll : List PV → Bool
  | [] => true
  | x :: xs => PV.plain x && PV.plainAll xs
end
mutual
def PV.depth : PV → Nat
  | .tup xs => PV.depthAll xs + 1
  | .lst xs => PV.depthAll xs + 1
  | _ => 0
def PV.depthAll : List PV → Nat
  | [] => 0
  | x :: xs => max (PV.depth x) (PV.depthAll xs)
end
def sizeMax : Nat := 16777216

/-! ### keys -/
mutual
/-- a key that is a tuple: numbers, texts, None and tuples of these -/
def PV.key : PV → Option PySem.NestedKey
  | .non => some .none
  | .int i => some (.num i)
  | .str s => some (.text s)
  | .tup xs => match PV.keyAll xs with
    | some ks => some (.tup ks)
    | none => none
  | _ => none
def PV.keyAll : List PV → Option (List PySem.NestedKey)
  | [] => some []
  | x :: xs => match PV.key x, PV.keyAll xs with
    | some k, some ks => some (k :: ks)
    | _, _ => none
end
/-- ints and texts: the one kind of key; tuples (not too deep): the other -/
inductive KeyK where
  | flat
  | deep
  deriving DecidableEq
def PV.keyKind : PV → Option KeyK
  | .int _ => some .flat
  | .str _ => some .flat
  | .tup xs => match PV.key (.tup xs) with
    | some k => if k.depth ≤ 8 then some .deep else none
    | none => none
  | _ => none
def kindOf : List (PV × PV) → Option KeyK
  | [] => none
  | (k, _) :: _ => k.keyKind
def dFind : List (PV × PV) → PV → Option PV
  | [], _ => none
  | (k, v) :: r, x => if PV.eqv k x then some v else dFind r x
def dPut : List (PV × PV) → PV → PV → List (PV × PV)
  | [], k, v => [(k, v)]
  | (j, w) :: r, k, v => if PV.eqv j k then (j, v) :: r else (j, w) :: dPut r k v
/-- may the key be asked of this dict? -/
def keyFits (kvs : List (PV × PV)) (k : PV) : Bool := match k.keyKind with
  | none => false
  | some q => match kindOf kvs with
    | none => true
    | some r => q == r

/-! ### code -/
inductive Op | add | sub | mul | fdiv | mod
  deriving DecidableEq
inductive Cmp | eq | ne | lt | le | gt | ge | in_ | notin | is_ | isnot
  deriving DecidableEq
/-- built-in functions of pure values -/
inductive Bi | abs | sum | all | any | tuple | list | int | rangeL1 | max1 | min1
  deriving DecidableEq
/-- the classes that isinstance asks -/
inductive Ty | int | bool | tuple | list | str | cls (c : Nat)
  deriving DecidableEq
mutual
/-- targets -/
inductive Tg where
  | name (i : Nat)
  | tup (ts : TgL)
inductive TgL where
  | nil
  | cons (t : Tg) (r : TgL)
end

mutual
inductive C where
  | var (i : Nat)
  | pv (p : PV)
  | tup (as : CL)
  | lst (as : CL)
  | newL (as : CL)
  | newD
  | op (o : Op) (a b : C)
  | neg (a : C)
  | cmp (o : Cmp) (a b : C)
  | chain (o q : Cmp) (a b c : C)
  | and (a b : C)
  | or (a b : C)
  | not (a : C)
  | ite (t a b : C)
  | isi (t : Ty) (a : C)
  | bi (b : Bi) (a : C)
  | len (a : C)
  | call (f : Nat) (as : CL)
  | make (c : Nat) (as : CL)
  | idx (a i : C)
  | fld (a : C) (f : Nat)
  | meth (a : C) (m : Nat) (as : CL)
  | callS (f : Nat) (as : CL)
  | methS (a : C) (m : Nat) (as : CL)
  | makeS (c : Nat) (as : CL)
  | lcN (it : I) (t : Tg) (own : List Nat) (test e : C)
  | dcN (it : I) (t : Tg) (own : List Nat) (test k e : C)
  | biN (b : Bi) (a : C)
  | lc (it : I) (t : Tg) (own : List Nat) (test e : C)
  | dc (it : I) (t : Tg) (own : List Nat) (test k e : C)
inductive CL where
  | nil
  | cons (a : C) (r : CL)
/-- what is walked -/
inductive I where
  | val (a : C)
  | range (a : C)
  | range2 (a b : C)
  | zip (a b : C)
  | enum (a : C)
  | items (a : C)
  | values (a : C)
end

inductive S where
  | pass
  | seq (a b : S)
  | set (i : Nat) (e : C)
  | par (is : List Nat) (es : CL)
  | unpack (t : Tg) (e : C)
  | fset (a : C) (f : Nat) (e : C)
  | iset (o k e : C)
  | append (o e : C)
  | expr (e : C)
  | aug (i : Nat) (o : Op) (e : C)
  | ite (t : C) (a b : S)
  | for_ (it : I) (t : Tg) (b : S)
  | while_ (t : C) (b : S)
  | ret (e : C)
  | retV (e : C)
  | never

/-- how a name of a class is read: a slot, a property, a method -/
inductive At where
  | slot (i : Nat)
  | prop (f : Nat)
  | meth (f : Nat)
  deriving DecidableEq

/-- the program: defs by their number (number of parameters, number of names, body); classes: attributes by name's number, the number of slots, __init__, __len__, __eq__ -/
structure Fn where
  params : Nat
  names : Nat
  body : S
structure Cls where
  ats : List (Nat × At)
  slots : Nat
  init : Nat
  len : Option Nat
  eq : Option Nat
structure Tab where
  fns : List Fn
  cls : List Cls

def Tab.at (T : Tab) (c f : Nat) : Option At := match T.cls[c]? with
  | some k => k.ats.lookup f
  | none => none

def Tab.initOf (T : Tab) (c : Nat) : Nat := match T.cls[c]? with
  | some k => k.init
  | none => 0

def Tab.lenOf (T : Tab) (c : Nat) : Option Nat := match T.cls[c]? with
  | some k => k.len
  | none => none

/-! ### operations on pure values -/
def bigInt (i : Int) : Bool := decide (i.natAbs < 2 ^ 8192)
def smallInt (i : Int) : Bool := decide (-(2 ^ 64) < i) && decide (i < 2 ^ 64)
def op2 : Op → PV → PV → Option PV
  | .add, .int i, .int j => some (.int (i + j))
  | .sub, .int i, .int j => some (.int (i - j))
  | .mul, .int i, .int j => if (smallInt i || smallInt j) || (bigInt i && bigInt j) then some (.int (i * j)) else none
  | .fdiv, .int i, .int j => if decide (0 < j) && bigInt j then some (.int (i / j)) else none
  | .mod, .int i, .int j => if 0 < j then some (.int (i % j)) else none
  | .mul, .tup xs, .int n => if !xs.isEmpty && decide (2 ≤ n) && decide (n ≤ 1000) && decide (xs.length ≤ 1000) then some (.tup (List.replicate n.toNat xs).flatten) else none
  | _, _, _ => none
/-- asked of two things of which the one is None, or both are data -/
def eqOk (a b : PV) : Bool := a.plain && b.plain && decide (a.depth ≤ 60) && decide (b.depth ≤ 60)
def pairEq (b : List (PV × PV)) (p : PV × PV) : Bool := match dFind b p.1 with
  | some v => PV.eqv p.2 v
  | none => false
def dictEq (a b : List (PV × PV)) : Bool := a.length == b.length && a.all (pairEq b)
def dictOk (a b : List (PV × PV)) : Bool := kindOf a == some .deep && kindOf b == some .deep && (a.all fun p => eqOk p.2 p.2) && (b.all fun p => eqOk p.2 p.2)
def eqPV : PV → PV → Option Bool
  | .str x, .str y => some (decide (x = y))
  | .dct a, .dct b => if dictOk a b then some (dictEq a b) else none
  | a, b => if eqOk a b then some (PV.eqv a b) else none
def isNon : PV → Bool
  | .non => true
  | _ => false
def isFlat : PV → Bool
  | .non => true
  | .bl _ => true
  | .int _ => true
  | .str _ => true
  | _ => false
def cmp2 : Cmp → PV → PV → Option Bool
  | .eq, a, b => eqPV a b
  | .ne, a, b => (eqPV a b).map (!·)
  | .lt, .int i, .int j => some (decide (i < j))
  | .le, .int i, .int j => some (decide (i ≤ j))
  | .gt, .int i, .int j => some (decide (j < i))
  | .ge, .int i, .int j => some (decide (j ≤ i))
  | .in_, k, .dct kvs => if keyFits kvs k then some (dFind kvs k).isSome else none
  | .notin, k, .dct kvs => if keyFits kvs k then some (!(dFind kvs k).isSome) else none
  | .is_, a, .non => some (isNon a)
  | .isnot, a, .non => some (!isNon a)
  | _, _, _ => none
def isiPV : Ty → PV → Bool
  | .int, .int _ => true
  | .int, .bl _ => true
  | .bool, .bl _ => true
  | .tuple, .tup _ => true
  | .list, .lst _ => true
  | .str, .str _ => true
  | .cls c, .obj d _ => c == d
  | _, _ => false
def isDct : PV → Bool
  | .dct _ => true
  | _ => false
def bools : List PV → Option (List Bool)
  | [] => some []
  | .bl b :: r => (bools r).map (b :: ·)
  | _ => none
def nums : List PV → Option (List Int)
  | [] => some []
  | .int b :: r => (nums r).map (b :: ·)
  | _ => none
def rangePV (n : Int) : List PV := (List.range n.toNat).map fun (i : Nat) => PV.int i
def maxI : Int → List Int → Int
  | a, [] => a
  | a, b :: r => maxI (if b > a then b else a) r
def minI : Int → List Int → Int
  | a, [] => a
  | a, b :: r => minI (if b < a then b else a) r
def bi1 : Bi → PV → Option PV
  | .abs, .int i => some (.int (if i < 0 then -i else i))
  | .int, .int i => some (.int i)
  | .all, .lst xs => (bools xs).map fun bs => .bl (bs.all id)
  | .any, .lst xs => (bools xs).map fun bs => .bl (bs.any id)
  | .sum, .tup xs => (nums xs).map fun ns => .int ns.sum
  | .sum, .lst xs => (nums xs).map fun ns => .int ns.sum
  | .tuple, .lst xs => some (.tup xs)
  | .tuple, .tup xs => some (.tup xs)
  | .list, .lst xs => some (.lst xs)
  | .list, .tup xs => some (.lst xs)
  | .rangeL1, .int n => if -1000000 < n ∧ n < 1000000 then some (.lst (rangePV n)) else none
  | _, _ => none
def idx2 : PV → PV → Option PV
  | .tup xs, .int i => L2.atI xs i
  | .lst xs, .int i => L2.atI xs i
  | .str z, .int i => if z.length ≤ sizeMax then (L2.atI z.cps.toList i).map fun c => .str ⟨#[c]⟩ else none
  | .dct kvs, k => if keyFits kvs k then dFind kvs k else none
  | _, _ => none
def truth : PV → Option Bool
  | .bl b => some b
  | _ => none
def seqOf : PV → Option (List PV)
  | .tup xs => some xs
  | .lst xs => some xs
  | _ => none
def itemsOf : PV → Option (List PV)
  | .tup xs => some xs
  | .lst xs => some xs
  | .dct kvs => some (kvs.map (·.1))
  | _ => none
def pairsOf : PV → Option (List PV)
  | .dct kvs => some (kvs.map fun p => .tup [p.1, p.2])
  | _ => none
def valuesOf : PV → Option (List PV)
  | .dct kvs => some (kvs.map (·.2))
  | _ => none
def zipPV : List PV → List PV → List PV
  | a :: r, b :: q => .tup [a, b] :: zipPV r q
  | _, _ => []
def enumPV (k : Nat) : List PV → List PV
  | [] => []
  | a :: r => .tup [.int k, a] :: enumPV (k + 1) r

/-! ### the store -/
/-- what stands at a place, read -/
def view (h : Store) : Val → Option PV
  | .p v => some v
  | .loc l => match h[l]? with
    | some (.lst ps) => some (.lst ps)
    | some (.dct kvs) => some (.dct kvs)
    | some (.fzn p) => some p
    | _ => none
def frzSlots : List (Option Val) → Option (List PV)
  | [] => some []
  | some (.p v) :: r => (frzSlots r).map (v :: ·)
  | _ => none
/-- freeze -/
def toP (h : Store) : Val → Res PV
  | .p v => .ok v h
  | .loc l => match h[l]? with
    | some (.lst ps) => .ok (.lst ps) (h.set l (.fzn (.lst ps)))
    | some (.dct kvs) => .ok (.dct kvs) (h.set l (.fzn (.dct kvs)))
    | some (.fzn p) => .ok p h
    | some (.obj c fs) => match frzSlots fs with
      | some (p :: ps) => .ok (.obj c (p :: ps)) (h.set l (.fzn (.obj c (p :: ps))))
      | _ => .bad
    | none => .bad
def putSl (fs : List (Option Val)) (i : Nat) (v : Val) : List (Option Val) := (fs ++ List.replicate (i + 1 - fs.length) none).set i (some v)

mutual
/-- stores by a target -/
def setTg : Tg → PV → Env → Option Env
  | .name i, v, ρ => some (ρ.set i (some (.p v)))
  | .tup ts, v, ρ => match v with
    | .tup xs => setTgs ts xs ρ
    | _ => none
def setTgs : TgL → List PV → Env → Option Env
  | .nil, xs, ρ => match xs with
    | [] => some ρ
    | _ => none
  | .cons t r, xs, ρ => match xs with
    | x :: ys => (match setTg t x ρ with
      | some ρ1 => setTgs r ys ρ1
      | none => none)
    | [] => none
end
def wipeE (ρ : Env) : List Nat → Env
  | [] => ρ
  | v :: vs => (wipeE ρ vs).set v none

/-- how defs run -/
structure Calls where
  run : Nat → List Val → Store → Res Val
  fuel : Nat
/-- frozen; seen -/
def fz (v : Val) (h : Store) : Res PV := toP h v
def vw (v : Val) (h : Store) : Res PV := Res.of (view h v) h
/-- with pure values, in a store of its own -/
def Calls.call (Γ : Calls) (f : Nat) (ps : List PV) : Res PV := (Γ.run f (ps.map .p) []).bind fz
def isNonV : Val → Bool
  | .p .non => true
  | _ => false
def Calls.init (Γ : Calls) (c f : Nat) (ps : List PV) : Res PV := (Γ.run f (.loc 0 :: ps.map .p) [.obj c []]).bind fun v h => if isNonV v then fz (.loc 0) h else .bad

/-- a number or a text -/
def isFlatK : PV → Bool
  | .int _ => true
  | .str _ => true
  | _ => false
/-- a comprehension's loop -/
def lcGo (f : Env → Store → Res (Option PV)) (t : Tg) (ρ : Env) : List PV → List PV → Store → Res (List PV)
  | [], acc, h => .ok acc h
  | x :: r, acc, h => match setTg t x ρ with
    | none => .bad
    | some ρ1 => (match f ρ1 h with
      | .ok (some y) h1 => lcGo f t ρ r (acc ++ [y]) h1
      | .ok none h1 => lcGo f t ρ r acc h1
      | _ => .bad)
def dcGo (f : Env → Store → Res (Option (PV × PV))) (t : Tg) (ρ : Env) : List PV → List (PV × PV) → Store → Res (List (PV × PV))
  | [], acc, h => .ok acc h
  | x :: r, acc, h => match setTg t x ρ with
    | none => .bad
    | some ρ1 => (match f ρ1 h with
      | .ok (some (k, y)) h1 => if isFlatK k then dcGo f t ρ r (dPut acc k y) h1 else .bad
      | .ok none h1 => dcGo f t ρ r acc h1
      | _ => .bad)

def tru (v : PV) (h : Store) : Res Bool := Res.of (truth v) h

/-- an instance of no class of the table -/
def noCls (T : Tab) : PV → Bool
  | .obj c _ => (T.cls[c]?).isNone
  | _ => false
/-- what was frozen is pure -/
def norm (h : Store) : Val → Val
  | .p v => .p v
  | .loc l => match h[l]? with
    | some (.fzn p) => .p p
    | _ => .loc l
/-- the class of an instance -/
def clsOf (h : Store) (v : Val) : Option Nat := match norm h v with
  | .p (.obj c _) => some c
  | .loc l => (match h[l]? with
    | some (.obj c _) => some c
    | _ => none)
  | _ => none
/-- a list of the store -/
def isLst (h : Store) : Val → Bool
  | .p _ => false
  | .loc l => match h[l]? with
    | some (.lst _) => true
    | _ => false
/-- True or False -/
def asB : Val → Store → Res Bool
  | .p (.bl b), h => .ok b h
  | _, _ => .bad
variable (T : Tab) (Γ : Calls)
mutual
def evE : C → Env → Store → Res Val
  | .var i, ρ, h => match ρ[i]? with
    | some (some v) => .ok v h
    | _ => .bad
  | .pv p, _, h => .ok (.p p) h
  | .tup as, ρ, h => (evL as ρ h).bind fun ps h1 => if ps.length ≤ sizeMax then .ok (.p (.tup ps)) h1 else .bad
  | .lst as, ρ, h => (evL as ρ h).bind fun ps h1 => if ps.length ≤ sizeMax then .ok (.p (.lst ps)) h1 else .bad
  | .newL as, ρ, h => (evL as ρ h).bind fun ps h1 => if ps.length ≤ sizeMax then .ok (.loc h1.length) (h1 ++ [.lst ps]) else .bad
  | .newD, _, h => .ok (.loc h.length) (h ++ [.dct []])
  | .op o a b, ρ, h => (((evE a ρ h).bind fz)).bind fun x h1 => (((evE b ρ h1).bind fz)).bind fun y h2 => Res.of ((op2 o x y).map .p) h2
  | .neg a, ρ, h => (((evE a ρ h).bind fz)).bind fun x h1 => match x with
    | .int i => .ok (.p (.int (-i))) h1
    | _ => .bad
  | .cmp o a b, ρ, h => (evE a ρ h).bind fun u h1 => (evE b ρ h1).bind fun v h2 => (vw u h2).bind fun x h3 => (vw v h3).bind fun y h4 => Res.of ((cmp2 o x y).map fun z => .p (.bl z)) h4
  | .chain o q a b c, ρ, h => (evE a ρ h).bind fun u h1 => (evE b ρ h1).bind fun v h2 => (vw u h2).bind fun x h3 => (vw v h3).bind fun y h4 => match cmp2 o x y with
    | none => .bad
    | some false => .ok (.p (.bl false)) h4
    | some true => (evE c ρ h4).bind fun w h5 => (vw v h5).bind fun y h6 => (vw w h6).bind fun z h7 => Res.of ((cmp2 q y z).map fun z => .p (.bl z)) h7
  | .and a b, ρ, h => ((evE a ρ h).bind asB).bind fun x h1 => match x with
    | true => evE b ρ h1
    | false => .ok (.p (.bl false)) h1
  | .or a b, ρ, h => ((evE a ρ h).bind asB).bind fun x h1 => match x with
    | false => evE b ρ h1
    | true => .ok (.p (.bl true)) h1
  | .not a, ρ, h => ((evE a ρ h).bind asB).bind fun x h1 => .ok (.p (.bl (!x))) h1
  | .ite t a b, ρ, h => ((evE t ρ h).bind asB).bind fun x h1 => match x with
    | true => evE a ρ h1
    | false => evE b ρ h1
  | .isi t a, ρ, h => (((evE a ρ h).bind fz)).bind fun x h1 => if isDct x || noCls T x then .bad else .ok (.p (.bl (isiPV t x))) h1
  | .bi b a, ρ, h => (((evE a ρ h).bind vw)).bind fun x h1 => Res.of ((bi1 b x).map .p) h1
  | .len a, ρ, h => (evE a ρ h).bind fun u h1 => match norm h1 u with
    | .p (.tup xs) => .ok (.p (.int xs.length)) h1
    | .p (.lst xs) => .ok (.p (.int xs.length)) h1
    | .p (.dct kvs) => .ok (.p (.int kvs.length)) h1
    | .p (.str z) => if z.length ≤ sizeMax then .ok (.p (.int z.length)) h1 else .bad
    | .p (.obj c fs) => (match T.lenOf c with
      | some g => (match Γ.call g [.obj c fs] with
        | .ok (.int n) _ => if 0 ≤ n ∧ n < 1000000 then .ok (.p (.int n)) h1 else .bad
        | _ => .bad)
      | none => .bad)
    | .loc l => (match h1[l]? with
      | some (.lst xs) => .ok (.p (.int xs.length)) h1
      | some (.dct kvs) => .ok (.p (.int kvs.length)) h1
      | some (.obj c _) => (match T.lenOf c with
        | some g => (match Γ.run g [.loc l] h1 with
          | .ok (.p (.int n)) h2 => if 0 ≤ n ∧ n < 1000000 then .ok (.p (.int n)) h2 else .bad
          | _ => .bad)
        | none => .bad)
      | _ => .bad)
    | _ => .bad
  | .call f as, ρ, h => (evL as ρ h).bind fun ps h1 => match Γ.call f ps with
    | .ok v _ => .ok (.p v) h1
    | .exc x _ => .exc x h1
    | .bad => .bad
  | .make c as, ρ, h => (evL as ρ h).bind fun ps h1 => match Γ.init c (T.initOf c) ps with
    | .ok v _ => .ok (.p v) h1
    | .exc x _ => .exc x h1
    | .bad => .bad
  | .idx a i, ρ, h => (evE a ρ h).bind fun u h1 => ((evE i ρ h1).bind fz).bind fun y h2 => (vw u h2).bind fun x h3 => Res.of ((idx2 x y).map .p) h3
  | .fld a f, ρ, h => (evE a ρ h).bind fun x h1 => match norm h1 x with
    | .p (.obj c fs) => (match T.at c f with
      | some (.slot i) => Res.of ((fs[i]?).map .p) h1
      | some (.prop g) => (match Γ.call g [.obj c fs] with
        | .ok v _ => .ok (.p v) h1
        | _ => .bad)
      | _ => .bad)
    | .loc l => (match h1[l]? with
      | some (.obj c fs) => (match T.at c f with
        | some (.slot i) => (match fs[i]? with
          | some (some v) => .ok v h1
          | _ => .bad)
        | some (.prop g) => (match Γ.run g [.loc l] h1 with
          | .ok v h2 => .ok v h2
          | _ => .bad)
        | _ => .bad)
      | _ => .bad)
    | _ => .bad
  | .meth a m as, ρ, h => (((evE a ρ h).bind fz)).bind fun x h1 => match x with
    | .obj c fs => (match T.at c m with
      | some (.meth g) => (evL as ρ h1).bind fun ps h2 => (match Γ.call g (.obj c fs :: ps) with
        | .ok v _ => .ok (.p v) h2
        | .exc x _ => .exc x h2
        | .bad => .bad)
      | _ => .bad)
    | _ => .bad
  | .callS f as, ρ, h => (evVs as ρ h).bind fun vs h1 => Γ.run f vs h1
  | .methS a m as, ρ, h => (evE a ρ h).bind fun x h1 => match clsOf h1 x with
    | some c => (match T.at c m with
      | some (.meth g) => (evVs as ρ h1).bind fun vs h2 => Γ.run g (x :: vs) h2
      | _ => .bad)
    | none => .bad
  | .makeS c as, ρ, h => (evVs as ρ h).bind fun vs h1 => (Γ.run (T.initOf c) (.loc h1.length :: vs) (h1 ++ [.obj c []])).bind fun v h2 => if isNonV v then .ok (.loc h1.length) h2 else .bad
  | .biN b a, ρ, h => ((evE a ρ h).bind vw).bind fun x h1 => match bi1 b x with
    | some (.lst ys) => .ok (.loc h1.length) (h1 ++ [.lst ys])
    | _ => .bad
  | .lcN it t own test e, ρ, h => (evI it ρ h).bind fun xs h1 =>
      (lcGo (fun ρ1 h2 => ((evE test ρ1 h2).bind asB).bind fun b h3 => match b with
        | true => (((evE e ρ1 h3).bind fz)).bind fun y h4 => .ok (some y) h4
        | false => .ok none h3) t (wipeE ρ own) xs [] h1).bind fun ys h2 => if xs.length ≤ sizeMax then .ok (.loc h2.length) (h2 ++ [.lst ys]) else .bad
  | .dcN it t own test k e, ρ, h => (evI it ρ h).bind fun xs h1 =>
      (dcGo (fun ρ1 h2 => ((evE test ρ1 h2).bind asB).bind fun b h3 => match b with
        | true => (((evE k ρ1 h3).bind fz)).bind fun x h4 => (((evE e ρ1 h4).bind fz)).bind fun y h5 => .ok (some (x, y)) h5
        | false => .ok none h3) t (wipeE ρ own) xs [] h1).bind fun ys h2 => if xs.length ≤ sizeMax then .ok (.loc h2.length) (h2 ++ [.dct ys]) else .bad
  | .lc it t own test e, ρ, h => (evI it ρ h).bind fun xs h1 =>
      (lcGo (fun ρ1 h2 => ((evE test ρ1 h2).bind asB).bind fun b h3 => match b with
        | true => (((evE e ρ1 h3).bind fz)).bind fun y h4 => .ok (some y) h4
        | false => .ok none h3) t (wipeE ρ own) xs [] h1).bind fun ys h2 => if xs.length ≤ sizeMax then .ok (.p (.lst ys)) h2 else .bad
  | .dc it t own test k e, ρ, h => (evI it ρ h).bind fun xs h1 =>
      (dcGo (fun ρ1 h2 => ((evE test ρ1 h2).bind asB).bind fun b h3 => match b with
        | true => (((evE k ρ1 h3).bind fz)).bind fun x h4 => (((evE e ρ1 h4).bind fz)).bind fun y h5 => .ok (some (x, y)) h5
        | false => .ok none h3) t (wipeE ρ own) xs [] h1).bind fun ys h2 => if xs.length ≤ sizeMax then .ok (.p (.dct ys)) h2 else .bad
def evL : CL → Env → Store → Res (List PV)
  | .nil, _, h => .ok [] h
  | .cons a r, ρ, h => (((evE a ρ h).bind fz)).bind fun x h1 => (evL r ρ h1).bind fun xs h2 => .ok (x :: xs) h2
/-- values, not frozen -/
def evVs : CL → Env → Store → Res (List Val)
  | .nil, _, h => .ok [] h
  | .cons a r, ρ, h => (evE a ρ h).bind fun x h1 => (evVs r ρ h1).bind fun xs h2 => .ok (x :: xs) h2
def evI : I → Env → Store → Res (List PV)
  | .val a, ρ, h => (((evE a ρ h).bind fz)).bind fun x h1 => Res.of (itemsOf x) h1
  | .range a, ρ, h => (((evE a ρ h).bind fz)).bind fun x h1 => match x with
    | .int n => if -1000000 < n ∧ n < 1000000 then .ok (rangePV n) h1 else .bad
    | _ => .bad
  | .range2 a b, ρ, h => (((evE a ρ h).bind fz)).bind fun x h1 => (((evE b ρ h1).bind fz)).bind fun y h2 => match x, y with
    | .int m, .int n => if -1000000 < m ∧ m < 1000000 ∧ n < 1000000 ∧ -1000000 < n then .ok ((List.range (n - m).toNat).map fun (i : Nat) => PV.int (m + i)) h2 else .bad
    | _, _ => .bad
  | .zip a b, ρ, h => (((evE a ρ h).bind fz)).bind fun x h1 => (((evE b ρ h1).bind fz)).bind fun y h2 => match seqOf x, seqOf y with
    | some xs, some ys => .ok (zipPV xs ys) h2
    | _, _ => .bad
  | .enum a, ρ, h => (((evE a ρ h).bind fz)).bind fun x h1 => match seqOf x with
    | some xs => .ok (enumPV 0 xs) h1
    | none => .bad
  | .items a, ρ, h => (((evE a ρ h).bind fz)).bind fun x h1 => Res.of (pairsOf x) h1
  | .values a, ρ, h => (((evE a ρ h).bind fz)).bind fun x h1 => Res.of (valuesOf x) h1
end
/-- frozen; seen -/
abbrev evP (c : C) (ρ : Env) (h : Store) : Res PV := (evE T Γ c ρ h).bind fz
abbrev evB (c : C) (ρ : Env) (h : Store) : Res Bool := (evE T Γ c ρ h).bind asB
abbrev evV (c : C) (ρ : Env) (h : Store) : Res PV := (evE T Γ c ρ h).bind vw

/-! ### statements -/
inductive RS where
  | bad
  | nx (ρ : Env) (h : Store)
  | rt (v : Val) (h : Store)
  | bk (ρ : Env) (h : Store)
  | ct (ρ : Env) (h : Store)
  | exc (x : Exc) (ρ : Env) (h : Store)
/-- an expression, then a statement -/
def Res.thn {α : Type} (r : Res α) (ρ : Env) (f : α → Store → RS) : RS := match r with
  | .bad => .bad
  | .ok a h => f a h
  | .exc x h => .exc x ρ h
@[simp] theorem Res.thn_ok {α : Type} (a : α) (h : Store) (ρ : Env) (f : α → Store → RS) : (Res.ok a h).thn ρ f = f a h := rfl
@[simp] theorem Res.thn_bad {α : Type} (ρ : Env) (f : α → Store → RS) : (Res.bad : Res α).thn ρ f = .bad := rfl
@[simp] theorem Res.thn_exc {α : Type} (x : Exc) (h : Store) (ρ : Env) (f : α → Store → RS) : (Res.exc x h : Res α).thn ρ f = .exc x ρ h := rfl
def RS.seq (r : RS) (f : Env → Store → RS) : RS := match r with
  | .nx ρ h => f ρ h
  | r => r
@[simp] theorem RS.seq_nx (ρ : Env) (h : Store) (f : Env → Store → RS) : (RS.nx ρ h).seq f = f ρ h := rfl
@[simp] theorem RS.seq_rt (v : Val) (h : Store) (f : Env → Store → RS) : (RS.rt v h).seq f = .rt v h := rfl
/-- one turn's end: the next turn, or the loop's end -/
def RS.turn (r : RS) (f : Env → Store → RS) : RS := match r with
  | .nx ρ h => f ρ h
  | .ct ρ h => f ρ h
  | .bk ρ h => .nx ρ h
  | r => r
@[simp] theorem RS.turn_nx (ρ : Env) (h : Store) (f : Env → Store → RS) : (RS.nx ρ h).turn f = f ρ h := rfl
@[simp] theorem RS.turn_rt (v : Val) (h : Store) (f : Env → Store → RS) : (RS.rt v h).turn f = .rt v h := rfl
def forGo (b : Env → Store → RS) (t : Tg) : List PV → Env → Store → RS
  | [], ρ, h => .nx ρ h
  | x :: r, ρ, h => match setTg t x ρ with
    | none => .bad
    | some ρ1 => (b ρ1 h).turn (forGo b t r)
def whileGo (t : Env → Store → Res Bool) (b : Env → Store → RS) : Nat → Env → Store → RS
  | 0, _, _ => .bad
  | n + 1, ρ, h => (t ρ h).thn ρ fun v h1 => match v with
    | true => (b ρ h1).turn (whileGo t b n)
    | false => .nx ρ h1
def setAll : List Nat → List Val → Env → Option Env
  | [], [], ρ => some ρ
  | i :: is, v :: vs, ρ => setAll is vs (ρ.set i (some v))
  | _, _, _ => none
def evS : S → Env → Store → RS
  | .pass, ρ, h => .nx ρ h
  | .seq a b, ρ, h => (evS a ρ h).seq (evS b)
  | .set i e, ρ, h => (evE T Γ e ρ h).thn ρ fun v h1 => .nx (ρ.set i (some v)) h1
  | .par is es, ρ, h => (evVs T Γ es ρ h).thn ρ fun vs h1 => (match setAll is vs ρ with
    | some ρ1 => .nx ρ1 h1
    | none => .bad)
  | .unpack t e, ρ, h => (evP T Γ e ρ h).thn ρ fun v h1 => (match setTg t v ρ with
    | some ρ1 => .nx ρ1 h1
    | none => .bad)
  | .fset o f e, ρ, h => (evE T Γ e ρ h).thn ρ fun v h1 => (evE T Γ o ρ h1).thn ρ fun x h2 => (match x with
    | .loc l => (match h2[l]? with
      | some (.obj c fs) => (match T.at c f with
        | some (.slot i) => .nx ρ (h2.set l (.obj c (putSl fs i v)))
        | _ => .bad)
      | _ => .bad)
    | _ => .bad)
  | .iset o k e, ρ, h => (evP T Γ e ρ h).thn ρ fun v h1 => (evE T Γ o ρ h1).thn ρ fun x h2 => (evP T Γ k ρ h2).thn ρ fun y h3 => (match x with
    | .loc l => (match h3[l]? with
      | some (.dct kvs) => if keyFits kvs y && decide (kvs.length < sizeMax) then .nx ρ (h3.set l (.dct (dPut kvs y v))) else .bad
      | some (.lst ps) => (match y with
        | .int i => (match L2.ixN ps.length i with
          | some j => .nx ρ (h3.set l (.lst (ps.set j v)))
          | none => .bad)
        | _ => .bad)
      | _ => .bad)
    | _ => .bad)
  | .append o e, ρ, h => (evE T Γ o ρ h).thn ρ fun x h1 => if isLst h1 x then (evP T Γ e ρ h1).thn ρ fun v h2 => (match x with
    | .loc l => (match h2[l]? with
      | some (.lst ps) => if ps.length < sizeMax then .nx ρ (h2.set l (.lst (ps ++ [v]))) else .bad
      | _ => .bad)
    | _ => .bad) else .bad
  | .expr e, ρ, h => (evE T Γ e ρ h).thn ρ fun _ h1 => .nx ρ h1
  | .aug i o e, ρ, h => (match ρ[i]? with
    | some (some (.p (.int x))) => (evP T Γ e ρ h).thn ρ fun y h1 => (match y with
      | .int z => (match o with
        | .add => .nx (ρ.set i (some (.p (.int (x + z))))) h1
        | _ => .bad)
      | _ => .bad)
    | _ => .bad)
  | .ite t a b, ρ, h => (evB T Γ t ρ h).thn ρ fun v h1 => (match v with
    | true => evS a ρ h1
    | false => evS b ρ h1)
  | .for_ it t b, ρ, h => (evI T Γ it ρ h).thn ρ fun xs h1 => forGo (evS b) t xs ρ h1
  | .while_ t b, ρ, h => whileGo (evB T Γ t) (evS b) Γ.fuel ρ h
  | .ret e, ρ, h => (evP T Γ e ρ h).thn ρ fun v h1 => .rt (.p v) h1
  | .retV e, ρ, h => (evE T Γ e ρ h).thn ρ fun v h1 => .rt v h1
  | .never, _, _ => .bad

/-! ### calls -/
def startE (F : Fn) (vs : List Val) : Env := vs.map some ++ List.replicate (F.names - vs.length) none
/-- a def runs -/
def runF (F : Fn) (vs : List Val) (h : Store) : Res Val := if vs.length = F.params then (match evS T Γ F.body (startE F vs) h with
  | .rt v h1 => .ok v h1
  | .nx _ h1 => .ok (.p .non) h1
  | .exc x _ h1 => .exc x h1
  | _ => .bad) else .bad
def calls (fuel : Nat) : Nat → Calls
  | 0 => ⟨fun _ _ _ => .bad, fuel⟩
  | n + 1 => ⟨fun f vs h => match T.fns[f]? with
    | some F => runF T (calls fuel n) F vs h
    | none => .bad, fuel⟩
end Sw

end

section
/-! How pure values and the store stand in the abstract heap. -/
namespace Sw
open PySem L2

/-! ### an object told anew -/
def Still : HO → Bool
  | .tup _ => true
  | .frz _ _ => true
  | .tbl _ => true
  | .own _ => true
  | _ => false
section
variable {X : Cx} {pins : List (Addr × Obj)} {σ : St} {H : Hp} {s : Shared}
theorem Inv.retold {d : Addr} {u u' : HO} (I : Inv X pins σ H s) (h : H d = some u) (hu : Still u = false) (new : ObjOk X.prog X.w (upd H d u') s.heap d u') : Inv X pins σ (upd H d u') s := by
  have ne : ∀ b v, H b = some v → Still v = true → b ≠ d := fun b v e t z => by
    rw [z, h] at e
    cases e
    rw [hu] at t
    cases t
  have nn : ∀ b, H b = none → b ≠ d := fun b e z => by
    rw [z, h] at e
    cases e
  have un : Un X.fs [] H (upd H d u') s.heap s.heap :=
    ⟨fun b o e _ _ _ => e, fun b o e _ _ _ => ⟨o.slots, e⟩, fun b o e n _ => by rw [upd_ne (nn b n)]; exact n, fun b o e _ => ⟨o, e⟩,
      fun b xs e => by rw [upd_ne (ne b _ e rfl)]; exact e, fun b o v e => by rw [upd_ne (ne b _ e rfl)]; exact e,
      fun b ps e => ⟨#[], by rw [upd_ne (ne b _ e rfl), e]; simp⟩⟩
  refine I.un (t' := s.toks) un fun b v e => ?_
  by_cases hb : b = d
  · subst hb
    rw [upd_same] at e
    cases e
    exact new
  · rw [upd_ne hb] at e
    exact (I.hok b v e).stay (fun _ _ _ q => q) (fun c q => by rw [upd_ne (ne c _ q rfl)]; exact q) fun c xs q => by rw [upd_ne (ne c _ q rfl)]; exact q
/-- known to the object from now on -/
theorem Inv.frozen {d : Addr} {u : HO} (I : Inv X pins σ H s) (h : H d = some u) (hu : Still u = false) : ∃ od, Inv X pins σ (upd H d (.frz od u)) s := by
  have x := I.hok d u h
  have lt := x.lt
  obtain ⟨od, e⟩ : ∃ od, s.heap.get? d = some od := by
    cases u with
    | lst xs => obtain ⟨_, _, _, _, e⟩ := x; exact ⟨_, e⟩
    | dK kvs => obtain ⟨_, _, _, _, o, _, _, e, _⟩ := x; exact ⟨o, e⟩
    | dT kvs => obtain ⟨_, _, _, _, o, _, _, e, _⟩ := x; exact ⟨o, e⟩
    | set S n => obtain ⟨o, _, _, _, e, _⟩ := x; exact ⟨o, e⟩
    | ins C dx fs => obtain ⟨_, _, _, e, _⟩ := x; exact ⟨_, e⟩
    | xd fs => obtain ⟨_, ⟨_, _, _, e, _⟩, _⟩ := x; exact ⟨_, e⟩
    | ext φ => obtain ⟨_, ⟨_, e⟩, _⟩ := x; exact ⟨_, e⟩
    | rng lo hi => obtain ⟨_, _, _, e⟩ := x; exact ⟨_, e⟩
    | met f y => exact ⟨_, show s.heap.get? d = some _ from x⟩
    | tup _ => cases hu
    | frz _ _ => cases hu
    | tbl _ => cases hu
    | own _ => cases hu
  refine ⟨od, Inv.retold I h hu ⟨e, x.stay (fun b v _ q => q) (fun b q => ?_) fun b xs q => ?_⟩⟩
  · rw [upd_ne (fun z => by rw [z, h] at q; cases q; cases hu)]; exact q
  · rw [upd_ne (fun z => by rw [z, h] at q; cases q; cases hu)]; exact q
end

/-! ### the world in which the values stand -/
structure Wd where
  P : Program
  w : World
  K : PySem.W.Frag
  ca : Nat → Addr
  xf : Nat → Str

/-- a list that stays -/
def SqF (K : PySem.W.Frag) (H : Hp) (a : Addr) (xs : List V) : Prop :=
  (∃ o, H a = some (.frz o (.lst xs))) ∨
    ∃ (o : Obj) (its : Array Value) (n : Nat), K.lookup a = some o ∧ o.cls = .type "list" ∧ o.dict = none ∧ o.data = .seq its n ∧ its.size ≤ sizeLine ∧ Vals xs its.toList
theorem SqF.sq {K : PySem.W.Frag} {H : Hp} {a : Addr} {xs : List V} (h : SqF K H a xs) : SqL K H a xs := by
  rcases h with ⟨o, e⟩ | h
  · exact .inl (.inr ⟨o, e⟩)
  · exact .inr h

/-- the entries of a dict whose keys are tuples, told of the one object -/
def dNφ (D : Wd) (d : Addr) (xs : List (NestedKey × Addr × V)) (h : Heap) : Prop :=
  xs.length ≤ sizeLine ∧ (d == sysModules) = false ∧ ∃ us : List (NestedKey × Addr × Value), Paired (fun (p : NestedKey × Addr × V) (q : NestedKey × Addr × Value) => p.1 = q.1 ∧ p.2.1 = q.2.1 ∧ RelV p.2.2 q.2.2) xs us ∧
    ∃ o es ep, h.get? d = some o ∧ o.ExactDict ∧ o.data = .dict es ep ∧ es.toList = us.map (entryOfKey (nestedKind D.P D.w)) ∧ (us.map (·.1)).Nodup
def dN (D : Wd) (d : Addr) (xs : List (NestedKey × Addr × V)) : HO := .ext (dNφ D d xs)

mutual
/-- the value stands for the pure value -/
inductive RepP (D : Wd) (H : Hp) : PV → V → Prop where
  | non : RepP D H .non .non
  | bl (b : Bool) : RepP D H (.bl b) (.bl b)
  | int (i : Int) : RepP D H (.int i) (.int i)
  | str (s : Str) : RepP D H (.str s) (.str s)
  | tup {a : Addr} {xs : List V} {ps : List PV} : SqT D.K H a xs → RepL D H ps xs → RepP D H (.tup ps) (.ref a)
  | lst {a : Addr} {xs : List V} {ps : List PV} : SqF D.K H a xs → RepL D H ps xs → RepP D H (.lst ps) (.ref a)
  | dctK {a : Addr} {o : Obj} {ks : List (Key × V)} {kvs : List (PV × PV)} : H a = some (.frz o (.dK ks)) → RepK D H kvs ks → RepP D H (.dct kvs) (.ref a)
  | dctN {a : Addr} {o : Obj} {xs : List (NestedKey × Addr × V)} {kvs : List (PV × PV)} : H a = some (.frz o (dN D a xs)) → RepN D H kvs xs → RepP D H (.dct kvs) (.ref a)
  | obj {a dx : Addr} {o od : Obj} {c : Nat} {fs : List PV} {vs : List (Option V)} : H a = some (.frz o (SlX.SlO a (D.ca c) dx vs)) → H dx = some (.frz od (.xd [])) → dx ≠ a → RepO D H fs vs → RepP D H (.obj c fs) (.ref a)
inductive RepL (D : Wd) (H : Hp) : List PV → List V → Prop where
  | nil : RepL D H [] []
  | cons {p : PV} {v : V} {ps : List PV} {vs : List V} : RepP D H p v → RepL D H ps vs → RepL D H (p :: ps) (v :: vs)
inductive RepK (D : Wd) (H : Hp) : List (PV × PV) → List (Key × V) → Prop where
  | nil : RepK D H [] []
  | consI {i : Int} {p : PV} {v : V} {ps : List (PV × PV)} {vs : List (Key × V)} : RepP D H p v → RepK D H ps vs → RepK D H ((.int i, p) :: ps) ((.inl i, v) :: vs)
  | consS {x : Str} {p : PV} {v : V} {ps : List (PV × PV)} {vs : List (Key × V)} : RepP D H p v → RepK D H ps vs → RepK D H ((.str x, p) :: ps) ((.inr x, v) :: vs)
inductive RepN (D : Wd) (H : Hp) : List (PV × PV) → List (NestedKey × Addr × V) → Prop where
  | nil : RepN D H [] []
  | cons {ks : List PV} {k : NestedKey} {q : Addr} {p : PV} {v : V} {ps : List (PV × PV)} {vs : List (NestedKey × Addr × V)} : PV.key (.tup ks) = some k → k.depth ≤ 8 → RepP D H (.tup ks) (.ref q) → RepP D H p v → RepN D H ps vs →
      RepN D H ((.tup ks, p) :: ps) ((k, q, v) :: vs)
inductive RepO (D : Wd) (H : Hp) : List PV → List (Option V) → Prop where
  | nil : RepO D H [] []
  | cons {p : PV} {v : V} {ps : List PV} {vs : List (Option V)} : RepP D H p v → RepO D H ps vs → RepO D H (p :: ps) (some v :: vs)
end

/-- what pure values lean on stays -/
structure PExt (H H' : Hp) : Prop where
  tup : ∀ a xs, H a = some (.tup xs) → H' a = some (.tup xs)
  frz : ∀ a o u, H a = some (.frz o u) → H' a = some (.frz o u)
theorem PExt.refl (H : Hp) : PExt H H := ⟨fun _ _ e => e, fun _ _ _ e => e⟩
theorem PExt.trans {H H1 H2 : Hp} (a : PExt H H1) (b : PExt H1 H2) : PExt H H2 := ⟨fun x xs e => b.tup x xs (a.tup x xs e), fun x o u e => b.frz x o u (a.frz x o u e)⟩
theorem PExt.sqT {H H' : Hp} (e : PExt H H') {K : PySem.W.Frag} {a : Addr} {xs : List V} (h : SqT K H a xs) : SqT K H' a xs := by
  rcases h with (h | ⟨o, h⟩) | h
  · exact .inl (.inl (e.tup _ _ h))
  · exact .inl (.inr ⟨o, e.frz _ _ _ h⟩)
  · exact .inr h
theorem PExt.sqF {H H' : Hp} (e : PExt H H') {K : PySem.W.Frag} {a : Addr} {xs : List V} (h : SqF K H a xs) : SqF K H' a xs := by
  rcases h with ⟨o, h⟩ | h
  · exact .inl ⟨o, e.frz _ _ _ h⟩
  · exact .inr h
section
variable {D : Wd} {H H' : Hp}
mutual
theorem RepP.ext (e : PExt H H') : ∀ {p : PV} {v : V}, RepP D H p v → RepP D H' p v
  | _, _, .non => .non
  | _, _, .bl b => .bl b
  | _, _, .int i => .int i
  | _, _, .str s => .str s
  | _, _, .tup h r => .tup (e.sqT h) (RepL.ext e r)
  | _, _, .lst h r => .lst (e.sqF h) (RepL.ext e r)
  | _, _, .dctK h r => .dctK (e.frz _ _ _ h) (RepK.ext e r)
  | _, _, .dctN h r => .dctN (e.frz _ _ _ h) (RepN.ext e r)
  | _, _, .obj h h2 n r => .obj (e.frz _ _ _ h) (e.frz _ _ _ h2) n (RepO.ext e r)
theorem RepL.ext (e : PExt H H') : ∀ {p : List PV} {v : List V}, RepL D H p v → RepL D H' p v
  | _, _, .nil => .nil
  | _, _, .cons h r => .cons (RepP.ext e h) (RepL.ext e r)
theorem RepK.ext (e : PExt H H') : ∀ {p : List (PV × PV)} {v : List (Key × V)}, RepK D H p v → RepK D H' p v
  | _, _, .nil => .nil
  | _, _, .consI h r => .consI (RepP.ext e h) (RepK.ext e r)
  | _, _, .consS h r => .consS (RepP.ext e h) (RepK.ext e r)
theorem RepN.ext (e : PExt H H') : ∀ {p : List (PV × PV)} {v : List (NestedKey × Addr × V)}, RepN D H p v → RepN D H' p v
  | _, _, .nil => .nil
  | _, _, .cons k d h1 h r => .cons k d (RepP.ext e h1) (RepP.ext e h) (RepN.ext e r)
theorem RepO.ext (e : PExt H H') : ∀ {p : List PV} {v : List (Option V)}, RepO D H p v → RepO D H' p v
  | _, _, .nil => .nil
  | _, _, .cons h r => .cons (RepP.ext e h) (RepO.ext e r)
end
theorem RepL.len : ∀ {p : List PV} {v : List V}, RepL D H p v → p.length = v.length
  | _, _, .nil => rfl
  | _, _, .cons _ r => by simp [RepL.len r]
theorem RepL.get : ∀ {p : List PV} {v : List V} {i : Nat} {x : PV}, RepL D H p v → p[i]? = some x → ∃ y, v[i]? = some y ∧ RepP D H x y
  | _, _, _, _, .nil, e => by simp at e
  | _, _, 0, _, .cons h _, e => by simp at e; subst e; exact ⟨_, rfl, h⟩
  | _, _, i + 1, x, .cons _ r, e => by
    obtain ⟨y, h1, h2⟩ := RepL.get (i := i) r (by simpa using e)
    exact ⟨y, by simpa using h1, h2⟩
theorem RepL.app : ∀ {p q : List PV} {v w : List V}, RepL D H p v → RepL D H q w → RepL D H (p ++ q) (v ++ w)
  | _, _, _, _, .nil, s => s
  | _, _, _, _, .cons h r, s => .cons h (RepL.app r s)
theorem RepL.setAt {x : PV} {y : V} (hx : RepP D H x y) : ∀ {p : List PV} {v : List V} (i : Nat), RepL D H p v → RepL D H (p.set i x) (v.set i y)
  | _, _, _, .nil => .nil
  | _, _, 0, .cons _ r => .cons hx r
  | _, _, i + 1, .cons h r => .cons h (RepL.setAt hx i r)
end

/-! ### the store -/
/-- where the places of the store stand: the object, its own dict (an instance's) -/
abbrev Mp := List (Addr × Addr)
def Has (m : Mp) (a : Addr) : Prop := ∃ q ∈ m, a = q.1 ∨ a = q.2
inductive RepV (D : Wd) (m : Mp) (H : Hp) : Val → V → Prop where
  | p {v : PV} {x : V} : RepP D H v x → RepV D m H (.p v) x
  | loc {l : Nat} {q : Addr × Addr} : m[l]? = some q → RepV D m H (.loc l) (.ref q.1)
inductive RepSl (D : Wd) (m : Mp) (H : Hp) : List (Option Val) → List (Option V) → Prop where
  | nil : RepSl D m H [] []
  | none {fs : List (Option Val)} {vs : List (Option V)} : RepSl D m H fs vs → RepSl D m H (none :: fs) (none :: vs)
  | some {v : Val} {x : V} {fs : List (Option Val)} {vs : List (Option V)} : RepV D m H v x → RepSl D m H fs vs → RepSl D m H (some v :: fs) (some x :: vs)
/-- the dict of an instance: its own, or empty -/
def OwnD (H : Hp) (q : Addr × Addr) : Prop := H q.2 = some (.own q.1) ∨ H q.2 = some (.xd [])
def RepE (D : Wd) (m : Mp) (H : Hp) (q : Addr × Addr) : EO → Prop
  | .lst ps => ∃ xs, H q.1 = some (.lst xs) ∧ RepL D H ps xs
  | .dct kvs => (∃ ks, H q.1 = some (.dK ks) ∧ RepK D H kvs ks) ∨ ∃ xs, H q.1 = some (dN D q.1 xs) ∧ RepN D H kvs xs
  | .obj c fs => ∃ vs, SlX.Slt H q.1 (D.ca c) q.2 vs ∧ OwnD H q ∧ q.2 ≠ q.1 ∧ RepSl D m H fs vs
  | .fzn p => RepP D H p (.ref q.1)
structure RepS (D : Wd) (m : Mp) (H : Hp) (h : Store) : Prop where
  len : m.length = h.length
  inj : ∀ (l k : Nat) q r, m[l]? = some q → m[k]? = some r → l ≠ k → q.1 ≠ r.1 ∧ q.1 ≠ r.2 ∧ q.2 ≠ r.1 ∧ q.2 ≠ r.2
  at_ : ∀ (l : Nat) e q, h[l]? = some e → m[l]? = some q → RepE D m H q e
  trk : ∀ a, Has m a → ∃ u, H a = some u
def RepEnv (D : Wd) (m : Mp) (H : Hp) (ρ : Env) (σ : St) : Prop := ρ.length = σ.length ∧ ∀ (i : Nat) v, ρ[i]? = some (some v) → ∃ x, σ[i]? = some (some x) ∧ RepV D m H v x

/-- the state went on -/
structure Ext (m : Mp) (H : Hp) (m' : Mp) (H' : Hp) : Prop where
  pre : ∀ (l : Nat) q, m[l]? = some q → m'[l]? = some q
  px : PExt H H'
  out : ∀ a o, H a = some o → ¬ Has m a → H' a = some o
  new : ∀ a, Has m' a → Has m a ∨ H a = none
  there : ∀ a o, H a = some o → ∃ u, H' a = some u
theorem Ext.refl (m : Mp) (H : Hp) : Ext m H m H := ⟨fun _ _ e => e, PExt.refl H, fun _ _ e _ => e, fun _ h => .inl h, fun _ o e => ⟨o, e⟩⟩
theorem Ext.trans {m m1 m2 : Mp} {H H1 H2 : Hp} (a : Ext m H m1 H1) (b : Ext m1 H1 m2 H2) : Ext m H m2 H2 where
  pre := fun l q e => b.pre l q (a.pre l q e)
  px := a.px.trans b.px
  out := fun x o e n => b.out x o (a.out x o e n) fun h => (a.new x h).elim n fun z => by rw [e] at z; cases z
  new := fun x h => (b.new x h).elim (a.new x) fun z => by
    refine .inr ?_
    cases e : H x with
    | none => rfl
    | some o =>
      obtain ⟨u, q⟩ := a.there x o e
      rw [z] at q
      cases q
  there := fun x o e => let ⟨u, q⟩ := a.there x o e; b.there x u q
end Sw

end

section
/-! What is wanted behind a piece of code; freezing. -/
namespace Sw
open PySem L2
section
variable {D : Wd} {m m' : Mp} {H H' : Hp}
theorem RepV.ext (e : Ext m H m' H') {v : Val} {x : V} (r : RepV D m H v x) : RepV D m' H' v x := by
  cases r with
  | p h => exact .p (h.ext e.px)
  | loc h => exact .loc (e.pre _ _ h)
theorem RepSl.ext (e : Ext m H m' H') : ∀ {fs : List (Option Val)} {vs : List (Option V)}, RepSl D m H fs vs → RepSl D m' H' fs vs
  | _, _, .nil => .nil
  | _, _, .none r => .none (RepSl.ext e r)
  | _, _, .some h r => .some (h.ext e) (RepSl.ext e r)
theorem RepEnv.ext (e : Ext m H m' H') {ρ : Env} {σ : L2.St} (r : RepEnv D m H ρ σ) : RepEnv D m' H' ρ σ :=
  ⟨r.1, fun i v h => let ⟨x, h1, h2⟩ := r.2 i v h; ⟨x, h1, h2.ext e⟩⟩
theorem RepE.stay {q : Addr × Addr} (e : Ext m H m' H') (h1 : H' q.1 = H q.1) (h2 : H' q.2 = H q.2) : ∀ {o : EO}, RepE D m H q o → RepE D m' H' q o
  | .lst ps, ⟨xs, a, b⟩ => ⟨xs, h1.trans a, b.ext e.px⟩
  | .dct kvs, .inl ⟨ks, a, b⟩ => .inl ⟨ks, h1.trans a, b.ext e.px⟩
  | .dct kvs, .inr ⟨xs, a, b⟩ => .inr ⟨xs, h1.trans a, b.ext e.px⟩
  | .obj c fs, ⟨vs, a, n, ne, b⟩ => ⟨vs, by
      rcases a with ⟨a, a2⟩ | ⟨a, a2⟩
      · exact .inl ⟨h1.trans a, a2⟩
      · exact .inr ⟨h1.trans a, h2.trans a2⟩, by unfold OwnD; rw [h2]; exact n, ne, RepSl.ext e b⟩
  | .fzn p, r => RepP.ext e.px r
theorem Has.of {l : Nat} {q : Addr × Addr} (h : m[l]? = some q) : Has m q.1 ∧ Has m q.2 := ⟨⟨q, List.mem_of_getElem? h, .inl rfl⟩, ⟨q, List.mem_of_getElem? h, .inr rfl⟩⟩
/-- nothing of the store is touched -/
theorem RepS.keep {h : Store} (r : RepS D m H h) (e : Ext m H m H') (k : ∀ a, Has m a → H' a = H a) : RepS D m H' h :=
  ⟨r.len, r.inj, fun l o q h1 h2 => (r.at_ l o q h1 h2).stay e (k _ (Has.of h2).1) (k _ (Has.of h2).2), fun a ha => let ⟨u, h⟩ := r.trk a ha; ⟨u, by rw [k a ha]; exact h⟩⟩
/-- a new object that is not of the store -/
theorem Ext.fresh {p : Addr} {u : HO} (n : H p = none) : Ext m H m (upd H p u) where
  pre := fun _ _ e => e
  px := ⟨fun a xs e => by rw [upd_ne (ne_of_none e n)]; exact e, fun a o v e => by rw [upd_ne (ne_of_none e n)]; exact e⟩
  out := fun a o e _ => by rw [upd_ne (ne_of_none e n)]; exact e
  new := fun a h => .inl h
  there := fun a o e => ⟨o, by rw [upd_ne (ne_of_none e n)]; exact e⟩
theorem RepS.fresh {h : Store} {p : Addr} {u : HO} (r : RepS D m H h) (n : H p = none) : RepS D m (upd H p u) h :=
  r.keep (Ext.fresh n) fun a ha => by
    obtain ⟨v, e⟩ := r.trk a ha
    rw [upd_ne (ne_of_none e n)]
/-- a new place of the store -/
theorem Ext.place {h : Store} {p : Addr} {u : HO} (r : RepS D m H h) (n : H p = none) : Ext m H (m ++ [(p, p)]) (upd H p u) where
  pre := fun l q e => by
    rw [List.getElem?_append_left (List.getElem?_eq_some_iff.mp e).1]
    exact e
  px := (Ext.fresh (m := m) n).px
  out := (Ext.fresh (m := m) n).out
  new := fun a ⟨q, hq, z⟩ => by
    rcases List.mem_append.mp hq with hq | hq
    · exact .inl ⟨q, hq, z⟩
    · have e : q = (p, p) := by simpa using hq
      subst e
      refine .inr ?_
      rcases z with z | z <;> (rw [z]; exact n)
  there := (Ext.fresh (m := m) n).there
theorem RepS.place {h : Store} {p : Addr} {u : HO} {o : EO} (r : RepS D m H h) (n : H p = none) (new : RepE D (m ++ [(p, p)]) (upd H p u) (p, p) o) : RepS D (m ++ [(p, p)]) (upd H p u) (h ++ [o]) := by
  have e := Ext.place (u := u) r n
  have nh : ∀ a, Has m a → a ≠ p := fun a ha => let ⟨v, z⟩ := r.trk a ha; ne_of_none z n
  have lt : ∀ {l : Nat} {q : Addr × Addr}, (m ++ [(p, p)])[l]? = some q → m[l]? = some q ∨ (l = m.length ∧ q = (p, p)) := fun {l q} z => by
    by_cases hl : l < m.length
    · rw [List.getElem?_append_left hl] at z
      exact .inl z
    · rw [List.getElem?_append_right (Nat.le_of_not_lt hl)] at z
      have : l - m.length = 0 := by
        cases k : l - m.length with
        | zero => rfl
        | succ i => rw [k] at z; simp at z
      rw [this] at z
      simp at z
      exact .inr ⟨by omega, z.symm⟩
  refine ⟨by simp [r.len], fun l k q s h1 h2 ne => ?_, fun l x q h1 h2 => ?_, fun a ha => ?_⟩
  · rcases lt h1 with h1 | ⟨l1, rfl⟩ <;> rcases lt h2 with h2 | ⟨l2, rfl⟩
    · exact r.inj l k q s h1 h2 ne
    · exact ⟨nh _ (Has.of h1).1, nh _ (Has.of h1).1, nh _ (Has.of h1).2, nh _ (Has.of h1).2⟩
    · exact ⟨(nh _ (Has.of h2).1).symm, (nh _ (Has.of h2).2).symm, (nh _ (Has.of h2).1).symm, (nh _ (Has.of h2).2).symm⟩
    · exact absurd (l1.trans l2.symm) ne
  · rcases lt h2 with h2 | ⟨l1, rfl⟩
    · have hl : l < h.length := by rw [← r.len]; exact (List.getElem?_eq_some_iff.mp h2).1
      rw [List.getElem?_append_left hl] at h1
      exact (r.at_ l x q h1 h2).stay e (upd_ne (nh _ (Has.of h2).1)) (upd_ne (nh _ (Has.of h2).2))
    · rw [l1, r.len, List.getElem?_append_right (Nat.le_refl _)] at h1
      simp at h1
      subst h1
      exact new
  · obtain ⟨q, hq, z⟩ := ha
    rcases List.mem_append.mp hq with hq | hq
    · have ha : Has m a := ⟨q, hq, z⟩
      obtain ⟨v, hv⟩ := r.trk a ha
      exact ⟨v, by rw [upd_ne (nh a ha)]; exact hv⟩
    · have e : q = (p, p) := by simpa using hq
      subst e
      refine ⟨u, ?_⟩
      rcases z with z | z <;> (rw [z]; exact upd_same)
/-- a place is written -/
theorem Ext.write {h : Store} {l : Nat} {q : Addr × Addr} (r : RepS D m H h) (hq : m[l]? = some q) (px : PExt H H') (k : ∀ a, a ≠ q.1 → a ≠ q.2 → H' a = H a) (t1 : ∃ u, H' q.1 = some u) (t2 : ∃ u, H' q.2 = some u) : Ext m H m H' where
  pre := fun _ _ e => e
  px := px
  out := fun a o e n => by rw [k a (fun z => n (z ▸ (Has.of hq).1)) (fun z => n (z ▸ (Has.of hq).2))]; exact e
  new := fun _ h => .inl h
  there := fun a o e => by
    by_cases h1 : a = q.1
    · rw [h1]; exact t1
    · by_cases h2 : a = q.2
      · rw [h2]; exact t2
      · exact ⟨o, by rw [k a h1 h2]; exact e⟩
theorem RepS.write {h : Store} {l : Nat} {q : Addr × Addr} {o : EO} (r : RepS D m H h) (hq : m[l]? = some q) (e : Ext m H m H') (k : ∀ a, a ≠ q.1 → a ≠ q.2 → H' a = H a) (new : RepE D m H' q o) : RepS D m H' (h.set l o) := by
  refine ⟨by simp [r.len], r.inj, fun j x s h1 h2 => ?_, fun a ha => ?_⟩
  · by_cases hj : j = l
    · subst hj
      rw [hq] at h2
      cases h2
      have hl : j < h.length := by rw [← r.len]; exact (List.getElem?_eq_some_iff.mp hq).1
      rw [List.getElem?_set_self hl] at h1
      cases h1
      exact new
    · rw [List.getElem?_set_ne (Ne.symm hj)] at h1
      obtain ⟨n1, n2, n3, n4⟩ := r.inj j l s q h2 hq hj
      exact (r.at_ j x s h1 h2).stay e (k _ n1 n2) (k _ n3 n4)
  · obtain ⟨u, z⟩ := r.trk a ha
    exact e.there a u z
end

/-! ### what is wanted behind code -/
/-- the exception's class and its own dict -/
def RepX (D : Wd) (H : Hp) (x : Exc) (cls : Value) (d : Option Addr) : Prop :=
  cls = .ref (D.ca x.cls) ∧ (x.arg = none → d = none) ∧ ∀ p, x.arg = some p → ∃ dd v, d = some dd ∧ H dd = some (.xd [(D.xf x.cls, v)]) ∧ RepP D H p v
def Post (D : Wd) (W : WX) (σ : L2.St) (m : Mp) (H : Hp) {α : Type} (k : α → Store → Mp → Hp → Prop) : Res α → Prop
  | .bad => False
  | .ok a h' => ∀ m' H', Ext m H m' H' → RepS D m' H' h' → k a h' m' H'
  | .exc x h' => ∀ m' H' cls d, Ext m H m' H' → RepS D m' H' h' → RepX D H' x cls d → W cls d σ H'
section
variable {D : Wd} {W : WX} {σ : L2.St} {m : Mp} {H : Hp} {α β : Type}
theorem Post.mono {k k' : α → Store → Mp → Hp → Prop} {r : Res α} (p : Post D W σ m H k r) (h : ∀ a h' m' H', Ext m H m' H' → RepS D m' H' h' → k a h' m' H' → k' a h' m' H') : Post D W σ m H k' r := by
  cases r with
  | bad => exact p
  | ok a h' => exact fun m' H' e s => h a h' m' H' e s (p m' H' e s)
  | exc x h' => exact p
theorem Post.after {m1 : Mp} {H1 : Hp} {k : α → Store → Mp → Hp → Prop} {r : Res α} (p : Post D W σ m H k r) (e : Ext m H m1 H1) : Post D W σ m1 H1 k r := by
  cases r with
  | bad => exact p
  | ok a h' => exact fun m' H' e1 s => p m' H' (e.trans e1) s
  | exc x h' => exact fun m' H' cls d e1 s => p m' H' cls d (e.trans e1) s
theorem Post.bind {k : β → Store → Mp → Hp → Prop} {r : Res α} {f : α → Store → Res β} (p : Post D W σ m H k (r.bind f)) : Post D W σ m H (fun a h1 m1 H1 => Post D W σ m1 H1 k (f a h1)) r := by
  cases r with
  | bad => exact p
  | ok a h' => exact fun m' H' e s => Post.after (r := f a h') p e
  | exc x h' => exact p
theorem Post.ok {a : α} {h : Store} {k : α → Store → Mp → Hp → Prop} (p : Post D W σ m H k (.ok a h)) (r : RepS D m H h) : k a h m H := p m H (Ext.refl m H) r
theorem Post.of {o : Option α} {h : Store} {k : α → Store → Mp → Hp → Prop} (p : Post D W σ m H k (Res.of o h)) : ∃ a, o = some a ∧ Post D W σ m H k (.ok a h) := by
  cases o with
  | none => exact False.elim p
  | some a => exact ⟨a, rfl, p⟩
end

/-! ### freezing -/
theorem slO_ext {a C dx : Addr} {vs : List (Option V)} : Still (SlX.SlO a C dx vs) = false := rfl
section
variable {X : Cx} {pins : List (Addr × Obj)} {σ : L2.St} {D : Wd} {m : Mp} {H : Hp} {s : Shared} {h : Store}
theorem frzSlots_rep : ∀ {fs : List (Option Val)} {vs : List (Option V)} {ps : List PV}, RepSl D m H fs vs → frzSlots fs = some ps → RepO D H ps vs
  | _, _, ps, .nil, e => by cases e; exact .nil
  | _, _, ps, .none r, e => by cases e
  | _, _, ps, .some (v := v) (fs := fs) hv r, e => by
    cases hv with
    | loc hl => cases e
    | p hp =>
      simp only [frzSlots, Option.map_eq_some_iff] at e
      obtain ⟨qs, e1, e2⟩ := e
      subst e2
      exact .cons hp (frzSlots_rep r e1)
theorem freeze (I : Inv X pins σ H s) (S : RepS D m H h) {v : Val} {x : V} (r : RepV D m H v x) {p : PV} {h' : Store} (e : toP h v = .ok p h') :
    ∃ H', Inv X pins σ H' s ∧ Ext m H m H' ∧ RepS D m H' h' ∧ RepP D H' p x := by
  cases r with
  | p hp =>
    cases e
    exact ⟨H, I, Ext.refl m H, S, hp⟩
  | @loc l q hq =>
    -- one object told anew, known from now on
    have one : ∀ (u : HO) (o : EO), H q.1 = some u → Still u = false → (∀ od, RepP D (upd H q.1 (.frz od u)) p (.ref q.1)) → h' = h.set l (.fzn p) →
        ∃ H', Inv X pins σ H' s ∧ Ext m H m H' ∧ RepS D m H' h' ∧ RepP D H' p (.ref q.1) := fun u o hu hs hr eh => by
      obtain ⟨od, I1⟩ := Inv.frozen I hu hs
      have k : ∀ a, a ≠ q.1 → a ≠ q.2 → upd H q.1 (.frz od u) a = H a := fun a n _ => upd_ne n
      have ne : ∀ b v, H b = some v → Still v = true → b ≠ q.1 := fun b v e t z => by
        rw [z, hu] at e
        cases e
        rw [hs] at t
        cases t
      have px : PExt H (upd H q.1 (.frz od u)) := ⟨fun a xs e => by rw [upd_ne (ne a _ e rfl)]; exact e, fun a o v e => by rw [upd_ne (ne a _ e rfl)]; exact e⟩
      have t2 : ∃ v, upd H q.1 (.frz od u) q.2 = some v := by
        by_cases z : q.2 = q.1
        · rw [z]; exact ⟨_, upd_same⟩
        · rw [upd_ne z]; exact S.trk _ (Has.of hq).2
      have ex := Ext.write S hq px k ⟨_, upd_same⟩ t2
      refine ⟨_, I1, ex, ?_, hr od⟩
      rw [eh]
      exact S.write hq ex k (o := .fzn p) (hr od)
    cases ho : h[l]? with
    | none => simp [toP, ho] at e
    | some o =>
      have R := S.at_ l o q ho hq
      cases o with
      | lst ps =>
        simp only [toP, ho, Res.ok.injEq] at e
        obtain ⟨rfl, rfl⟩ := e
        obtain ⟨xs, a, b⟩ := R
        refine one _ (.lst ps) a rfl (fun od => ?_) rfl
        refine .lst (.inl ⟨od, upd_same⟩) (b.ext ?_)
        exact ⟨fun c ys z => by rw [upd_ne (fun w => by rw [w, a] at z; cases z)]; exact z, fun c o' v z => by rw [upd_ne (fun w => by rw [w, a] at z; cases z)]; exact z⟩
      | dct kvs =>
        simp only [toP, ho, Res.ok.injEq] at e
        obtain ⟨rfl, rfl⟩ := e
        rcases R with ⟨ks, a, b⟩ | ⟨xs, a, b⟩
        · refine one _ (.dct kvs) a rfl (fun od => ?_) rfl
          refine .dctK upd_same (b.ext ?_)
          exact ⟨fun c ys z => by rw [upd_ne (fun w => by rw [w, a] at z; cases z)]; exact z, fun c o' v z => by rw [upd_ne (fun w => by rw [w, a] at z; cases z)]; exact z⟩
        · refine one _ (.dct kvs) a rfl (fun od => ?_) rfl
          refine .dctN upd_same (b.ext ?_)
          exact ⟨fun c ys z => by rw [upd_ne (fun w => by rw [w, a] at z; cases z)]; exact z, fun c o' v z => by rw [upd_ne (fun w => by rw [w, a] at z; cases z)]; exact z⟩
      | fzn p0 =>
        simp only [toP, ho, Res.ok.injEq] at e
        obtain ⟨rfl, rfl⟩ := e
        exact ⟨H, I, Ext.refl m H, S, R⟩
      | obj c fs =>
        obtain ⟨vs, a, n, ne, b⟩ := R
        cases ef : frzSlots fs with
        | none => simp [toP, ho, ef] at e
        | some pl =>
          cases pl with
          | nil => simp [toP, ho, ef] at e
          | cons p1 pl =>
            simp only [toP, ho, ef, Res.ok.injEq] at e
            obtain ⟨e1, e2⟩ := e
            have RO := frzSlots_rep b ef
            have hv : vs ≠ [] := fun z => by subst z; cases RO
            rcases a with ⟨_, z⟩ | ⟨a, a2⟩
            · exact absurd z hv
            obtain ⟨oa, I1⟩ := Inv.frozen I a slO_ext
            have a3 : upd H q.1 (.frz oa (SlX.SlO q.1 (D.ca c) q.2 vs)) q.2 = some (.xd []) := by rw [upd_ne ne]; exact a2
            obtain ⟨od, I2⟩ := Inv.frozen I1 a3 rfl
            have k : ∀ b, b ≠ q.1 → b ≠ q.2 → upd (upd H q.1 (.frz oa (SlX.SlO q.1 (D.ca c) q.2 vs))) q.2 (.frz od (.xd [])) b = H b := fun b n1 n2 => by rw [upd_ne n2, upd_ne n1]
            have nS : ∀ b v, H b = some v → Still v = true → b ≠ q.1 ∧ b ≠ q.2 := fun b v e t => by
              refine ⟨fun z => ?_, fun z => ?_⟩
              · rw [z, a] at e
                cases e
                cases t
              · rw [z, a2] at e
                cases e
                cases t
            have px : PExt H (upd (upd H q.1 (.frz oa (SlX.SlO q.1 (D.ca c) q.2 vs))) q.2 (.frz od (.xd []))) := ⟨fun b xs e => by rw [k b (nS b _ e rfl).1 (nS b _ e rfl).2]; exact e, fun b o v e => by rw [k b (nS b _ e rfl).1 (nS b _ e rfl).2]; exact e⟩
            have ex := Ext.write S hq px k ⟨_, by rw [upd_ne ne.symm]; exact upd_same⟩ ⟨_, upd_same⟩
            have hr : RepP D (upd (upd H q.1 (.frz oa (SlX.SlO q.1 (D.ca c) q.2 vs))) q.2 (.frz od (.xd []))) p (.ref q.1) := by
              rw [← e1]
              exact .obj (by rw [upd_ne ne.symm]; exact upd_same) upd_same ne (RO.ext px)
            refine ⟨_, I2, ex, ?_, hr⟩
            rw [← e2]
            refine S.write hq ex k (o := .fzn (.obj c (p1 :: pl))) ?_
            rw [← e1] at hr
            exact hr
end
end Sw

end

section
/-! Contexts, readings, the first expressions. -/
namespace Sw
open PySem L2

/-- what a module's name stands for -/
inductive Gk where
  | fn (i : Nat)
  | cls (c : Nat)
  | cst (p : PV)
  | free
def GlIs (D : Wd) (fa : Nat → Addr) (mg : Str → Option Value) (x : Str) : Gk → Prop
  | .fn i => mg x = some (.ref (fa i))
  | .cls c => mg x = some (.ref (D.ca c))
  | .cst p => ∃ u v, mg x = some u ∧ RelV v u ∧ ∀ H, RepP D H p v
  | .free => mg x = none
/-- what is known without running -/
structure Gx where
  N : List Str
  sc : Scope
  fn : Str → Bool
inductive RepVs (D : Wd) (m : Mp) (H : Hp) : List Val → List V → Prop where
  | nil : RepVs D m H [] []
  | cons {v : Val} {x : V} {vs : List Val} {xs : List V} : RepV D m H v x → RepVs D m H vs xs → RepVs D m H (v :: vs) (x :: xs)
/-- the promise of a def: what the code does -/
def spS (D : Wd) (r : List Val → Store → Res Val) : Sp := fun vs H Q E => ∃ m h ws, RepS D m H h ∧ RepVs D m H ws vs ∧ match r ws h with
  | .bad => False
  | .ok v h' => ∀ m' H' x, Ext m H m' H' → RepS D m' H' h' → RepV D m' H' v x → Q x H'
  | .exc x h' => ∀ m' H' cls d, Ext m H m' H' → RepS D m' H' h' → RepX D H' x cls d → E cls d H'
structure FnAt (D : Wd) (mg : Str → Option Value) (base : Heap) (k : Nat) (f : Addr) (sp : Sp) : Prop where
  ex : ∃ fd ps, FnOk D.P D.w D.K mg base (CX D.P D.w) k f fd ps sp ∧ Binds D.K fd ps [] ∧ PySem.W.keepIn D.K (.ref f) = true
/-- a class: its slots, its properties, its methods -/
structure ClsAt (D : Wd) (fa : Nat → Addr) (an : Nat → Str) (c : Nat) (k : Cls) : Prop where
  sc : SlX.SCls D.K (D.ca c)
  si : SlX.SIsi D.K (D.ca c)
  slot : ∀ f i, k.ats.lookup f = some (.slot i) → ∃ p, SlX.Slot1 D.K (D.ca c) (an f) p i
  meth : ∀ f g, k.ats.lookup f = some (.meth g) → Meth D.K (D.ca c) (an f) (fa g)
  prop : ∀ f g, k.ats.lookup f = some (.prop g) → ∃ p, PySem.W.findIn D.K (.ref (D.ca c)) (an f) = some (some (.ref p)) ∧ PySem.W.specialIn D.K (.ref p) "__get__" = some (some (.builtin "property.__get__")) ∧
    PySem.W.takesIn D.K (.ref p) = some true ∧ ∃ rest, PySem.W.recIn D.K p "property" = some (.ref (fa g) :: rest)
  mkr : Mk D.K (D.ca c) (fa k.init)
  len : ∀ g, k.len = some g → Meth D.K (D.ca c) "__len__" (fa g)
def wdOf (X : Cx) (ca : Nat → Addr) (xf : Nat → Str) : Wd := ⟨X.prog, X.w, X.K, ca, xf⟩
/-- the program's facts, at a level -/
structure PrgOk (D : Wd) (T : Tab) (Γ : Calls) (nm : Str → Option Gk) (an : Nat → Str) (fa : Nat → Addr) (mg : Str → Option Value) (base : Heap) (d : Nat) : Prop where
  gl : ∀ x k, nm x = some k → GlIs D fa mg x k
  fns : ∀ (i : Nat) F, T.fns[i]? = some F → FnAt D mg base d (fa i) (spS D (Γ.run i))
  inits : ∀ (c : Nat) k, T.cls[c]? = some k → ∃ F, T.fns[k.init]? = some F
  cls : ∀ (c : Nat) k, T.cls[c]? = some k → ClsAt D fa an c k
  isiT : ∀ (c : Nat) k, T.cls[c]? = some k → ∀ n ∈ ["NoneType", "bool", "int", "str", "tuple", "list"], PySem.W.kitOne D.K (.type n) (.ref (D.ca c)) = some false ∧ PySem.W.kitOne D.K (.ref (D.ca c)) (.type n) = some false
  isiC : ∀ (c c' : Nat) k k', T.cls[c]? = some k → T.cls[c']? = some k' → PySem.W.kitOne D.K (.ref (D.ca c)) (.ref (D.ca c')) = some (c' == c)
  call0 : ∀ i, T.fns[i]? = none → ∀ vs h, Γ.run i vs h = .bad
  lens : ∀ (c : Nat) k g, T.cls[c]? = some k → k.len = some g → ∃ F, T.fns[g]? = some F
  ats : ∀ (c : Nat) k f g, T.cls[c]? = some k → (k.ats.lookup f = some (.meth g) ∨ k.ats.lookup f = some (.prop g)) → ∃ F, T.fns[g]? = some F
/-- a context in which code of the program runs -/
structure CxOk (D : Wd) (T : Tab) (Γ : Calls) (nm : Str → Option Gk) (an : Nat → Str) (fa : Nat → Addr) (d : Nat) (G : Gx) (W : WX) (X : Cx) : Prop where
  wd : D = wdOf X D.ca D.xf
  N : X.N = G.N
  nd : G.N.Nodup
  sc : X.env.scope = G.sc
  fn : X.fn = G.fn
  calm : X.calm = true
  tk : Takes X W
  po : PassesOwn (model X.prog X.w) X.A X.env X.xe
  room : Room (d + 2) X.A
  prg : PrgOk D T Γ nm an fa X.mg X.base d

/-! ### readings -/
section
variable (D : Wd) (T : Tab) (Γ : Calls) (W : WX)
def tRes {α : Type} (ev : Env → Store → Res α) (K : α → Store → Mp → Hp → Prop) (σ : L2.St) (H : Hp) : Prop :=
  ∃ m h ρ, RepS D m H h ∧ RepEnv D m H ρ σ ∧ Post D W σ m H K (ev ρ h)
def tE (c : C) : TE := fun σ H Q => tRes D W (evE T Γ c) (fun a _ m' H' => ∀ x, RepV D m' H' a x → Q x H') σ H
def tP (c : C) : TE := fun σ H Q => tRes D W (evP T Γ c) (fun a _ _ H' => ∀ x, RepP D H' a x → Q x H') σ H
/-- seen as a pure value, whether it stays or not -/
inductive RepW (H : Hp) : PV → V → Prop where
  | p {v : PV} {x : V} : RepP D H v x → RepW H v x
  | lst {a : Addr} {xs : List V} {ps : List PV} : H a = some (.lst xs) → RepL D H ps xs → RepW H (.lst ps) (.ref a)
  | dctK {a : Addr} {ks : List (Key × V)} {kvs : List (PV × PV)} : H a = some (.dK ks) → RepK D H kvs ks → RepW H (.dct kvs) (.ref a)
  | dctN {a : Addr} {xs : List (NestedKey × Addr × V)} {kvs : List (PV × PV)} : H a = some (dN D a xs) → RepN D H kvs xs → RepW H (.dct kvs) (.ref a)
def tV (c : C) : TE := fun σ H Q => tRes D W (evV T Γ c) (fun a h' m' H' => ∀ x v, view h' v = some a → RepV D m' H' v x → Q x H') σ H
def tL (as : CL) : TA := fun σ H Q => tRes D W (evL T Γ as) (fun ps _ _ H' => ∀ xs, RepL D H' ps xs → Q xs H') σ H
def tB1 (c : C) : TT := fun σ H Q => tRes D W (evB T Γ c) (fun b _ _ H' => Q b H') σ H
end
theorem view_rep {D : Wd} {m : Mp} {H : Hp} {h : Store} (S : RepS D m H h) {v : Val} {a : PV} {x : V} (e : view h v = some a) (r : RepV D m H v x) : RepW D H a x := by
  cases r with
  | p hp =>
    cases e
    exact .p hp
  | @loc l q hq =>
    cases ho : h[l]? with
    | none => simp [view, ho] at e
    | some o =>
      have R := S.at_ l o q ho hq
      cases o with
      | lst ps =>
        simp only [view, ho, Option.some.injEq] at e
        subst e
        obtain ⟨xs, h1, h2⟩ := R
        exact .lst h1 h2
      | dct kvs =>
        simp only [view, ho, Option.some.injEq] at e
        subst e
        rcases R with ⟨ks, h1, h2⟩ | ⟨ks, h1, h2⟩
        · exact .dctK h1 h2
        · exact .dctN h1 h2
      | fzn p =>
        simp only [view, ho, Option.some.injEq] at e
        subst e
        exact .p R
      | obj c fs => simp [view, ho] at e

theorem pe_mono {X : Cx} {e : Expr} {t t' : TE} (h : PE X e t) (i : ∀ σ H Q, t' σ H Q → t σ H Q) : PE X e t' := ⟨fun pins s σ H Q I q => h.run pins s σ H Q I (i σ H Q q)⟩
theorem pt_mono {X : Cx} {e : Expr} {t t' : TT} (h : PT X e t) (i : ∀ σ H Q, t' σ H Q → t σ H Q) : PT X e t' := ⟨fun pins s σ H Q I q => h.run pins s σ H Q I (i σ H Q q)⟩
theorem pa_mono {X : Cx} {es : List Expr} {t t' : TA} (h : PA X es t) (i : ∀ σ H Q, t' σ H Q → t σ H Q) : PA X es t' := ⟨fun pos pins s σ H Q I q => h.run pos pins s σ H Q I (i σ H Q q)⟩

section
variable {D : Wd} {T : Tab} {Γ : Calls} {W : WX} {X : Cx} {e : Expr}
/-- go on from a piece of code -/
theorem tRes.thn {α β : Type} {ev : Env → Store → Res α} {f : Env → α → Store → Res β} {K : β → Store → Mp → Hp → Prop} {K' : α → Store → Mp → Hp → Prop} {σ : L2.St} {H : Hp}
    (p : tRes D W (fun ρ h => (ev ρ h).bind (f ρ)) K σ H)
    (k : ∀ a h1 m1 H1 ρ, RepS D m1 H1 h1 → RepEnv D m1 H1 ρ σ → Post D W σ m1 H1 K (f ρ a h1) → K' a h1 m1 H1) : tRes D W ev K' σ H := by
  obtain ⟨m, h, ρ, S, R, p⟩ := p
  exact ⟨m, h, ρ, S, R, p.bind.mono fun a h1 m1 H1 e s q => k a h1 m1 H1 ρ s (R.ext e) q⟩
/-- frozen behind it -/
theorem pe_frz {c : C} (h : PE X e (tE D T Γ W c)) : PE X e (tP D T Γ W c) := by
  refine ⟨fun pins s σ H Q I ⟨m, h0, ρ, S, R, p⟩ => ?_⟩
  have p1 := Post.bind (f := fz) p
  refine L2.thn (h.run pins s σ H (fun x H1 => ∃ m1 h1 v, RepS D m1 H1 h1 ∧ RepV D m1 H1 v x ∧ Post D W σ m1 H1 (fun a _ _ H' => ∀ x, RepP D H' a x → Q x H') (fz v h1)) I
    ⟨m, h0, ρ, S, R, p1.mono fun a h1 m1 H1 e s q x r => ⟨m1, h1, a, s, r, q⟩⟩) fun u s1 ⟨x, H1, I1, rx, m1, h1, v, S1, r, q⟩ => ?_
  cases ev : fz v h1 with
  | bad => rw [ev] at q; exact False.elim q
  | ok p h2 =>
    rw [ev] at q
    obtain ⟨H2, I2, e2, S2, r2⟩ := freeze I1 S1 r ev
    exact ⟨x, H2, I2, rx, q m1 H2 e2 S2 x r2⟩
  | exc z h2 =>
    exfalso
    cases v with
    | p w => cases ev
    | loc l =>
      simp only [fz, toP] at ev
      split at ev
      · cases ev
      · cases ev
      · cases ev
      · split at ev <;> cases ev
      · cases ev
/-- seen -/
theorem pe_see {c : C} (h : PE X e (tE D T Γ W c)) : PE X e (tV D T Γ W c) := by
  refine pe_mono h fun σ H Q ⟨m, h0, ρ, S, R, p⟩ => ⟨m, h0, ρ, S, R, (Post.bind (f := vw) p).mono fun a h1 m1 H1 e s q x r => ?_⟩
  obtain ⟨b, hb, q⟩ := Post.of q
  exact q.ok s x a hb r
/-- a test by its value -/
theorem b1_e {c : C} {σ : L2.St} {H : Hp} {Q : Bool → Hp → Prop} (h : tB1 D T Γ W c σ H Q) : tE D T Γ W c σ H fun x H1 => ∃ k, x = .bl k ∧ Q k H1 := by
  refine tRes.thn (ev := evE T Γ c) (f := fun _ => asB) h fun a h1 m1 H1 ρ S1 R1 q x rx => ?_
  cases rx with
  | loc hl => exact False.elim q
  | @p v _ rp =>
    cases v <;> try exact False.elim q
    rename_i b
    cases rp
    exact ⟨b, rfl, q.ok S1⟩
theorem pt_of {c : C} (h : PE X e (tE D T Γ W c)) (he : ∀ whole, isTrue e X.env whole = (do let v ← whole; standAt e.pos; holding [v] (truthy v))) : PT X e (tB1 D T Γ W c) :=
  pt_mono (pt_val h he) fun σ H Q q => b1_e q

/-! ### names, constants, displays -/
variable {nm : Str → Option Gk} {an : Nat → Str} {fa : Nat → Addr} {d : Nat} {G : Gx}
def nameC (G : Gx) (x : Str) : Option Nat := if (x == ("__debug__" : Str)) || (x == ("__classdict__" : Str)) then none else
  match G.sc.names.lookup x with
  | some .local => G.N.idxOf? x
  | some .cell => G.N.idxOf? x
  | some .free => G.N.idxOf? x
  | _ => none
theorem nameC_ok {x : Str} {i : Nat} (h : nameC G x = some i) : G.N[i]? = some x ∧ Vis G.sc x ∧ (x == ("__debug__" : Str)) = false ∧ (x == ("__classdict__" : Str)) = false := by
  unfold nameC at h
  split at h
  · cases h
  · rename_i hd
    have hd2 : (x == ("__debug__" : Str)) = false ∧ (x == ("__classdict__" : Str)) = false := by
      cases h1 : (x == ("__debug__" : Str)) <;> cases h2 : (x == ("__classdict__" : Str)) <;> simp_all
    have ix : G.N.idxOf? x = some i → G.N[i]? = some x := fun e => by
      rw [List.idxOf?, List.findIdx?_eq_some_iff_getElem] at e
      obtain ⟨h1, h2, _⟩ := e
      rw [List.getElem?_eq_getElem h1, beq_iff_eq.mp h2]
    split at h
    · rename_i q; exact ⟨ix h, .inl q, hd2⟩
    · rename_i q; exact ⟨ix h, .inr (.inl q), hd2⟩
    · rename_i q; exact ⟨ix h, .inr (.inr q), hd2⟩
    · cases h
theorem snd_var (cx : CxOk D T Γ nm an fa d G W X) {x : Str} {i : Nat} {pos : Pos} (h : nameC G x = some i) : PE X (.Name x pos) (tE D T Γ W (.var i)) := by
  obtain ⟨h1, h2, h3, h4⟩ := nameC_ok h
  refine pe_mono (pe_var (i := i) (by rw [cx.N]; exact h1) (by rw [cx.sc]; exact h2) h3 h4) fun σ H Q ⟨m, h0, ρ, S, R, p⟩ => ?_
  simp only [evE] at p
  split at p
  · rename_i v hv
    obtain ⟨y, hy, r⟩ := R.2 i v hv
    exact ⟨y, hy, p.ok S y r⟩
  · exact False.elim p
theorem snd_pv (cx : CxOk D T Γ nm an fa d G W X) {p : PV} {v : V} (h : PE X e (tC v)) (r : ∀ H, RepP D H p v) : PE X e (tE D T Γ W (.pv p)) :=
  pe_mono h fun σ H Q ⟨m, h0, ρ, S, R, q⟩ => Post.ok q S v (.p (r H))
theorem snd_glob (cx : CxOk D T Γ nm an fa d G W X) {x : Str} {p : PV} {pos : Pos} (hg : G.sc.names.lookup x = some .globalImplicit) (hn : nm x = some (.cst p)) (hd : (x == ("__debug__" : Str)) = false) : PE X (.Name x pos) (tE D T Γ W (.pv p)) := by
  obtain ⟨u, v, h1, h2, h3⟩ := cx.prg.gl x _ hn
  exact snd_pv cx (pe_glob (show X.env.scope.names.lookup x = _ by rw [cx.sc]; exact hg) h1 h2 hd) h3
theorem snd_nil (cx : CxOk D T Γ nm an fa d G W X) : PA X [] (tL D T Γ W .nil) := pa_mono pa_nil fun σ H Q ⟨m, h0, ρ, S, R, p⟩ => Post.ok p S [] .nil
def noStar : Expr → Bool
  | .Starred _ _ => false
  | _ => true
theorem starEach_no {e : Expr} {es : List Expr} {env : PySem.Env} (h : noStar e = true) : starEach (e :: es) env = (false, eval e env) :: starEach es env := by
  cases e <;> first | rfl | cases h
theorem snd_cons (cx : CxOk D T Γ nm an fa d G W X) {es : List Expr} {a : C} {r : CL} (he : PE X e (tE D T Γ W a)) (hr : PA X es (tL D T Γ W r)) (hn : noStar e = true) : PA X (e :: es) (tL D T Γ W (.cons a r)) := by
  refine pa_mono (pa_cons (pe_frz he) hr (starEach_no hn)) fun σ H Q p => ?_
  refine tRes.thn (ev := evP T Γ a) p fun x h1 m1 H1 ρ S1 R1 q y ry => ?_
  refine ⟨m1, h1, ρ, S1, R1, q.bind.mono fun xs h2 m2 H2 e2 s2 q2 ys rs => ?_⟩
  exact q2.ok s2 (y :: ys) (.cons (ry.ext e2.px) rs)
theorem sizeMax_eq : sizeMax = sizeLine := by decide +kernel
theorem snd_tup (cx : CxOk D T Γ nm an fa d G W X) {es : List Expr} {as : CL} {k : Nat} {pos : Pos} (h : PA X es (tL D T Γ W as)) : PE X (.Tuple es k pos) (tE D T Γ W (.tup as)) := by
  refine pe_mono (pe_tup h) fun σ H Q p => ?_
  refine tRes.thn (ev := evL T Γ as) p fun ps h1 m1 H1 ρ S1 R1 q xs rs => ?_
  split at q
  · rename_i hl
    refine ⟨by rw [← rs.len, ← sizeMax_eq]; exact hl, fun a ha => ?_⟩
    have e1 := Ext.fresh (m := m1) (u := .tup xs) ha
    exact q m1 _ e1 (S1.fresh ha) (.ref a) (.p (.tup (.inl (.inl upd_same)) (rs.ext e1.px)))
  · exact False.elim q
end
end Sw

end

section
/-! Expressions: displays, operators, tests, built-ins. -/
namespace Sw
open PySem L2
section
variable {D : Wd} {T : Tab} {Γ : Calls} {W : WX} {X : Cx} {e : Expr} {nm : Str → Option Gk} {an : Nat → Str} {fa : Nat → Addr} {d : Nat} {G : Gx}

/-- known from now on -/
theorem pe_lockd {t : TE} (h : PE X e t) : PE X e (fun σ H Q => t σ H fun v H1 => ∃ p u, v = .ref p ∧ H1 p = some u ∧ Still u = false ∧ ∀ od, Q v (upd H1 p (.frz od u))) := by
  refine ⟨fun pins s σ H Q I q => L2.thn (h.run pins s σ H _ I q) fun u s1 ⟨v, H1, I1, rv, p, o, ev, hp, hs, k⟩ => ?_⟩
  obtain ⟨od, I2⟩ := Inv.frozen I1 hp hs
  exact ⟨v, _, I2, rv, k od⟩
/-- new objects that are not of the store -/
def Grow (D : Wd) (H H' : Hp) : Prop := ∀ m, Ext m H m H' ∧ ∀ h, RepS D m H h → RepS D m H' h
theorem Grow.refl (H : Hp) : Grow D H H := fun m => ⟨Ext.refl m H, fun _ r => r⟩
theorem Grow.fresh {H : Hp} {p : Addr} {u : HO} (n : H p = none) : Grow D H (upd H p u) := fun m => ⟨Ext.fresh n, fun _ r => r.fresh n⟩
theorem Grow.trans {H H1 H2 : Hp} (a : Grow D H H1) (b : Grow D H1 H2) : Grow D H H2 := fun m => ⟨(a m).1.trans (b m).1, fun h r => (b m).2 h ((a m).2 h r)⟩
theorem Post.grow {σ : L2.St} {m : Mp} {H H' : Hp} {α : Type} {a : α} {h : Store} {k : α → Store → Mp → Hp → Prop} (p : Post D W σ m H k (.ok a h)) (g : Grow D H H') (S : RepS D m H h) : k a h m H' := p m H' (g m).1 ((g m).2 h S)

theorem snd_lst (cx : CxOk D T Γ nm an fa d G W X) {es : List Expr} {as : CL} {pos : Pos} (h : PA X es (tL D T Γ W as)) : PE X (.List es pos) (tE D T Γ W (.lst as)) := by
  refine pe_mono (pe_lockd (pe_lst h)) fun σ H Q p => ?_
  refine tRes.thn (ev := evL T Γ as) p fun ps h1 m1 H1 ρ S1 R1 q xs rs => ?_
  split at q
  · rename_i hl
    refine ⟨by rw [← rs.len, ← sizeMax_eq]; exact hl, fun a ha => ⟨a, _, rfl, upd_same, rfl, fun od => ?_⟩⟩
    rw [upd_upd]
    have g : Grow D H1 (upd H1 a (.frz od (.lst xs))) := Grow.fresh ha
    exact Post.grow q g S1 (.ref a) (.p (.lst (.inl ⟨od, upd_same⟩) (rs.ext (g m1).1.px)))
  · exact False.elim q
theorem snd_newL (cx : CxOk D T Γ nm an fa d G W X) {es : List Expr} {as : CL} {pos : Pos} (h : PA X es (tL D T Γ W as)) : PE X (.List es pos) (tE D T Γ W (.newL as)) := by
  refine pe_mono (pe_lst h) fun σ H Q p => ?_
  refine tRes.thn (ev := evL T Γ as) p fun ps h1 m1 H1 ρ S1 R1 q xs rs => ?_
  split at q
  · rename_i hl
    refine ⟨by rw [← rs.len, ← sizeMax_eq]; exact hl, fun a ha => ?_⟩
    have ex := Ext.place (u := .lst xs) S1 ha
    refine q _ _ ex (S1.place ha ⟨xs, upd_same, rs.ext ex.px⟩) (.ref a) (.loc (q := (a, a)) ?_)
    rw [← S1.len, List.getElem?_append_right (Nat.le_refl _)]
    simp
  · exact False.elim q
theorem snd_newD (cx : CxOk D T Γ nm an fa d G W X) {pos : Pos} : PE X (.Dict [] [] pos) (tE D T Γ W .newD) := by
  refine pe_mono pe_dnewK fun σ H Q ⟨m, h, ρ, S, R, q⟩ => fun a ha => ?_
  have ex := Ext.place (u := .dK []) S ha
  refine q _ _ ex (S.place ha (.inl ⟨[], upd_same, .nil⟩)) (.ref a) (.loc (q := (a, a)) ?_)
  rw [← S.len, List.getElem?_append_right (Nat.le_refl _)]
  simp

/-! ### operators -/
def opO : Op → Operator
  | .add => .Add
  | .sub => .Sub
  | .mul => .Mult
  | .fdiv => .FloorDiv
  | .mod => .Mod
/-- a rule for what op2 answers -/
def OpFits (D : Wd) (o : Op) (r : R2) : Prop := ∀ x y z H vx vy (Q : VK), RepP D H x vx → RepP D H y vy → op2 o x y = some z → (∀ v H', Grow D H H' → RepP D H' z v → Q v H') → r vx vy H Q
theorem snd_opR (cx : CxOk D T Γ nm an fa d G W X) {a b : Expr} {ca cb : C} {o : Op} {r : R2} {pos : Pos} (ho : OpR X (binaryOp (opO o)) r) (hr : OpFits D o r) (ha : PE X a (tE D T Γ W ca)) (hb : PE X b (tE D T Γ W cb)) :
    PE X (.BinOp a (opO o) b pos) (tE D T Γ W (.op o ca cb)) := by
  refine pe_mono (pe_op ho (pe_frz ha) (pe_frz hb)) fun σ H Q p => ?_
  refine tRes.thn (ev := evP T Γ ca) p fun x h1 m1 H1 ρ S1 R1 q vx rx => ?_
  refine ⟨m1, h1, ρ, S1, R1, q.bind.mono fun y h2 m2 H2 e2 S2 q2 vy ry => ?_⟩
  obtain ⟨z0, ez0, q2⟩ := Post.of q2
  obtain ⟨z, ez, rfl⟩ := Option.map_eq_some_iff.mp ez0
  exact hr x y z H2 vx vy Q (rx.ext e2.px) ry ez fun v H' g r => Post.grow q2 g S2 v (.p r)
theorem log2_lt {i : Int} {n : Nat} (h : i.natAbs < 2 ^ n) (hn : 0 < n) : i.natAbs.log2 < n := by
  by_cases z : i.natAbs = 0
  · rw [z]
    simpa using hn
  · exact (Nat.log2_lt z).mpr h
theorem fit_add : OpFits D .add (rI0 fun i j => .int (i + j)) := by
  intro x y z H vx vy Q rx ry e k
  cases x <;> cases y <;> simp [op2] at e
  subst e
  cases rx
  cases ry
  exact ⟨_, _, rfl, rfl, k _ H (Grow.refl H) (.int _)⟩
theorem fit_sub : OpFits D .sub (rI0 fun i j => .int (i - j)) := by
  intro x y z H vx vy Q rx ry e k
  cases x <;> cases y <;> simp [op2] at e
  subst e
  cases rx
  cases ry
  exact ⟨_, _, rfl, rfl, k _ H (Grow.refl H) (.int _)⟩
theorem fit_fdiv : OpFits D .fdiv (rI CDivW fun i j => .int (i / j)) := by
  intro x y z H vx vy Q rx ry e k
  cases x <;> cases y <;> simp [op2] at e
  rename_i i j
  obtain ⟨⟨h1, h2⟩, rfl⟩ := e
  cases rx
  cases ry
  have h3 : j.natAbs < 2 ^ 8192 := of_decide_eq_true h2
  exact ⟨_, _, rfl, rfl, ⟨h1, Nat.lt_trans (log2_lt h3 (by decide)) (by decide)⟩, k _ H (Grow.refl H) (.int _)⟩
theorem fit_mod : OpFits D .mod (rI (fun _ j => 0 < j) fun i j => .int (i % j)) := by
  intro x y z H vx vy Q rx ry e k
  cases x <;> cases y <;> simp [op2] at e
  obtain ⟨h1, rfl⟩ := e
  cases rx
  cases ry
  exact ⟨_, _, rfl, rfl, h1, k _ H (Grow.refl H) (.int _)⟩
theorem RepL.rep {H : Hp} {ps : List PV} {xs : List V} (r : RepL D H ps xs) : ∀ n : Nat, RepL D H (List.replicate n ps).flatten (List.replicate n xs).flatten
  | 0 => .nil
  | n + 1 => by
    rw [List.replicate_succ, List.replicate_succ, List.flatten_cons, List.flatten_cons]
    exact r.app (RepL.rep r n)
theorem fit_mul (hK : X.K = D.K) : OpFits D .mul (fun x y H Q => (rI CMul (fun i j => .int (i * j)) x y H Q ∨ rI CMulW (fun i j => .int (i * j)) x y H Q) ∨ rRepT X.K x y H Q) := by
  intro x y z H vx vy Q rx ry e k
  cases x <;> cases y <;> simp [op2] at e
  · rename_i i j
    obtain ⟨h, rfl⟩ := e
    cases rx
    cases ry
    refine .inl ?_
    rcases h with (h | h) | ⟨h1, h2⟩
    · have := Bool.and_eq_true_iff.mp h
      exact .inl ⟨_, _, rfl, rfl, .inl ⟨of_decide_eq_true this.1, of_decide_eq_true this.2⟩, k _ H (Grow.refl H) (.int _)⟩
    · have := Bool.and_eq_true_iff.mp h
      exact .inl ⟨_, _, rfl, rfl, .inr ⟨of_decide_eq_true this.1, of_decide_eq_true this.2⟩, k _ H (Grow.refl H) (.int _)⟩
    · have h3 : i.natAbs < 2 ^ 8192 := of_decide_eq_true h1
      have h4 : j.natAbs < 2 ^ 8192 := of_decide_eq_true h2
      exact .inr ⟨_, _, rfl, rfl, wide_mul h3 h4 (by decide) (by decide) (by decide), k _ H (Grow.refl H) (.int _)⟩
  · rename_i xs n
    obtain ⟨⟨⟨⟨h1, h2⟩, h3⟩, h4⟩, rfl⟩ := e
    cases ry
    cases rx with
    | @tup a ys _ hs rs =>
      refine .inr ⟨a, n, ys, rfl, rfl, by rw [hK]; exact hs, fun z => ?_, h2, h3, by rw [← rs.len]; exact h4, fun p hp => k _ _ (Grow.fresh hp) ?_⟩
      · subst z
        cases rs
        exact h1 rfl
      · exact .tup (.inl (.inl upd_same)) ((rs.rep _).ext (Ext.fresh (m := []) hp).px)
theorem snd_op (cx : CxOk D T Γ nm an fa d G W X) {a b : Expr} {ca cb : C} (o : Op) {pos : Pos} (ha : PE X a (tE D T Γ W ca)) (hb : PE X b (tE D T Γ W cb)) : PE X (.BinOp a (opO o) b pos) (tE D T Γ W (.op o ca cb)) := by
  cases o with
  | add => exact snd_opR cx op_add fit_add ha hb
  | sub => exact snd_opR cx op_sub fit_sub ha hb
  | mul => exact snd_opR cx ((op_mul.or op_mulW).or op_repT) (fit_mul (by rw [cx.wd]; rfl)) ha hb
  | fdiv => exact snd_opR cx op_fdivW fit_fdiv ha hb
  | mod => exact snd_opR cx op_mod fit_mod ha hb
theorem snd_neg (cx : CxOk D T Γ nm an fa d G W X) {a : Expr} {ca : C} {pos : Pos} (ha : PE X a (tE D T Γ W ca)) : PE X (.UnaryOp .USub a pos) (tE D T Γ W (.neg ca)) := by
  refine pe_mono (pe_un un_neg (pe_frz ha)) fun σ H Q p => ?_
  refine tRes.thn (ev := evP T Γ ca) p fun x h1 m1 H1 ρ S1 R1 q vx rx => ?_
  cases x <;> try exact False.elim q
  cases rx
  exact ⟨_, rfl, q.ok S1 _ (.p (.int _))⟩
end
end Sw

end

section
/-! Comparisons, and, or, not. -/
namespace Sw
open PySem L2
mutual
def PV.toD : PV → PyData
  | .non => .none
  | .bl b => .bool b
  | .int i => .int i
  | .str s => .str s
  | .tup xs => .tuple (PV.toDs xs)
  | .lst xs => .list (PV.toDs xs)
  | .dct _ => .none
  | .obj _ _ => .none
def PV.toDs : List PV → List PyData
  | [] => []
  | x :: xs => PV.toD x :: PV.toDs xs
end
mutual
theorem toD_eqv : ∀ a b : PV, a.plain = true → b.plain = true → PV.eqv a b = PyData.eqv a.toD b.toD
  | .non, b, _, hb => by cases b <;> simp_all [PV.eqv, PV.toD, PyData.eqv, PV.plain]
  | .bl x, b, _, hb => by cases b <;> simp_all [PV.eqv, PV.toD, PyData.eqv, PV.plain, b2i]
  | .int x, b, _, hb => by cases b <;> simp_all [PV.eqv, PV.toD, PyData.eqv, PV.plain, b2i]
  | .str x, b, _, hb => by cases b <;> simp_all [PV.eqv, PV.toD, PyData.eqv, PV.plain]
  | .tup xs, b, ha, hb => by
    cases b with
    | tup ys => simp only [PV.eqv, PV.toD, PyData.eqv]; exact toD_eqvs xs ys (by simpa [PV.plain] using ha) (by simpa [PV.plain] using hb)
    | _ => simp_all [PV.eqv, PV.toD, PyData.eqv, PV.plain]
  | .lst xs, b, ha, hb => by
    cases b with
    | lst ys => simp only [PV.eqv, PV.toD, PyData.eqv]; exact toD_eqvs xs ys (by simpa [PV.plain] using ha) (by simpa [PV.plain] using hb)
    | _ => simp_all [PV.eqv, PV.toD, PyData.eqv, PV.plain]
  | .dct _, b, ha, _ => by simp [PV.plain] at ha
  | .obj _ _, b, ha, _ => by simp [PV.plain] at ha
theorem toD_eqvs : ∀ a b : List PV, PV.plainAll a = true → PV.plainAll b = true → PV.eqvAll a b = PyData.eqvAll (PV.toDs a) (PV.toDs b)
  | [], [], _, _ => rfl
  | [], _ :: _, _, _ => rfl
  | _ :: _, [], _, _ => rfl
  | x :: xs, y :: ys, ha, hb => by
    simp only [PV.plainAll, Bool.and_eq_true] at ha hb
    simp only [PV.eqvAll, PV.toDs, PyData.eqvAll]
    rw [toD_eqv x y ha.1 hb.1, toD_eqvs xs ys ha.2 hb.2]
end
mutual
theorem toD_lay : ∀ a : PV, a.plain = true → a.toD.canLay0 = true
  | .non, _ => rfl
  | .bl _, _ => rfl
  | .int _, _ => rfl
  | .str _, h => by simpa [PV.plain, PV.toD, PyData.canLay0] using h
  | .tup xs, h => by
    simp only [PV.toD, PyData.canLay0]
    exact toD_lays xs (by simpa [PV.plain] using h)
  | .lst xs, h => by
    simp only [PV.toD, PyData.canLay0]
    exact toD_lays xs (by simpa [PV.plain] using h)
  | .dct _, h => by simp [PV.plain] at h
  | .obj _ _, h => by simp [PV.plain] at h
theorem toD_lays : ∀ a : List PV, PV.plainAll a = true → PyData.canLayAll0 (PV.toDs a) = true
  | [], _ => rfl
  | x :: xs, h => by
    simp only [PV.plainAll, Bool.and_eq_true] at h
    simp only [PV.toDs, PyData.canLayAll0, Bool.and_eq_true]
    exact ⟨toD_lay x h.1, toD_lays xs h.2⟩
end
mutual
theorem toD_depth : ∀ a : PV, a.toD.depth = a.depth
  | .non => by simp [PV.toD, PV.depth, PyData.depth]
  | .bl _ => by simp [PV.toD, PV.depth, PyData.depth]
  | .int _ => by simp [PV.toD, PV.depth, PyData.depth]
  | .str _ => by simp [PV.toD, PV.depth, PyData.depth]
  | .tup xs => by simp only [PV.toD, PV.depth, PyData.depth]; rw [toD_depths xs]
  | .lst xs => by simp only [PV.toD, PV.depth, PyData.depth]; rw [toD_depths xs]
  | .dct _ => by simp [PV.toD, PV.depth, PyData.depth]
  | .obj _ _ => by simp [PV.toD, PV.depth, PyData.depth]
theorem toD_depths : ∀ a : List PV, PyData.depthAll (PV.toDs a) = PV.depthAll a
  | [] => by simp [PV.toDs, PV.depthAll, PyData.depthAll]
  | x :: xs => by simp only [PV.toDs, PV.depthAll, PyData.depthAll]; rw [toD_depth x, toD_depths xs]
end
theorem toD_shaped {a : PV} (h : a.plain = true) (hd : a.depth ≤ 60) : SeqAt.shaped a.toD = true := by
  unfold SeqAt.shaped
  rw [toD_lay a h, toD_depth]
  simp
  omega
section
variable {D : Wd} {H : Hp}
mutual
theorem RepP.dp : ∀ {p : PV} {x : V}, RepP D H p x → p.plain = true → Dp D.K H x p.toD
  | _, _, .non, _ => .non
  | _, _, .bl b, _ => .bl b
  | _, _, .int i, _ => .int i
  | _, _, .str s, _ => .str s
  | _, _, .tup h r, hp => .tup h (RepL.dp r (by simpa [PV.plain] using hp))
  | _, _, .lst h r, hp => .lst h.sq (RepL.dp r (by simpa [PV.plain] using hp))
  | _, _, .dctK _ _, hp => by simp [PV.plain] at hp
  | _, _, .dctN _ _, hp => by simp [PV.plain] at hp
  | _, _, .obj _ _ _ _, hp => by simp [PV.plain] at hp
theorem RepL.dp : ∀ {ps : List PV} {xs : List V}, RepL D H ps xs → PV.plainAll ps = true → DpAll D.K H xs (PV.toDs ps)
  | _, _, .nil, _ => .nil
  | _, _, .cons h r, hp => by
    simp only [PV.plainAll, Bool.and_eq_true] at hp
    exact .cons (RepP.dp h hp.1) (RepL.dp r hp.2)
end
theorem RepW.dp {p : PV} {x : V} (r : RepW D H p x) (hp : p.plain = true) : Dp D.K H x p.toD := by
  cases r with
  | p r => exact r.dp hp
  | lst h r => exact .lst (SqL.of h) (RepL.dp r (by simpa [PV.plain] using hp))
  | dctK h r => simp [PV.plain] at hp
  | dctN h r => simp [PV.plain] at hp
end

section
variable {D : Wd} {T : Tab} {Γ : Calls} {W : WX} {X : Cx} {e : Expr} {nm : Str → Option Gk} {an : Nat → Str} {fa : Nat → Addr} {d : Nat} {G : Gx}
def cmpO : Cmp → CmpOp
  | .eq => .Eq
  | .ne => .NotEq
  | .lt => .Lt
  | .le => .LtE
  | .gt => .Gt
  | .ge => .GtE
  | .in_ => .In
  | .notin => .NotIn
  | .is_ => .Is
  | .isnot => .IsNot
def CmpFits (D : Wd) (o : Cmp) (r : R2) : Prop := ∀ x y b H vx vy (Q : VK), RepW D H x vx → RepW D H y vy → cmp2 o x y = some b → Q (.bl b) H → r vx vy H Q
def noSet : Expr → Bool
  | .Set _ _ _ => false
  | _ => true
theorem marks_no {op : CmpOp} {b : Expr} (h : noSet b = true) : behindInMarks op b = false := by
  cases b <;> first | rfl | cases h
theorem vw_ok {σ : L2.St} {m : Mp} {H : Hp} {v : Val} {h : Store} {α : Type} {k : α → Store → Mp → Hp → Prop} {f : PV → Store → Res α} (p : Post D W σ m H k ((vw v h).bind f)) : ∃ x, view h v = some x ∧ Post D W σ m H k (f x h) := by
  unfold vw at p
  cases e : view h v with
  | none => rw [e] at p; exact False.elim p
  | some x => rw [e] at p; exact ⟨x, rfl, p⟩
theorem snd_cmpR (cx : CxOk D T Γ nm an fa d G W X) {a b : Expr} {ca cb : C} {o : Cmp} {r : R2} {pos : Pos} (ho : OpR X (compareOp (cmpO o)) r) (hr : CmpFits D o r) (ha : PE X a (tE D T Γ W ca)) (hb : PE X b (tE D T Γ W cb)) (hs : noSet b = true) :
    PE X (.Compare a [cmpO o] [b] pos) (tE D T Γ W (.cmp o ca cb)) := by
  refine pe_mono (pe_cmpR ho ha hb (marks_no hs)) fun σ H Q p => ?_
  refine tRes.thn (ev := evE T Γ ca) p fun u h1 m1 H1 ρ S1 R1 q vx rx => ?_
  refine ⟨m1, h1, ρ, S1, R1, q.bind.mono fun v h2 m2 H2 e2 S2 q2 vy ry => ?_⟩
  obtain ⟨x, ex, q2⟩ := vw_ok q2
  obtain ⟨y, ey, q2⟩ := vw_ok q2
  obtain ⟨z0, ez0, q2⟩ := Post.of q2
  obtain ⟨z, ez, rfl⟩ := Option.map_eq_some_iff.mp ez0
  exact hr x y z H2 vx vy Q (view_rep S2 ex (rx.ext e2)) (view_rep S2 ey ry) ez (q2.ok S2 _ (.p (.bl z)))
theorem intW {H : Hp} {i : Int} {x : V} (r : RepW D H (.int i) x) : x = .int i := by
  cases r with
  | p r => cases r; rfl
theorem fit_lt : CmpFits D .lt (rI0 fun i j => .bl (decide (i < j))) := by
  intro x y b H vx vy Q rx ry e k
  cases x <;> cases y <;> simp [cmp2] at e
  subst e
  rw [intW rx, intW ry]
  exact ⟨_, _, rfl, rfl, k⟩
theorem fit_le : CmpFits D .le (rI0 fun i j => .bl (decide (i ≤ j))) := by
  intro x y b H vx vy Q rx ry e k
  cases x <;> cases y <;> simp [cmp2] at e
  subst e
  rw [intW rx, intW ry]
  exact ⟨_, _, rfl, rfl, k⟩
theorem fit_gt : CmpFits D .gt (rI0 fun i j => .bl (decide (j < i))) := by
  intro x y b H vx vy Q rx ry e k
  cases x <;> cases y <;> simp [cmp2] at e
  subst e
  rw [intW rx, intW ry]
  exact ⟨_, _, rfl, rfl, k⟩
theorem fit_ge : CmpFits D .ge (rI0 fun i j => .bl (decide (j ≤ i))) := by
  intro x y b H vx vy Q rx ry e k
  cases x <;> cases y <;> simp [cmp2] at e
  subst e
  rw [intW rx, intW ry]
  exact ⟨_, _, rfl, rfl, k⟩
theorem isNonW {H : Hp} {p : PV} {x : V} (r : RepW D H p x) : decide (x = .non) = isNon p := by
  cases r with
  | p r => cases r <;> rfl
  | lst h r => rfl
  | dctK h r => rfl
  | dctN h r => rfl
theorem fit_is : CmpFits D .is_ (fun x y H Q => y = .non ∧ Q (.bl (decide (x = .non))) H) := by
  intro x y b H vx vy Q rx ry e k
  cases y <;> simp [cmp2] at e
  subst e
  refine ⟨?_, by rw [isNonW rx]; exact k⟩
  cases ry with
  | p r => cases r; rfl
theorem fit_isnot : CmpFits D .isnot (fun x y H Q => y = .non ∧ Q (.bl (!decide (x = .non))) H) := by
  intro x y b H vx vy Q rx ry e k
  cases y <;> simp [cmp2] at e
  refine ⟨?_, by rw [isNonW rx, e]; simpa using k⟩
  cases ry with
  | p r => cases r; rfl
end
end Sw

end

section
/-! Dicts by pure keys. -/
namespace Sw
open PySem L2
/-! ### keys -/
mutual
theorem key_eqv : ∀ (a b : PV) (i j : NestedKey), a.key = some i → b.key = some j → PV.eqv a b = decide (i = j)
  | .non, b, i, j, ha, hb => by
    simp only [PV.key, Option.some.injEq] at ha
    subst ha
    rw [NestedKey.decide_eq]
    cases b with
    | non => simp only [PV.key, Option.some.injEq] at hb; subst hb; rfl
    | int k => simp only [PV.key, Option.some.injEq] at hb; subst hb; simp [PV.eqv, NestedKey.beq]
    | str k => simp only [PV.key, Option.some.injEq] at hb; subst hb; simp [PV.eqv, NestedKey.beq]
    | tup xs =>
      simp only [PV.key] at hb
      split at hb
      · cases hb; simp [PV.eqv, NestedKey.beq]
      · cases hb
    | _ => simp [PV.key] at hb
  | .int x, b, i, j, ha, hb => by
    simp only [PV.key, Option.some.injEq] at ha
    subst ha
    rw [NestedKey.decide_eq]
    cases b with
    | non => simp only [PV.key, Option.some.injEq] at hb; subst hb; simp [PV.eqv, NestedKey.beq]
    | int k => simp only [PV.key, Option.some.injEq] at hb; subst hb; simp [PV.eqv, NestedKey.beq, Bool.beq_eq_decide_eq]
    | str k => simp only [PV.key, Option.some.injEq] at hb; subst hb; simp [PV.eqv, NestedKey.beq]
    | tup xs =>
      simp only [PV.key] at hb
      split at hb
      · cases hb; simp [PV.eqv, NestedKey.beq]
      · cases hb
    | _ => simp [PV.key] at hb
  | .str x, b, i, j, ha, hb => by
    simp only [PV.key, Option.some.injEq] at ha
    subst ha
    rw [NestedKey.decide_eq]
    cases b with
    | non => simp only [PV.key, Option.some.injEq] at hb; subst hb; simp [PV.eqv, NestedKey.beq]
    | int k => simp only [PV.key, Option.some.injEq] at hb; subst hb; simp [PV.eqv, NestedKey.beq]
    | str k => simp only [PV.key, Option.some.injEq] at hb; subst hb; simp [PV.eqv, NestedKey.beq, Bool.beq_eq_decide_eq]
    | tup xs =>
      simp only [PV.key] at hb
      split at hb
      · cases hb; simp [PV.eqv, NestedKey.beq]
      · cases hb
    | _ => simp [PV.key] at hb
  | .tup xs, b, i, j, ha, hb => by
    simp only [PV.key] at ha
    split at ha
    · rename_i ks hk
      cases ha
      rw [NestedKey.decide_eq]
      cases b with
      | non => simp only [PV.key, Option.some.injEq] at hb; subst hb; simp [PV.eqv, NestedKey.beq]
      | int k => simp only [PV.key, Option.some.injEq] at hb; subst hb; simp [PV.eqv, NestedKey.beq]
      | str k => simp only [PV.key, Option.some.injEq] at hb; subst hb; simp [PV.eqv, NestedKey.beq]
      | tup ys =>
        simp only [PV.key] at hb
        split at hb
        · rename_i ls hl
          cases hb
          simp only [PV.eqv, NestedKey.beq]
          exact keys_eqv xs ys ks ls hk hl
        · cases hb
      | _ => simp [PV.key] at hb
    · cases ha
  | .bl x, b, i, j, ha, hb => by simp [PV.key] at ha
  | .lst x, b, i, j, ha, hb => by simp [PV.key] at ha
  | .dct x, b, i, j, ha, hb => by simp [PV.key] at ha
  | .obj x y, b, i, j, ha, hb => by simp [PV.key] at ha
theorem keys_eqv : ∀ (a b : List PV) (i j : List NestedKey), PV.keyAll a = some i → PV.keyAll b = some j → PV.eqvAll a b = NestedKey.beqAll i j
  | [], [], i, j, ha, hb => by
    simp only [PV.keyAll, Option.some.injEq] at ha hb
    subst ha hb
    rfl
  | [], y :: ys, i, j, ha, hb => by
    simp only [PV.keyAll, Option.some.injEq] at ha hb
    subst ha
    split at hb
    · cases hb; simp [PV.eqvAll, NestedKey.beqAll]
    · cases hb
  | x :: xs, [], i, j, ha, hb => by
    simp only [PV.keyAll, Option.some.injEq] at ha hb
    subst hb
    split at ha
    · cases ha; simp [PV.eqvAll, NestedKey.beqAll]
    · cases ha
  | x :: xs, y :: ys, i, j, ha, hb => by
    simp only [PV.keyAll] at ha hb
    split at ha
    · rename_i k ks h1 h2
      cases ha
      split at hb
      · rename_i l ls h3 h4
        cases hb
        simp only [PV.eqvAll, NestedKey.beqAll]
        rw [key_eqv x y k l h1 h3, keys_eqv xs ys ks ls h2 h4, NestedKey.decide_eq]
      · cases hb
    · cases ha
end

section
variable {X : Cx} {pins : List (Addr × Obj)} {σ : L2.St} {H : Hp} {s : Shared} {ca : Nat → Addr} {xf : Nat → Str}
mutual
theorem RepP.nested (I : Inv X pins σ H s) : ∀ {p : PV} {x : V} {u : Value} {k : NestedKey}, RepP (wdOf X ca xf) H p x → p.key = some k → RelV x u → NestedIs s.heap k u
  | _, _, _, _, .non, hk, r => by
    simp only [PV.key, Option.some.injEq] at hk
    subst hk
    cases r
    exact .none
  | _, _, _, _, .int i, hk, r => by
    simp only [PV.key, Option.some.injEq] at hk
    subst hk
    obtain ⟨t, rfl⟩ := r
    exact .int i t
  | _, _, _, _, .str i, hk, r => by
    simp only [PV.key, Option.some.injEq] at hk
    subst hk
    obtain ⟨t, rfl⟩ := r
    exact .text i t
  | _, _, _, _, .tup (ps := ps) h rl, hk, r => by
    simp only [PV.key] at hk
    split at hk
    · rename_i ks hks
      cases hk
      cases r
      obtain ⟨its, rv, ⟨o, ho, hc, n, hd⟩, _⟩ := I.tuple h
      exact .tup ho hc hd (by simpa using RepL.nested I rl hks rv)
    · cases hk
  | _, _, _, _, .bl b, hk, r => by simp [PV.key] at hk
  | _, _, _, _, .lst _ _, hk, r => by simp [PV.key] at hk
  | _, _, _, _, .dctK _ _, hk, r => by simp [PV.key] at hk
  | _, _, _, _, .dctN _ _, hk, r => by simp [PV.key] at hk
  | _, _, _, _, .obj _ _ _ _, hk, r => by simp [PV.key] at hk
theorem RepL.nested (I : Inv X pins σ H s) : ∀ {ps : List PV} {xs : List V} {us : List Value} {ks : List NestedKey}, RepL (wdOf X ca xf) H ps xs → PV.keyAll ps = some ks → Vals xs us → NestedAll s.heap ks us
  | _, _, _, _, .nil, hk, r => by
    simp only [PV.keyAll, Option.some.injEq] at hk
    subst hk
    cases r
    exact .nil
  | _, _, _, _, .cons h rl, hk, r => by
    simp only [PV.keyAll] at hk
    split at hk
    · rename_i k ks h1 h2
      cases hk
      cases r with
      | cons r1 r2 => exact .cons (RepP.nested I h h1 r1) (RepL.nested I rl h2 r2)
    · cases hk
end

abbrev PairN : List (NestedKey × Addr × V) → List (NestedKey × Addr × Value) → Prop := Paired fun p q => p.1 = q.1 ∧ p.2.1 = q.2.1 ∧ RelV p.2.2 q.2.2
theorem repN_is (I : Inv X pins σ H s) : ∀ {kvs : List (PV × PV)} {xs : List (NestedKey × Addr × V)} {us : List (NestedKey × Addr × Value)}, RepN (wdOf X ca xf) H kvs xs → PairN xs us → ∀ x ∈ us, (nestedKind X.prog X.w).is s.heap x.1 x.2.1
  | _, _, _, .nil, .nil, x, hx => nomatch hx
  | _, _, _, .cons hk hd hq hp r, .cons ⟨e1, e2, e3⟩ rr, x, hx => by
    rcases List.mem_cons.mp hx with rfl | hx
    · refine ⟨?_, by rw [← e1]; exact hd⟩
      rw [← e1, ← e2]
      exact RepP.nested I hq hk rfl
    · exact repN_is I r rr x hx
theorem dN_of (I : Inv X pins σ H s) {a : Addr} {kvs : List (PV × PV)} {xs : List (NestedKey × Addr × V)} (h : Rd H a (dN (wdOf X ca xf) a xs)) (r : RepN (wdOf X ca xf) H kvs xs) :
    xs.length ≤ sizeLine ∧ (a == sysModules) = false ∧ ∃ us, PairN xs us ∧ s.heap.DictOfH (nestedKind X.prog X.w) a us := by
  obtain ⟨⟨z, y, us, pr, o, es, ep, ho, hx, hd, he, hn⟩, _, _⟩ := h.ok I.hok
  exact ⟨z, y, us, pr, o, es, ep, ho, hx, hd, he, repN_is I r pr, hn⟩
/-- what is found at a key -/
theorem findN : ∀ {kvs : List (PV × PV)} {xs : List (NestedKey × Addr × V)} {us : List (NestedKey × Addr × Value)} {D : Wd} {p : PV} {k : NestedKey}, RepN D H kvs xs → PairN xs us → p.key = some k →
    match dFind kvs p with
    | some v => ∃ x q, RepP D H v x ∧ atKey us k = some q ∧ RelV x q.2
    | none => atKey us k = none
  | _, _, _, D, p, k, .nil, .nil, hk => rfl
  | _, _, _, D, p, k, .cons (ks := ks) (k := k') (p := w) (v := y) hk' hd hq hp r, .cons (b := b) ⟨e1, e2, e3⟩ rr, hk => by
    have ih := findN r rr hk
    have ee := key_eqv _ p k' k hk' hk
    by_cases z : k' = k
    · have e : PV.eqv (.tup ks) p = true := by rw [ee]; exact decide_eq_true z
      simp only [dFind, e, if_pos]
      refine ⟨y, b.2, hp, ?_, e3⟩
      simp [atKey, List.find?_cons, show b.1 = k from by rw [← e1]; exact z]
    · have e : PV.eqv (.tup ks) p = false := by rw [ee]; exact decide_eq_false z
      simp only [dFind, e, Bool.false_eq_true, if_false]
      have e5 : ∀ l, atKey (b :: l) k = atKey l k := fun l => by simp [atKey, List.find?_cons, show ¬ b.1 = k from by rw [← e1]; exact z]
      rw [e5]
      exact ih
end

/-! ### a key stored -/
def putN : List (NestedKey × Addr × V) → NestedKey → Addr → V → List (NestedKey × Addr × V)
  | [], k, q, y => [(k, q, y)]
  | x :: t, k, q, y => if x.1 = k then (x.1, x.2.1, y) :: t else x :: putN t k q y
theorem putN_len (k : NestedKey) (q : Addr) (y : V) : ∀ xs, (putN xs k q y).length ≤ xs.length + 1
  | [] => Nat.le_refl _
  | x :: t => by
    unfold putN
    split
    · simp
    · simp only [List.length_cons]
      have := putN_len k q y t
      omega
theorem putAt_none {k : NestedKey} {u : Value} : ∀ {t : List (NestedKey × Addr × Value)}, k ∉ t.map (·.1) → t.map (putAt k u) = t
  | [], _ => rfl
  | x :: t, h => by
    simp only [List.map_cons, List.mem_cons, not_or] at h
    rw [List.map_cons, putAt_none h.2]
    congr 1
    unfold putAt
    rw [if_neg (fun e => h.1 e.symm)]
theorem stored_eq {x : NestedKey × Addr × Value} {t : List (NestedKey × Addr × Value)} {k : NestedKey} {q : Addr} {u : Value} (h : x.1 = k) (hn : ((x :: t).map (·.1)).Nodup) : storedH (x :: t) k q u = (x.1, x.2.1, u) :: t := by
  have e : (atKey (x :: t) k).isSome = true := by simp [atKey, List.find?_cons, h]
  have n : k ∉ t.map (·.1) := by
    rw [← h]
    exact (List.nodup_cons.mp hn).1
  unfold storedH
  rw [if_pos e, List.map_cons, putAt_none n]
  congr 1
  unfold putAt
  rw [if_pos h]
theorem stored_ne {x : NestedKey × Addr × Value} {t : List (NestedKey × Addr × Value)} {k : NestedKey} {q : Addr} {u : Value} (h : ¬ x.1 = k) : storedH (x :: t) k q u = x :: storedH t k q u := by
  have e : atKey (x :: t) k = atKey t k := by simp [atKey, List.find?_cons, h]
  unfold storedH
  rw [e]
  by_cases z : (atKey t k).isSome = true
  · rw [if_pos z, if_pos z, List.map_cons]
    congr 1
    unfold putAt
    rw [if_neg h]
  · rw [if_neg z, if_neg z, List.cons_append]
theorem PairN.put {k : NestedKey} {q : Addr} {y : V} {u : Value} (ry : RelV y u) : ∀ {xs : List (NestedKey × Addr × V)} {us : List (NestedKey × Addr × Value)}, PairN xs us → (us.map (·.1)).Nodup → PairN (putN xs k q y) (storedH us k q u)
  | _, _, .nil, _ => .cons ⟨rfl, rfl, ry⟩ .nil
  | _, _, .cons (a := x) (b := b) ⟨e1, e2, e3⟩ r, hn => by
    unfold putN
    by_cases z : x.1 = k
    · rw [if_pos z, stored_eq (by rw [← e1]; exact z) hn]
      exact .cons ⟨e1, e2, ry⟩ r
    · rw [if_neg z, stored_ne (by rw [← e1]; exact z)]
      exact .cons ⟨e1, e2, e3⟩ (PairN.put ry r (List.nodup_cons.mp hn).2)
theorem RepN.put {D : Wd} {H : Hp} {ks : List PV} {k : NestedKey} {q : Addr} {v : PV} {y : V} (hk : PV.key (.tup ks) = some k) (hd : k.depth ≤ 8) (hq : RepP D H (.tup ks) (.ref q)) (ry : RepP D H v y) :
    ∀ {kvs : List (PV × PV)} {xs : List (NestedKey × Addr × V)}, RepN D H kvs xs → RepN D H (dPut kvs (.tup ks) v) (putN xs k q y)
  | _, _, .nil => .cons hk hd hq ry .nil
  | _, _, .cons (ks := js) (k := k') hk' hd' hq' hp' r => by
    have ee := key_eqv (.tup js) (.tup ks) k' k hk' hk
    unfold dPut putN
    by_cases z : k' = k
    · rw [if_pos (by rw [ee]; exact decide_eq_true z), if_pos z]
      exact .cons hk' hd' hq' ry r
    · rw [if_neg (by rw [ee, decide_eq_false z]; exact Bool.false_ne_true), if_neg z]
      exact .cons hk' hd' hq' hp' (RepN.put hk hd hq ry r)
/-! ### keys that are ints or texts -/
def flatKey : PV → Option Key
  | .int i => some (.inl i)
  | .str x => some (.inr x)
  | _ => none
theorem ne_lr (i : Int) (x : Str) : ¬ ((Sum.inl i : Key) = Sum.inr x) := fun q => nomatch q
theorem ne_rl (i : Int) (x : Str) : ¬ ((Sum.inr x : Key) = Sum.inl i) := fun q => nomatch q
theorem findK {D : Wd} {H : Hp} {p : PV} {k : Key} (hk : flatKey p = some k) : ∀ {kvs : List (PV × PV)} {ks : List (Key × V)}, RepK D H kvs ks →
    match dFind kvs p with
    | some v => ∃ x, RepP D H v x ∧ valV ks k = some x
    | none => valV ks k = none
  | _, _, .nil => rfl
  | _, _, .consI (i := i) (v := y) hp r => by
    have ih := findK hk r
    cases p <;> simp [flatKey] at hk <;> subst hk
    · rename_i j
      by_cases z : i = j
      · subst z
        simp only [dFind, PV.eqv, beq_self_eq_true, if_pos]
        exact ⟨y, hp, valV_pos rfl⟩
      · simp only [dFind, PV.eqv, beq_eq_false_iff_ne.mpr z, Bool.false_eq_true, if_false]
        rw [valV_neg (fun q => z (Sum.inl.inj q))]
        exact ih
    · simp only [dFind, PV.eqv, Bool.false_eq_true, if_false]
      rw [valV_neg (ne_lr _ _)]
      exact ih
  | _, _, .consS (x := i) (v := y) hp r => by
    have ih := findK hk r
    cases p <;> simp [flatKey] at hk <;> subst hk
    · simp only [dFind, PV.eqv, Bool.false_eq_true, if_false]
      rw [valV_neg (ne_rl _ _)]
      exact ih
    · rename_i j
      by_cases z : i = j
      · subst z
        simp only [dFind, PV.eqv, beq_self_eq_true, if_pos]
        exact ⟨y, hp, valV_pos rfl⟩
      · simp only [dFind, PV.eqv, beq_eq_false_iff_ne.mpr z, Bool.false_eq_true, if_false]
        rw [valV_neg (fun q => z (Sum.inr.inj q))]
        exact ih
theorem putK_eq {k : Key} {y : V} {p : Key × V} {r : List (Key × V)} (h : p.1 = k) (hn : k ∉ r.map (·.1)) : putK (p :: r) k y = (p.1, y) :: r := by
  unfold putK
  rw [if_pos (by simp [h]), List.map_cons, if_pos h]
  congr 1
  conv => rhs; rw [← List.map_id r]
  refine List.map_congr_left fun x hx => ?_
  rw [if_neg (fun e => hn (by rw [← e]; exact List.mem_map_of_mem (f := fun q : Key × V => q.1) hx))]
  rfl
theorem putK_ne {k : Key} {y : V} {p : Key × V} {r : List (Key × V)} (h : ¬ p.1 = k) : putK (p :: r) k y = p :: putK r k y := by
  unfold putK
  rw [List.any_cons, decide_eq_false h, Bool.false_or]
  split
  · rw [List.map_cons, if_neg h]
  · rfl
theorem RepK.put {D : Wd} {H : Hp} {p v : PV} {k : Key} {y : V} (hk : flatKey p = some k) (ry : RepP D H v y) : ∀ {kvs : List (PV × PV)} {ks : List (Key × V)}, RepK D H kvs ks → (ks.map (·.1)).Nodup → RepK D H (dPut kvs p v) (putK ks k y)
  | _, _, .nil, _ => by
    cases p <;> simp [flatKey] at hk <;> subst hk
    · exact .consI ry .nil
    · exact .consS ry .nil
  | _, _, .consI (i := i) (v := w) hp r, hn => by
    have ih := RepK.put hk ry r (List.nodup_cons.mp hn).2
    have n1 := (List.nodup_cons.mp hn).1
    cases p <;> simp [flatKey] at hk <;> subst hk
    · rename_i j
      by_cases z : i = j
      · subst z
        rw [putK_eq rfl n1]
        simp only [dPut, PV.eqv, beq_self_eq_true, if_pos]
        exact .consI ry r
      · rw [putK_ne (fun q => z (Sum.inl.inj q))]
        simp only [dPut, PV.eqv, beq_eq_false_iff_ne.mpr z, Bool.false_eq_true, if_false]
        exact .consI hp ih
    · rw [putK_ne (ne_lr _ _)]
      simp only [dPut, PV.eqv, Bool.false_eq_true, if_false]
      exact .consI hp ih
  | _, _, .consS (x := i) (v := w) hp r, hn => by
    have ih := RepK.put hk ry r (List.nodup_cons.mp hn).2
    have n1 := (List.nodup_cons.mp hn).1
    cases p <;> simp [flatKey] at hk <;> subst hk
    · rw [putK_ne (ne_rl _ _)]
      simp only [dPut, PV.eqv, Bool.false_eq_true, if_false]
      exact .consS hp ih
    · rename_i j
      by_cases z : i = j
      · subst z
        rw [putK_eq rfl n1]
        simp only [dPut, PV.eqv, beq_self_eq_true, if_pos]
        exact .consS ry r
      · rw [putK_ne (fun q => z (Sum.inr.inj q))]
        simp only [dPut, PV.eqv, beq_eq_false_iff_ne.mpr z, Bool.false_eq_true, if_false]
        exact .consS hp ih
end Sw

end

section
/-! Dicts in the heap: asked, read, stored. -/
namespace Sw
open PySem L2
section
variable {X : Cx} {pins : List (Addr × Obj)} {σ : L2.St} {H : Hp} {s : Shared} {ca : Nat → Addr} {xf : Nat → Str} {a : Addr} {kvs : List (PV × PV)}
/-- a dict with keys that are ints or texts, in the heap -/
def FlatD (D : Wd) (H : Hp) (h : Heap) (a : Addr) (kvs : List (PV × PV)) : Prop :=
  ∃ ks vs, ks.length ≤ sizeLine ∧ (a == sysModules) = false ∧ RepK D H kvs ks ∧ KV ks vs ∧ h.DictOf (mixKind D.P D.w) a vs
def DeepD (D : Wd) (H : Hp) (h : Heap) (a : Addr) (kvs : List (PV × PV)) : Prop :=
  ∃ xs us, xs.length ≤ sizeLine ∧ (a == sysModules) = false ∧ RepN D H kvs xs ∧ PairN xs us ∧ h.DictOfH (nestedKind D.P D.w) a us
theorem repK_kind {D : Wd} {ks : List (Key × V)} (r : RepK D H kvs ks) (h : kindOf kvs ≠ some .flat) : kvs = [] ∧ ks = [] := by
  cases r with
  | nil => exact ⟨rfl, rfl⟩
  | consI _ _ => exact absurd rfl h
  | consS _ _ => exact absurd rfl h
theorem repN_kind {D : Wd} {xs : List (NestedKey × Addr × V)} (r : RepN D H kvs xs) (h : kindOf kvs ≠ some .deep) : kvs = [] ∧ xs = [] := by
  cases r with
  | nil => exact ⟨rfl, rfl⟩
  | cons hk hd _ _ _ =>
    refine absurd ?_ h
    simp only [kindOf, PV.keyKind, hk, hd, if_pos]
theorem flat_of_K (I : Inv X pins σ H s) {ks : List (Key × V)} (h : Rd H a (.dK ks)) (r : RepK (wdOf X ca xf) H kvs ks) : FlatD (wdOf X ca xf) H s.heap a kvs := by
  obtain ⟨z, y, vs, kv, dd⟩ := dk_rd I.hok h
  exact ⟨ks, vs, z, y, r, kv, dd⟩
theorem deep_of_N (I : Inv X pins σ H s) {xs : List (NestedKey × Addr × V)} (h : Rd H a (dN (wdOf X ca xf) a xs)) (r : RepN (wdOf X ca xf) H kvs xs) : DeepD (wdOf X ca xf) H s.heap a kvs := by
  obtain ⟨z, y, us, pr, dd⟩ := dN_of I h r
  exact ⟨xs, us, z, y, r, pr, dd⟩
theorem deep_of_flat {D : Wd} {h : Heap} (r : FlatD D H h a []) : DeepD D H h a [] := by
  obtain ⟨ks, vs, z, y, rk, kv, o, es, ep, ho, hx, hd, _, hp, _⟩ := r
  cases rk
  cases kv
  have e : es.toList = [] := by
    have := hp.length
    exact List.eq_nil_of_length_eq_zero (by simpa using this)
  exact ⟨[], [], Nat.zero_le _, y, .nil, .nil, o, es, ep, ho, hx, hd, e, (fun _ h => nomatch h), .nil⟩
theorem flat_of_deep {D : Wd} {h : Heap} (r : DeepD D H h a []) : FlatD D H h a [] := by
  obtain ⟨xs, us, z, y, rn, pr, o, es, ep, ho, hx, hd, he, _, _⟩ := r
  cases rn
  cases pr
  have e : es.toList = [] := by rw [he]; rfl
  have e2 : es = #[] := by rw [← Array.toList_eq_nil_iff]; exact e
  subst e2
  refine ⟨[], [], Nat.zero_le _, y, .nil, .nil, o, #[], ep, ho, hx, hd, ?_, .nil, .nil⟩
  intro x hx
  simp at hx
/-- in either form -/
theorem dict_heap (I : Inv X pins σ H s) (r : RepW (wdOf X ca xf) H (.dct kvs) (.ref a)) : FlatD (wdOf X ca xf) H s.heap a kvs ∨ DeepD (wdOf X ca xf) H s.heap a kvs := by
  cases r with
  | p r =>
    cases r with
    | dctK h r => exact .inl (flat_of_K I (.inr ⟨_, h⟩) r)
    | dctN h r => exact .inr (deep_of_N I (.inr ⟨_, h⟩) r)
  | dctK h r => exact .inl (flat_of_K I (.inl h) r)
  | dctN h r => exact .inr (deep_of_N I (.inl h) r)
theorem flat_heap (I : Inv X pins σ H s) (r : RepW (wdOf X ca xf) H (.dct kvs) (.ref a)) (h : kindOf kvs ≠ some .deep) : FlatD (wdOf X ca xf) H s.heap a kvs := by
  rcases dict_heap I r with q | q
  · exact q
  · obtain ⟨xs, us, z, y, rn, pr, dd⟩ := q
    obtain ⟨e1, e2⟩ := repN_kind rn h
    subst e1 e2
    exact flat_of_deep ⟨[], us, z, y, rn, pr, dd⟩
theorem deep_heap (I : Inv X pins σ H s) (r : RepW (wdOf X ca xf) H (.dct kvs) (.ref a)) (h : kindOf kvs ≠ some .flat) : DeepD (wdOf X ca xf) H s.heap a kvs := by
  rcases dict_heap I r with q | q
  · obtain ⟨ks, vs, z, y, rk, kv, dd⟩ := q
    obtain ⟨e1, e2⟩ := repK_kind rk h
    subst e1 e2
    exact deep_of_flat ⟨[], vs, z, y, rk, kv, dd⟩
  · exact q
theorem dctW {D : Wd} {x : V} (r : RepW D H (.dct kvs) x) : ∃ a, x = .ref a := by
  cases r with
  | p r => cases r <;> exact ⟨_, rfl⟩
  | dctK _ _ => exact ⟨_, rfl⟩
  | dctN _ _ => exact ⟨_, rfl⟩
theorem fits_cases {p : PV} (h : keyFits kvs p = true) : (∃ k, flatKey p = some k ∧ kindOf kvs ≠ some .deep) ∨ ∃ ks k, p = .tup ks ∧ PV.key (.tup ks) = some k ∧ k.depth ≤ 8 ∧ kindOf kvs ≠ some .flat := by
  unfold keyFits at h
  cases p with
  | int i =>
    refine .inl ⟨_, rfl, fun z => ?_⟩
    simp only [PV.keyKind, z] at h
    cases h
  | str i =>
    refine .inl ⟨_, rfl, fun z => ?_⟩
    simp only [PV.keyKind, z] at h
    cases h
  | tup ks =>
    simp only [PV.keyKind] at h
    cases hk : PV.key (.tup ks) with
    | none => simp [hk] at h
    | some k =>
      by_cases hd : k.depth ≤ 8
      · refine .inr ⟨ks, k, rfl, hk, hd, fun z => ?_⟩
        simp only [hk, hd, if_pos, z] at h
        cases h
      · simp [hk, hd] at h
  | _ => simp [PV.keyKind] at h
theorem flatV {D : Wd} {p : PV} {k : Key} {x : V} (h : flatKey p = some k) (r : RepP D H p x) : x = kV k := by
  cases r <;> simp [flatKey] at h <;> subst h <;> rfl
theorem tupV {D : Wd} {ks : List PV} {x : V} (r : RepP D H (.tup ks) x) : ∃ b, x = .ref b := by
  cases r
  exact ⟨_, rfl⟩
theorem room8 {A : Around} (h : A.units + 64 < cLine) : (nestedKind X.prog X.w).room A.in1 := by
  show A.in1.units + 8 < cLine
  have : A.in1.units = A.units + 1 := rfl
  omega
end

/-! ### rules -/
section
variable {X : Cx} {ca : Nat → Addr} {xf : Nat → Str}
def rInP (D : Wd) (neg : Bool) : R2 := fun x y H Q => ∃ p kvs, RepP D H p x ∧ RepW D H (.dct kvs) y ∧ keyFits kvs p = true ∧ Q (.bl (neg ^^ (dFind kvs p).isSome)) H
theorem op_inP (hu : X.A.units + 64 < cLine) : OpR X (compareOp .In) (rInP (wdOf X ca xf) false) := by
  intro pins s σ H x y v u Q I rx ry ⟨p, kvs, hp, hw, hf, q⟩
  obtain ⟨a, rfl⟩ := dctW hw
  cases ry
  rcases fits_cases hf with ⟨k, hk, hn⟩ | ⟨ks, k, rfl, hk, hd, hn⟩
  · obtain ⟨js, vs, z, y, rk, kv, dd⟩ := flat_heap I hw hn
    rw [flatV hk hp] at rx
    refine wpAny_in_of (kV_is rx) y dd.mapOf ⟨.bl _, H, I.tok _, ?_, q⟩
    have e := findK hk rk
    have e2 := (kv.val k).isSome_eq
    cases ef : dFind kvs p with
    | none => rw [ef] at e; rw [e] at e2; rw [← e2]; rfl
    | some w =>
      rw [ef] at e
      obtain ⟨x1, _, e⟩ := e
      rw [e] at e2
      rw [← e2]
      rfl
  · obtain ⟨xs, us, z, y, rn, pr, dd⟩ := deep_heap I hw hn
    obtain ⟨b, rfl⟩ := tupV hp
    cases rx
    refine wpAny_in_heap (room8 hu) ⟨RepP.nested I hp hk rfl, hd⟩ y dd ⟨.bl _, H, I.tok _, ?_, q⟩
    have e := findN rn pr hk
    cases ef : dFind kvs (.tup ks) with
    | none => rw [ef] at e; rw [show atKey us k = none from e]; rfl
    | some w =>
      rw [ef] at e
      obtain ⟨x1, q1, _, e, _⟩ := e
      rw [e]
      rfl
theorem op_notinP (hu : X.A.units + 64 < cLine) : OpR X (compareOp .NotIn) (rInP (wdOf X ca xf) true) := by
  intro pins s σ H x y v u Q I rx ry ⟨p, kvs, hp, hw, hf, q⟩
  obtain ⟨a, rfl⟩ := dctW hw
  cases ry
  rcases fits_cases hf with ⟨k, hk, hn⟩ | ⟨ks, k, rfl, hk, hd, hn⟩
  · obtain ⟨js, vs, z, y, rk, kv, dd⟩ := flat_heap I hw hn
    rw [flatV hk hp] at rx
    refine wpAny_notIn_of (kV_is rx) y dd.mapOf ⟨.bl _, H, I.tok _, ?_, q⟩
    have e := findK hk rk
    have e2 := (kv.val k).isSome_eq
    cases ef : dFind kvs p with
    | none => rw [ef] at e; rw [e] at e2; rw [← e2]; rfl
    | some w =>
      rw [ef] at e
      obtain ⟨x1, _, e⟩ := e
      rw [e] at e2
      rw [← e2]
      rfl
  · obtain ⟨xs, us, z, y, rn, pr, dd⟩ := deep_heap I hw hn
    obtain ⟨b, rfl⟩ := tupV hp
    cases rx
    refine notIn_keyed (room8 hu) ⟨RepP.nested I hp hk rfl, hd⟩ y ⟨us, dd, rfl⟩ ⟨.bl _, H, I.tok _, ?_, q⟩
    have e := findN rn pr hk
    rw [valueAt_pairsH]
    cases ef : dFind kvs (.tup ks) with
    | none => rw [ef] at e; rw [show atKey us k = none from e]; rfl
    | some w =>
      rw [ef] at e
      obtain ⟨x1, q1, _, e, _⟩ := e
      rw [e]
      rfl
/-- d[k], there -/
theorem getP {pins : List (Addr × Obj)} {σ : L2.St} {H : Hp} {s : Shared} {a : Addr} {kvs : List (PV × PV)} {p w : PV} {y : V} {u : Value} {Q : VK} (hu : X.A.units + 64 < cLine) (I : Inv X pins σ H s) (hw : RepW (wdOf X ca xf) H (.dct kvs) (.ref a))
    (hp : RepP (wdOf X ca xf) H p y) (ry : RelV y u) (hf : keyFits kvs p = true) (hg : dFind kvs p = some w) (q : ∀ x, RepP (wdOf X ca xf) H w x → Q x H) : wpAny (model X.prog X.w) X.A (getItem (.ref a) u) (EP X pins σ Q) X.xe s := by
  rcases fits_cases hf with ⟨k, hk, hn⟩ | ⟨ks, k, rfl, hk, hd, hn⟩
  · obtain ⟨js, vs, z, y, rk, kv, dd⟩ := flat_heap I hw hn
    rw [flatV hk hp] at ry
    have e := findK hk rk
    rw [hg] at e
    obtain ⟨x1, r1, e⟩ := e
    have e2 := kv.val k
    rw [e] at e2
    obtain ⟨w', hw', rw'⟩ := RelO.some_of e2
    exact wpAny_getItem_of (kV_is ry) dd.mapOf hw' ⟨x1, H, I.tok _, rw', q x1 r1⟩
  · obtain ⟨xs, us, z, y, rn, pr, dd⟩ := deep_heap I hw hn
    obtain ⟨b, rfl⟩ := tupV hp
    cases ry
    have e := findN rn pr hk
    rw [hg] at e
    obtain ⟨x1, q1, r1, e, r2⟩ := e
    exact wpAny_getItem_heap (room8 hu) ⟨RepP.nested I hp hk rfl, hd⟩ dd e ⟨x1, H, I.tok _, r2, q x1 r1⟩
theorem dict_type {pins : List (Addr × Obj)} {σ : L2.St} {H : Hp} {s : Shared} {a : Addr} {kvs : List (PV × PV)} (I : Inv X pins σ H s) (hw : RepW (wdOf X ca xf) H (.dct kvs) (.ref a)) : s.TypeIs (.ref a) "dict" := by
  rcases dict_heap I hw with ⟨_, _, _, _, _, _, dd⟩ | ⟨_, us, _, _, _, _, dd⟩
  · exact dd.mapOf.typeIs
  · exact dd.typeIs
def rIxD (D : Wd) : R2 := fun x y H Q => ∃ p kvs w, RepW D H (.dct kvs) x ∧ RepP D H p y ∧ keyFits kvs p = true ∧ dFind kvs p = some w ∧ ∀ z, RepP D H w z → Q z H
theorem ix_dict (hu : X.A.units + 64 < cLine) : IxR X (rIxD (wdOf X ca xf)) := by
  intro value slice pins s σ H x y v u Q I rx ry ⟨p, kvs, w, hw, hp, hf, hg, q⟩ hs
  obtain ⟨a, rfl⟩ := dctW hw
  cases rx
  exact PyProof.Rows.tail_any (dict_type I hw) slot_dict_getitem.lookup (getP hu I hw hp ry hf hg q) hs
end
end Sw

end

section
/-! Dicts stored into, and compared. -/
namespace Sw
open PySem L2
def MutD (D : Wd) (H : Hp) (a : Addr) (kvs : List (PV × PV)) : Prop := (∃ ks, H a = some (.dK ks) ∧ RepK D H kvs ks) ∨ ∃ xs, H a = some (dN D a xs) ∧ RepN D H kvs xs
theorem dN_stable {D : Wd} {d : Addr} {xs : List (NestedKey × Addr × V)} {h1 h2 : Heap} (x : dNφ D d xs h1) (k : ∀ o, h1.get? d = some o → h2.get? d = some o) : dNφ D d xs h2 := by
  obtain ⟨z, y, us, pr, o, es, ep, ho, hx⟩ := x
  exact ⟨z, y, us, pr, o, es, ep, k o ho, hx⟩
theorem dN_ok {P : Program} {w : World} {D : Wd} {H : Hp} {h : Heap} {d : Addr} {xs : List (NestedKey × Addr × V)} (x : dNφ D d xs h) : ObjOk P w H h d (dN D d xs) := by
  obtain ⟨_, _, _, _, o, _, _, ho, _⟩ := id x
  exact ⟨x, ⟨o, ho⟩, fun h1 h2 => dN_stable⟩
theorem MutD.w {D : Wd} {H : Hp} {a : Addr} {kvs : List (PV × PV)} (h : MutD D H a kvs) : RepW D H (.dct kvs) (.ref a) := by
  rcases h with ⟨ks, h, r⟩ | ⟨xs, h, r⟩
  · exact .dctK h r
  · exact .dctN h r
theorem MutD.mut {D : Wd} {H : Hp} {a : Addr} {kvs : List (PV × PV)} (h : MutD D H a kvs) : ∃ u, H a = some u ∧ Still u = false ∧ Mut (some u) := by
  rcases h with ⟨ks, h, r⟩ | ⟨xs, h, r⟩
  · exact ⟨_, h, rfl, True.intro⟩
  · exact ⟨_, h, rfl, True.intro⟩
theorem PExt.upd_mut {H : Hp} {a : Addr} {u v : HO} (h : H a = some u) (hs : Still u = false) : PExt H (upd H a v) := by
  have ne : ∀ b x, H b = some x → Still x = true → b ≠ a := fun b x e t z => by
    rw [z, h] at e
    cases e
    rw [hs] at t
    cases t
  exact ⟨fun b xs e => by rw [upd_ne (ne b _ e rfl)]; exact e, fun b o x e => by rw [upd_ne (ne b _ e rfl)]; exact e⟩
section
variable {X : Cx} {ca : Nat → Addr} {xf : Nat → Str}
/-- the store behind d[k] = v -/
def rPutP (D : Wd) : TSet := fun o i v H Q => ∃ a kvs p w, o = .ref a ∧ MutD D H a kvs ∧ RepP D H p i ∧ RepP D H w v ∧ keyFits kvs p = true ∧ kvs.length < sizeLine ∧
  ∀ u, Still u = false → MutD D (upd H a u) a (dPut kvs p w) → Q (upd H a u)
theorem repK_len {D : Wd} {H : Hp} : ∀ {kvs : List (PV × PV)} {ks : List (Key × V)}, RepK D H kvs ks → kvs.length = ks.length
  | _, _, .nil => rfl
  | _, _, .consI _ r => by simp [repK_len r]
  | _, _, .consS _ r => by simp [repK_len r]
theorem repN_len {D : Wd} {H : Hp} : ∀ {kvs : List (PV × PV)} {ks : List (NestedKey × Addr × V)}, RepN D H kvs ks → kvs.length = ks.length
  | _, _, .nil => rfl
  | _, _, .cons _ _ _ _ r => by simp [repN_len r]
theorem set_dictP (hu : X.A.units + 64 < cLine) : PSet X (rPutP (wdOf X ca xf)) := by
  intro pins s σ H o i v ov iv u Q I ro ri rv ht
  obtain ⟨a, kvs, p, w, eo, hm, hp, hw, hf, hl, k⟩ := ht
  subst eo
  cases ro
  obtain ⟨uu, hua, hus, hum⟩ := hm.mut
  have mu : Mut (H a) := by rw [hua]; exact hum
  have px : ∀ x, PExt H (upd H a x) := fun x => PExt.upd_mut hua hus
  rcases fits_cases hf with ⟨key, hk, hn⟩ | ⟨ks, key, rfl, hk, hd, hn⟩
  · obtain ⟨js, vs, z, y, rk, kv, dd⟩ := flat_heap I hm.w hn
    have hz : vs.length ≤ sizeLine := by rw [← kv.length]; exact z
    have hl2 : (putK js key v).length ≤ sizeLine := by
      have h1 := length_putK js key v
      have h2 := repK_len rk
      omega
    rw [flatV hk hp] at ri
    refine wpAny_setItem_pairs (hsz := hz) (kV_is ri) dd fun h' dd' hs => ⟨_, ?_, k (.dK (putK js key v)) rfl (.inl ⟨_, upd_same, ?_⟩)⟩
    · obtain ⟨q, _, _, hq, _⟩ := id dd'
      exact d_write I mu hs ⟨q, hq⟩ (dk_new hl2 y (kv.put key rv) dd')
    · refine RepK.put hk (hw.ext (px _)) (rk.ext (px _)) ?_
      obtain ⟨_, _, _, _, _, _, _, _, nd⟩ := dd
      rw [kv.keys]
      exact nd
  · obtain ⟨xs, us, z, y, rn, pr, dd⟩ := deep_heap I hm.w hn
    obtain ⟨b, rfl⟩ := tupV hp
    cases ri
    have hz : us.length ≤ sizeLine := by rw [← Paired.length pr]; exact z
    have hl2 : (putN xs key b v).length ≤ sizeLine := by
      have h1 := putN_len key b v xs
      have h2 := repN_len rn
      omega
    have nd : (us.map (·.1)).Nodup := by
      obtain ⟨_, _, _, _, _, _, _, _, nd⟩ := dd
      exact nd
    refine wpAny_setItem_heap (hsz := hz) (room8 hu) ⟨RepP.nested I hp hk rfl, hd⟩ dd fun h' dd' hs => ⟨_, ?_, k (dN (wdOf X ca xf) a (putN xs key b v)) rfl (.inr ⟨_, upd_same, ?_⟩)⟩
    · obtain ⟨q, es, ep, hq, h2, h3, h4, _, h5⟩ := dd'
      exact d_write I mu hs ⟨q, hq⟩ (dN_ok ⟨hl2, y, _, PairN.put rv pr nd, q, es, ep, hq, h2, h3, h4, h5⟩)
    · exact RepN.put hk hd (hp.ext (px _)) (hw.ext (px _)) (rn.ext (px _))
end
end Sw

end

section
/-! Two dicts compared, whatever their keys are. -/
namespace Sw
open PySem L2
section
variable {prog : Program} {w : World} {A : Around} {E : Value → Shared → Prop} {s : Shared}
/-- one entry of the first dict against the second one -/
def pairStep (b : Addr) (e : DictEntry) : Sem Bool := do
  let some j ← dictFind b e.key e.hash | pure false
  let some f := (← dictEntries b)[j]? | unsupported "internal:dict-equal"
  holding [f.val] (eqBool e.val f.val)
theorem same_pairs {nm : String} {a b : Addr} {oa ob : Obj} {es es' : Array DictEntry} {ep ep' : Nat} {Q : Bool → Shared → Prop} (f : Nat → Bool) (ha : (a == sysModules) = false) (hb : (b == sysModules) = false)
    (hoa : s.heap.get? a = some oa) (hda : oa.data = .dict es ep) (hob : s.heap.get? b = some ob) (hdb : ob.data = .dict es' ep')
    (turn : es.size = es'.size → ∀ (i : Nat) (hi : i < es.size) (R : Bool → Shared → Prop), R (f i) s → wpAny (model prog w) A (pairStep b es[i]) R E s)
    (h : Q (es.size == es'.size && (List.range' 0 es.size).all f) s) : wpAny (model prog w) A (Builtin.Dict.samePairs nm a b) Q E s := by
  unfold Builtin.Dict.samePairs Builtin.Dict.showsAll
  rw [if_neg (by rw [ha]; decide), if_neg (by rw [hb]; decide)]
  refine wpAny_bind (wpAny_pure (wpAny_bind (wpAny_pure (wpAny_bind (wpAny_dictEntries hoa hda ?_)))))
  refine (show wpAny _ _ (dictEntries b >>= _) _ _ _ from wpAny_bind (wpAny_dictEntries hob hdb ?_))
  by_cases sz : es.size = es'.size
  · have t := turn sz
    rw [sz, beq_self_eq_true, Bool.true_and, ← sz] at h
    rw [if_neg (by rw [sz]; simp)]
    refine wpAny_bind (wpAny_dictEpoch hoa hda (wpAny_bind ?_))
    rw [Std.Legacy.Range.forIn_eq_forIn_range', show Std.Legacy.Range.size [0:es.size] = es.size by simp [Std.Legacy.Range.size]]
    refine wpAny_forIn_list _ (fun rest q s' => s' = s ∧ q = (none, ()) ∧ ∃ i, rest = List.range' i (es.size - i) ∧ i ≤ es.size ∧ (List.range' 0 es.size).all f = rest.all f) _ ?_ ?_ _ _ ⟨rfl, rfl, 0, by simp, Nat.zero_le _, rfl⟩
    · rintro x rest q s' ⟨rfl, rfl, i, hr, hi, hall⟩
      have lt : i < es.size := Nat.lt_of_not_le fun z => by
        rw [Nat.sub_eq_zero_of_le z] at hr
        cases hr
      have hr2 : x :: rest = i :: List.range' (i + 1) (es.size - (i + 1)) := by
        rw [hr, show es.size - i = (es.size - (i + 1)) + 1 by omega, List.range'_succ]
      injection hr2 with e1 e2
      subst e1
      refine wpAny_bind (wpAny_dictEntries hoa hda ?_)
      rw [Array.getElem?_eq_getElem lt]
      refine wpAny_bind (show wpAny _ _ (holding [es[x].key, es[x].val] (pairStep b es[x])) _ _ _ from wpAny_holding (t x lt _ ?_))
      rw [List.all_cons] at hall
      cases hf : f x with
      | false =>
        rw [hf, Bool.false_and] at hall
        rw [hall] at h
        show wpAny _ _ (if (!false) = true then _ else _) _ _ _
        rw [if_pos (by rfl)]
        exact wpAny_pure (wpAny_pure h)
      | true =>
        rw [hf, Bool.true_and] at hall
        show wpAny _ _ (if (!true) = true then _ else _) _ _ _
        rw [if_neg (by decide)]
        refine wpAny_bind (wpAny_dictEpoch hoa hda ?_)
        rw [if_neg (by simp)]
        exact wpAny_pure ⟨rfl, rfl, x + 1, e2, lt, hall⟩
    · rintro q s' ⟨rfl, rfl, i, hr, hi, hall⟩
      rw [hall] at h
      exact wpAny_pure h
  · rw [if_pos (by simpa using sz)]
    rw [beq_eq_false_iff_ne.mpr sz, Bool.false_and] at h
    exact wpAny_bind (wpAny_rule (wpAny_pure h))
/-- == and != of two dicts, from what samePairs answers -/
theorem dicts_eq {a b : Addr} {r : Bool} {Q : Value → Shared → Prop} (ta : s.TypeIs (.ref a) "dict") (tb : s.TypeIs (.ref b) "dict") (hu : A.units < cLine)
    (sp : ∀ (nm : String) (E' : Value → Shared → Prop) (R : Bool → Shared → Prop), R r s → wpAny (model prog w) A.in1 (Builtin.Dict.samePairs nm a b) R E' s) (h : Q (.bool r) s) : wpAny (model prog w) A (compareOp .Eq (.ref a) (.ref b)) Q E s := by
  refine wpAny_richCompare_same_room (op := .Eq) ta tb PySem.F.slot_dict_eq (wpAny_call_entry PySem.F.slot_dict_eq ta PySem.F.entry_dict_eq ?_ (PySem.F.args_dict_eq_2 _ _)) hu
  refine (show wpAny _ _ (Builtin.Dict.dictSlotArgs "__eq__" ⟨[.ref a, .ref b], []⟩ >>= _) _ _ s from wpAny_bind ?_)
  unfold Builtin.Dict.dictSlotArgs
  refine wpAny_bind (wpAny_notOrdered_dict ta (show wpAny _ _ (pure (Value.ref a, Value.ref b)) _ _ s from wpAny_pure ?_))
  refine wpAny_bind (wpAny_isInstance (T := "dict") tb PySem.F.sub_dict_dict ?_)
  simp only [Bool.not_true, Bool.false_eq_true, if_false]
  exact wpAny_bind (wpAny_pure (wpAny_bind (wpAny_pure (wpAny_bind (sp _ _ _ (wpAny_pure ⟨_, rfl, (fun x => nomatch x), by simpa using h⟩))))))
theorem dicts_ne {a b : Addr} {r : Bool} {Q : Value → Shared → Prop} (ta : s.TypeIs (.ref a) "dict") (tb : s.TypeIs (.ref b) "dict") (hu : A.units < cLine)
    (sp : ∀ (nm : String) (E' : Value → Shared → Prop) (R : Bool → Shared → Prop), R r s → wpAny (model prog w) A.in1 (Builtin.Dict.samePairs nm a b) R E' s) (h : Q (.bool (!r)) s) : wpAny (model prog w) A (compareOp .NotEq (.ref a) (.ref b)) Q E s := by
  refine wpAny_richCompare_same_room (op := .NotEq) ta tb PySem.F.slot_dict_ne (wpAny_call_entry PySem.F.slot_dict_ne ta PySem.F.entry_dict_ne ?_ (PySem.F.args_dict_ne_2 _ _)) hu
  refine (show wpAny _ _ (Builtin.Dict.dictSlotArgs "__ne__" ⟨[.ref a, .ref b], []⟩ >>= _) _ _ s from wpAny_bind ?_)
  unfold Builtin.Dict.dictSlotArgs
  refine wpAny_bind (wpAny_notOrdered_dict ta (show wpAny _ _ (pure (Value.ref a, Value.ref b)) _ _ s from wpAny_pure ?_))
  refine wpAny_bind (wpAny_isInstance (T := "dict") tb PySem.F.sub_dict_dict ?_)
  simp only [Bool.not_true, Bool.false_eq_true, if_false]
  exact wpAny_bind (wpAny_pure (wpAny_bind (wpAny_pure (wpAny_bind (sp _ _ _ (wpAny_pure ⟨_, rfl, (fun x => nomatch x), by simpa using h⟩))))))
end
end Sw

end

section
/-! Two dicts with tuple keys compared. -/
namespace Sw
open PySem L2
def atF {α : Type} (g : α → Bool) (l : List α) (i : Nat) : Bool := match l[i]? with
  | some x => g x
  | none => true
theorem range_all {α : Type} (g : α → Bool) : ∀ (l : List α) (pre : List α), (List.range' pre.length l.length).all (atF g (pre ++ l)) = l.all g
  | [], pre => rfl
  | x :: r, pre => by
    have ih := range_all g r (pre ++ [x])
    rw [List.length_cons, List.range'_succ, List.all_cons, List.all_cons]
    congr 1
    · simp [atF]
    · rw [List.append_assoc, List.singleton_append, List.length_append, List.length_singleton] at ih
      exact ih
section
variable {X : Cx} {pins : List (Addr × Obj)} {σ : L2.St} {H : Hp} {s : Shared} {ca : Nat → Addr} {xf : Nat → Str}
theorem repN_at {D : Wd} : ∀ {kvs : List (PV × PV)} {xs : List (NestedKey × Addr × V)} {us : List (NestedKey × Addr × Value)} {i : Nat} {k v : PV}, RepN D H kvs xs → PairN xs us → kvs[i]? = some (k, v) →
    ∃ ks nk q y u, k = .tup ks ∧ PV.key (.tup ks) = some nk ∧ nk.depth ≤ 8 ∧ us[i]? = some (nk, q, u) ∧ RepP D H (.tup ks) (.ref q) ∧ RepP D H v y ∧ RelV y u
  | _, _, _, _, _, _, .nil, .nil, e => by simp at e
  | _, _, _, 0, _, _, .cons (ks := ks) (k := nk) (q := q) (v := y) hk hd hq hp r, .cons (b := b) ⟨e1, e2, e3⟩ rr, e => by
    simp at e
    obtain ⟨rfl, rfl⟩ := e
    obtain ⟨b1, b2, b3⟩ := b
    cases e1
    cases e2
    exact ⟨ks, nk, q, y, b3, rfl, hk, hd, rfl, hq, hp, e3⟩
  | _, _, _, i + 1, k, v, .cons hk hd hq hp r, .cons _ rr, e => by
    obtain ⟨ks, nk, q, y, u, h1, h2, h3, h4, h5⟩ := repN_at (i := i) r rr (by simpa using e)
    exact ⟨ks, nk, q, y, u, h1, h2, h3, by simpa using h4, h5⟩
theorem atKey_get {us : List (NestedKey × Addr × Value)} {k : NestedKey} {q : Addr × Value} (hn : (us.map (·.1)).Nodup) {j : Nat} (h : us[j]? = some (k, q)) : atKey us k = some q := by
  induction us generalizing j with
  | nil => simp at h
  | cons x t ih =>
    cases j with
    | zero =>
      simp at h
      subst h
      simp [atKey]
    | succ i =>
      have h2 : t[i]? = some (k, q) := by simpa using h
      have ne : ¬ x.1 = k := fun z => by
        refine (List.nodup_cons.mp hn).1 ?_
        show x.1 ∈ _
        rw [z]
        exact List.mem_map.mpr ⟨(k, q), List.mem_of_getElem? h2, rfl⟩
      have := ih (List.nodup_cons.mp hn).2 h2
      simpa [atKey, List.find?_cons, ne] using this
theorem eqOk_self {v : PV} (h : eqOk v v = true) : v.plain = true ∧ v.depth ≤ 60 := by
  unfold eqOk at h
  simp only [Bool.and_eq_true, decide_eq_true_eq] at h
  exact ⟨h.1.1.1, h.1.2⟩
theorem dFind_mem : ∀ {kvs : List (PV × PV)} {k w : PV}, dFind kvs k = some w → ∃ p ∈ kvs, p.2 = w
  | [], _, _, h => by cases h
  | (j, v) :: r, k, w, h => by
    unfold dFind at h
    split at h
    · exact ⟨_, List.mem_cons_self, Option.some.inj h⟩
    · obtain ⟨p, h1, h2⟩ := dFind_mem h
      exact ⟨p, List.mem_cons_of_mem _ h1, h2⟩
/-- what samePairs answers of two such dicts -/
theorem pairs_deep {a b : Addr} {ka kb : List (PV × PV)} (I : Inv X pins σ H s) (ra : DeepD (wdOf X ca xf) H s.heap a ka) (rb : DeepD (wdOf X ca xf) H s.heap b kb) (oa : ∀ p ∈ ka, eqOk p.2 p.2 = true) (ob : ∀ p ∈ kb, eqOk p.2 p.2 = true)
    (hu : X.A.units + 80 < cLine) (nm : String) (E : Value → Shared → Prop) (R : Bool → Shared → Prop) (h : R (dictEq ka kb) s) : wpAny (model X.prog X.w) X.A.in1 (Builtin.Dict.samePairs nm a b) R E s := by
  obtain ⟨xs, us, z, y, rn, pr, o, es, ep, ho, hx, hd, he, hi, hn⟩ := ra
  obtain ⟨xs', us', z', y', rn', pr', o', es', ep', ho', hx', hd', he', hi', hn'⟩ := rb
  have l1 : es.size = ka.length := by
    have := congrArg List.length he
    rw [List.length_map, ← Paired.length pr, ← repN_len rn] at this
    simpa using this
  have l2 : es'.size = kb.length := by
    have := congrArg List.length he'
    rw [List.length_map, ← Paired.length pr', ← repN_len rn'] at this
    simpa using this
  have u1 : X.A.in1.units = X.A.units + 1 := rfl
  refine same_pairs (atF (pairEq kb) ka) y y' ho hd ho' hd' (fun _ i hlt R hR => ?_) ?_
  · have hlt2 : i < ka.length := by rw [← l1]; exact hlt
    rcases hkv : ka[i] with ⟨k, v⟩
    have hk2 : ka[i]? = some (k, v) := by rw [List.getElem?_eq_getElem hlt2, hkv]
    obtain ⟨ks, nk, q, yv, u, rfl, h2, h3, h4, h5, h6, h7⟩ := repN_at rn pr hk2
    have ee : es[i] = entryOfKey (nestedKind X.prog X.w) (nk, q, u) := by
      have e1 : es[i]? = some (entryOfKey (nestedKind X.prog X.w) (nk, q, u)) := by
        rw [← Array.getElem?_toList, he, List.getElem?_map, h4]
        rfl
      rw [Array.getElem?_eq_getElem hlt] at e1
      exact Option.some.inj e1
    rw [ee]
    simp only [atF, hk2, pairEq] at hR
    have fd := findN rn' pr' h2
    unfold pairStep
    refine wpAny_bind (wpAny_dictFind_heap (knd := nestedKind X.prog X.w) (k := nk) (show X.A.in1.units + 8 < cLine by omega) ⟨RepP.nested I h5 h2 rfl, h3⟩ ho' hd' he' hi' hn' (fun none_ => ?_) (fun j p hj => ?_))
    · have en : atKey us' nk = none := by
        cases ea : atKey us' nk with
        | none => rfl
        | some p =>
          unfold atKey at ea
          obtain ⟨x, hx1, hx2⟩ := Option.map_eq_some_iff.mp ea
          have hm := List.mem_of_find?_eq_some hx1
          obtain ⟨j, hj⟩ := List.getElem?_of_mem hm
          have hk : x.1 = nk := by simpa using List.find?_some hx1
          exact absurd (by rw [hj, ← hk, ← hx2]) (none_ j p)
      cases ef : dFind kb (.tup ks) with
      | none =>
        simp only [ef] at hR
        exact wpAny_pure hR
      | some w =>
        rw [ef] at fd
        obtain ⟨_, _, _, e, _⟩ := fd
        rw [en] at e
        cases e
    · have ea := atKey_get hn' hj
      cases ef : dFind kb (.tup ks) with
      | none =>
        rw [ef] at fd
        rw [show atKey us' nk = none from fd] at ea
        cases ea
      | some w =>
        rw [ef] at fd
        obtain ⟨yw, q', r1, e, r2⟩ := fd
        rw [e] at ea
        cases ea
        simp only [ef] at hR
        refine (show wpAny _ _ (dictEntries b >>= _) _ _ _ from wpAny_bind (wpAny_dictEntries ho' hd' ?_))
        have e1 : es'[j]? = some (entryOfKey (nestedKind X.prog X.w) (nk, p)) := by
          rw [← Array.getElem?_toList, he', List.getElem?_map, hj]
          rfl
        rw [e1]
        refine (show wpAny _ _ (holding [p.2] (eqBool u p.2)) _ _ _ from wpAny_holding ?_)
        obtain ⟨p1, hp1, e3⟩ := dFind_mem ef
        obtain ⟨pv, dv⟩ := eqOk_self (oa _ (List.mem_of_getElem? hk2))
        obtain ⟨pw, dw⟩ := eqOk_self (by have := ob p1 hp1; rw [e3] at this; exact this)
        obtain ⟨as, rd1⟩ := Dp.reads I _ _ _ (RepP.dp h6 pv) h7
        obtain ⟨bs, rd2⟩ := Dp.reads I _ _ _ (RepP.dp r1 pw) r2
        refine SeqAt.eqAt_reads v.toD w.toD X.A.in1 s u p.2 as bs rd1 rd2 (toD_lay v pv) (toD_lay w pw) ?_ _ _ _ _ ?_
        · have h1 : min v.toD.depth w.toD.depth ≤ 60 := Nat.le_trans (Nat.min_le_left _ _) (by rw [toD_depth]; exact dv)
          omega
        · rw [← toD_eqv v w pv pw]
          exact hR
  · have := range_all (pairEq kb) ka []
    rw [List.nil_append, List.length_nil] at this
    rw [l1, l2, this]
    exact h
end
end Sw

end

section
/-! Comparisons by their sign; and, or, not; a if t else b. -/
namespace Sw
open PySem L2
section
variable {D : Wd} {T : Tab} {Γ : Calls} {W : WX} {X : Cx} {e : Expr} {nm : Str → Option Gk} {an : Nat → Str} {fa : Nat → Addr} {d : Nat} {G : Gx}
theorem CxOk.units (cx : CxOk D T Γ nm an fa d G W X) : X.A.units + 200 < cLine := by
  have := cx.room.un
  omega
def rDictEq (D : Wd) (neg : Bool) : R2 := fun x y H Q => ∃ ka kb, RepW D H (.dct ka) x ∧ RepW D H (.dct kb) y ∧ dictOk ka kb = true ∧ Q (.bl (neg ^^ dictEq ka kb)) H
theorem dictOk_all {ka kb : List (PV × PV)} (h : dictOk ka kb = true) : kindOf ka ≠ some .flat ∧ kindOf kb ≠ some .flat ∧ (∀ p ∈ ka, eqOk p.2 p.2 = true) ∧ ∀ p ∈ kb, eqOk p.2 p.2 = true := by
  unfold dictOk at h
  simp only [Bool.and_eq_true, beq_iff_eq, List.all_eq_true] at h
  obtain ⟨⟨⟨h1, h2⟩, h3⟩, h4⟩ := h
  exact ⟨by rw [h1]; decide, by rw [h2]; decide, h3, h4⟩
theorem op_eqDict {ca : Nat → Addr} {xf : Nat → Str} (hu : X.A.units + 200 < cLine) : OpR X (compareOp .Eq) (rDictEq (wdOf X ca xf) false) := by
  intro pins s σ H x y v u Q I rx ry hr
  obtain ⟨ka, kb, ha, hb, ok, q⟩ := hr
  obtain ⟨a, rfl⟩ := dctW ha
  obtain ⟨b, rfl⟩ := dctW hb
  cases rx
  cases ry
  obtain ⟨n1, n2, o1, o2⟩ := dictOk_all ok
  exact dicts_eq (r := dictEq ka kb) (dict_type I ha) (dict_type I hb) (by omega) (pairs_deep I (deep_heap I ha n1) (deep_heap I hb n2) o1 o2 (by omega)) ⟨.bl _, H, I, rfl, by simpa using q⟩
theorem op_neDict {ca : Nat → Addr} {xf : Nat → Str} (hu : X.A.units + 200 < cLine) : OpR X (compareOp .NotEq) (rDictEq (wdOf X ca xf) true) := by
  intro pins s σ H x y v u Q I rx ry hr
  obtain ⟨ka, kb, ha, hb, ok, q⟩ := hr
  obtain ⟨a, rfl⟩ := dctW ha
  obtain ⟨b, rfl⟩ := dctW hb
  cases rx
  cases ry
  obtain ⟨n1, n2, o1, o2⟩ := dictOk_all ok
  exact dicts_ne (r := dictEq ka kb) (dict_type I ha) (dict_type I hb) (by omega) (pairs_deep I (deep_heap I ha n1) (deep_heap I hb n2) o1 o2 (by omega)) ⟨.bl _, H, I, rfl, by simpa using q⟩
/-- what == asks, and answers -/
theorem eq_cases {x y : PV} {b : Bool} (h : eqPV x y = some b) : (∃ i j, x = .str i ∧ y = .str j ∧ b = decide (i = j)) ∨ (∃ ka kb, x = .dct ka ∧ y = .dct kb ∧ dictOk ka kb = true ∧ b = dictEq ka kb) ∨
    (x.plain = true ∧ y.plain = true ∧ x.depth ≤ 60 ∧ y.depth ≤ 60 ∧ b = PV.eqv x y) := by
  unfold eqPV at h
  split at h
  · exact .inl ⟨_, _, rfl, rfl, (Option.some.inj h).symm⟩
  · split at h
    · rename_i hk
      exact .inr (.inl ⟨_, _, rfl, rfl, hk, (Option.some.inj h).symm⟩)
    · cases h
  · split at h
    · rename_i hk
      unfold eqOk at hk
      simp only [Bool.and_eq_true, decide_eq_true_eq] at hk
      exact .inr (.inr ⟨hk.1.1.1, hk.1.1.2, hk.1.2, hk.2, (Option.some.inj h).symm⟩)
    · cases h
theorem strW {H : Hp} {i : Str} {x : V} (r : RepW D H (.str i) x) : x = .str i := by
  cases r with
  | p r => cases r; rfl
theorem fit_eq (hK : X.K = D.K) : CmpFits D .eq (fun x y H Q => (rEq x y H Q ∨ rEqD X.K x y H Q) ∨ rDictEq D false x y H Q) := by
  intro x y b H vx vy Q rx ry e k
  rcases eq_cases e with ⟨i, j, rfl, rfl, rfl⟩ | ⟨ka, kb, rfl, rfl, ok, rfl⟩ | ⟨p1, p2, d1, d2, rfl⟩
  · rw [strW rx, strW ry]
    refine .inl (.inl ⟨rfl, ?_⟩)
    rw [dec_str]
    rwa [Bool.beq_eq_decide_eq]
  · exact .inr ⟨ka, kb, rx, ry, ok, by simpa using k⟩
  · refine .inl (.inr ⟨x.toD, y.toD, by rw [hK]; exact rx.dp p1, by rw [hK]; exact ry.dp p2, toD_shaped p1 d1, toD_shaped p2 d2, ?_⟩)
    rw [← toD_eqv x y p1 p2]
    exact k
theorem fit_ne (hK : X.K = D.K) : CmpFits D .ne (fun x y H Q => (rNe x y H Q ∨ rNeD X.K x y H Q) ∨ rDictEq D true x y H Q) := by
  intro x y b H vx vy Q rx ry e k
  simp only [cmp2, Option.map_eq_some_iff] at e
  obtain ⟨c, e, rfl⟩ := e
  rcases eq_cases e with ⟨i, j, rfl, rfl, rfl⟩ | ⟨ka, kb, rfl, rfl, ok, rfl⟩ | ⟨p1, p2, d1, d2, rfl⟩
  · rw [strW rx, strW ry]
    refine .inl (.inl ⟨rfl, ?_⟩)
    rw [dec_str]
    rwa [Bool.beq_eq_decide_eq]
  · exact .inr ⟨ka, kb, rx, ry, ok, by simpa using k⟩
  · refine .inl (.inr ⟨x.toD, y.toD, by rw [hK]; exact rx.dp p1, by rw [hK]; exact ry.dp p2, toD_shaped p1 d1, toD_shaped p2 d2, ?_⟩)
    rw [← toD_eqv x y p1 p2]
    exact k
/-- a key is pure -/
theorem keyW {H : Hp} {p : PV} {kvs : List (PV × PV)} {x : V} (r : RepW D H p x) (h : keyFits kvs p = true) : RepP D H p x := by
  cases r with
  | p r => exact r
  | lst _ _ => simp [keyFits, PV.keyKind] at h
  | dctK _ _ => simp [keyFits, PV.keyKind] at h
  | dctN _ _ => simp [keyFits, PV.keyKind] at h
theorem fit_in : CmpFits D .in_ (rInP D false) := by
  intro x y b H vx vy Q rx ry e k
  cases y <;> simp [cmp2] at e
  rename_i kvs
  obtain ⟨h1, rfl⟩ := e
  exact ⟨x, kvs, keyW rx h1, ry, h1, by simpa using k⟩
theorem fit_notin : CmpFits D .notin (rInP D true) := by
  intro x y b H vx vy Q rx ry e k
  cases y <;> simp [cmp2] at e
  rename_i kvs
  obtain ⟨h1, e⟩ := e
  refine ⟨x, kvs, keyW rx h1, ry, h1, ?_⟩
  have e2 : (true ^^ (dFind kvs x).isSome) = b := by
    rw [← e]
    cases dFind kvs x <;> rfl
  rw [e2]
  exact k
/-- the rule of a sign -/
theorem cmp_rule (cx : CxOk D T Γ nm an fa d G W X) (o : Cmp) : ∃ r, OpR X (compareOp (cmpO o)) r ∧ CmpFits D o r := by
  have hK : X.K = D.K := by rw [cx.wd]; rfl
  have hu := cx.units
  have hD := cx.wd
  cases o with
  | eq => exact ⟨_, (op_eq.or (op_eqD (by omega))).or (by rw [hD]; exact op_eqDict hu), fit_eq hK⟩
  | ne => exact ⟨_, (op_ne.or (op_neD (by omega))).or (by rw [hD]; exact op_neDict hu), fit_ne hK⟩
  | lt => exact ⟨_, op_lt, fit_lt⟩
  | le => exact ⟨_, op_le, fit_le⟩
  | gt => exact ⟨_, op_gt, fit_gt⟩
  | ge => exact ⟨_, op_ge, fit_ge⟩
  | in_ => exact ⟨_, (by rw [hD]; exact op_inP (by omega)), fit_in⟩
  | notin => exact ⟨_, (by rw [hD]; exact op_notinP (by omega)), fit_notin⟩
  | is_ => exact ⟨_, op_isN, fit_is⟩
  | isnot => exact ⟨_, op_notN, fit_isnot⟩
theorem cmp_read {ca cb : C} {o : Cmp} {r : R2} (hr : CmpFits D o r) {σ : L2.St} {H : Hp} {Q : VK} (p : tE D T Γ W (.cmp o ca cb) σ H Q) : tOp r (tE D T Γ W ca) (tE D T Γ W cb) σ H Q := by
  refine tRes.thn (ev := evE T Γ ca) p fun u h1 m1 H1 ρ S1 R1 q vx rx => ?_
  refine ⟨m1, h1, ρ, S1, R1, q.bind.mono fun v h2 m2 H2 e2 S2 q2 vy ry => ?_⟩
  obtain ⟨x, ex, q2⟩ := vw_ok q2
  obtain ⟨y, ey, q2⟩ := vw_ok q2
  obtain ⟨z0, ez0, q2⟩ := Post.of q2
  obtain ⟨z, ez, rfl⟩ := Option.map_eq_some_iff.mp ez0
  exact hr x y z H2 vx vy Q (view_rep S2 ex (rx.ext e2)) (view_rep S2 ey ry) ez (q2.ok S2 _ (.p (.bl z)))
theorem snd_cmp (cx : CxOk D T Γ nm an fa d G W X) {a b : Expr} {ca cb : C} (o : Cmp) {pos : Pos} (ha : PE X a (tE D T Γ W ca)) (hb : PE X b (tE D T Γ W cb)) (hs : noSet b = true) :
    PE X (.Compare a [cmpO o] [b] pos) (tE D T Γ W (.cmp o ca cb)) ∧ PT X (.Compare a [cmpO o] [b] pos) (tB1 D T Γ W (.cmp o ca cb)) := by
  obtain ⟨r, ho, hr⟩ := cmp_rule cx o
  exact ⟨pe_mono (pe_cmpR ho ha hb (marks_no hs)) fun σ H Q p => cmp_read hr p, pt_mono (pt_cmpR ho ha hb (marks_no hs)) fun σ H Q p => cmp_read hr (b1_e p)⟩
theorem chain_read {ca cb cc : C} {o o' : Cmp} {r r' : R2} (hr : CmpFits D o r) (hr' : CmpFits D o' r') {σ : L2.St} {H : Hp} {Q : VK} (p : tE D T Γ W (.chain o o' ca cb cc) σ H Q) : tChain r r' (tE D T Γ W ca) (tE D T Γ W cb) (tE D T Γ W cc) σ H Q := by
  refine tRes.thn (ev := evE T Γ ca) p fun u h1 m1 H1 ρ S1 R1 q vx rx => ?_
  refine ⟨m1, h1, ρ, S1, R1, q.bind.mono fun v h2 m2 H2 e2 S2 q2 vy ry => ?_⟩
  obtain ⟨x, ex, q2⟩ := vw_ok q2
  obtain ⟨y, ey, q2⟩ := vw_ok q2
  have R2' := R1.ext e2
  cases hz : cmp2 o x y with
  | none => rw [hz] at q2; exact False.elim q2
  | some z =>
    rw [hz] at q2
    refine hr x y z H2 vx vy _ (view_rep S2 ex (rx.ext e2)) (view_rep S2 ey ry) hz ?_
    refine ⟨z, rfl, ?_⟩
    cases z with
    | false =>
      rw [if_neg (by decide)]
      exact q2.ok S2 _ (.p (.bl false))
    | true =>
      rw [if_pos rfl]
      refine ⟨m2, h2, ρ, S2, R2', q2.bind.mono fun w h3 m3 H3 e3 S3 q3 vz rz => ?_⟩
      obtain ⟨y', ey', q3⟩ := vw_ok q3
      obtain ⟨z', ez', q3⟩ := vw_ok q3
      obtain ⟨b0, eb0, q3⟩ := Post.of q3
      obtain ⟨b, eb, rfl⟩ := Option.map_eq_some_iff.mp eb0
      exact hr' y' z' b H3 vy vz Q (view_rep S3 ey' (ry.ext e3)) (view_rep S3 ez' rz) eb (q3.ok S3 _ (.p (.bl b)))
theorem marks2 {op op' : CmpOp} {b c : Expr} (h : noSet c = true) : lastMarks [op, op'] [b, c] = false := marks_no h
theorem snd_chain (cx : CxOk D T Γ nm an fa d G W X) {a b c : Expr} {ca cb cc : C} (o o' : Cmp) {pos : Pos} (ha : PE X a (tE D T Γ W ca)) (hb : PE X b (tE D T Γ W cb)) (hc : PE X c (tE D T Γ W cc)) (hs : noSet c = true) :
    PE X (.Compare a [cmpO o, cmpO o'] [b, c] pos) (tE D T Γ W (.chain o o' ca cb cc)) ∧ PT X (.Compare a [cmpO o, cmpO o'] [b, c] pos) (tB1 D T Γ W (.chain o o' ca cb cc)) := by
  obtain ⟨r, ho, hr⟩ := cmp_rule cx o
  obtain ⟨r', ho', hr'⟩ := cmp_rule cx o'
  exact ⟨pe_mono (pe_chain ho ho' ha hb hc (marks2 hs)) fun σ H Q p => chain_read hr hr' p, pt_mono (pt_chain ho ho' ha hb hc (marks2 hs)) fun σ H Q p => chain_read hr hr' (b1_e p)⟩

/-! ### and, or, not -/
theorem b1_not {c : C} {σ : L2.St} {H : Hp} {Q : Bool → Hp → Prop} (p : tB1 D T Γ W (.not c) σ H Q) : tNot (tB1 D T Γ W c) σ H Q := by
  obtain ⟨m, h, ρ, S, R, p⟩ := p
  refine ⟨m, h, ρ, S, R, ?_⟩
  have p2 := Post.bind (f := asB) p
  refine (Post.bind p2).mono fun b h1 m1 H1 e1 S1 q => ?_
  exact (q.ok S1).ok S1
theorem snd_not (cx : CxOk D T Γ nm an fa d G W X) {a : Expr} {c : C} {pos : Pos} (ha : PE X a (tE D T Γ W c)) (ht : PT X a (tB1 D T Γ W c)) :
    PE X (.UnaryOp .Not a pos) (tE D T Γ W (.not c)) ∧ PT X (.UnaryOp .Not a pos) (tB1 D T Γ W (.not c)) := by
  refine ⟨pe_mono (pe_not ha) fun σ H Q p => ?_, pt_mono (pt_not ht) fun σ H Q p => b1_not p⟩
  refine b1_e (Q := fun c H1 => Q (.bl (!c)) H1) ?_
  refine tRes.thn (ev := evB T Γ c) p fun b h1 m1 H1 ρ S1 R1 q => ?_
  exact q.ok S1 _ (.p (.bl _))
/-- how a chain of and, or is read: as a value, as a test -/
structure BoolOk (X : Cx) (e : Expr) (t : TE) (t' : TT) : Prop where
  val : PE X e t
  test : PW X e t'
theorem pw_mono {t t' : TT} (h : PW X e t) (i : ∀ σ H Q, t' σ H Q → t σ H Q) : PW X e t' := ⟨fun wh pins s σ H Q I q => h.run wh pins s σ H Q I (i σ H Q q)⟩
theorem snd_one (cx : CxOk D T Γ nm an fa d G W X) {a : Expr} {c : C} {op : BoolOp} {pos : Pos} (ha : PE X a (tE D T Γ W c)) (ht : PT X a (tB1 D T Γ W c)) : BoolOk X (.BoolOp op [a] pos) (tE D T Γ W c) (tB1 D T Γ W c) := by
  cases op with
  | And => exact ⟨pe_one ha, pw_and1 ht⟩
  | Or => exact ⟨pe_one ha, pw_or1 ht⟩
theorem snd_and (cx : CxOk D T Γ nm an fa d G W X) {a b : Expr} {rest : List Expr} {ca cb : C} {pos : Pos} (ha : PE X a (tE D T Γ W ca)) (ht : PT X a (tB1 D T Γ W ca)) (hb : BoolOk X (.BoolOp .And (b :: rest) pos) (tE D T Γ W cb) (tB1 D T Γ W cb)) :
    BoolOk X (.BoolOp .And (a :: b :: rest) pos) (tE D T Γ W (.and ca cb)) (tB1 D T Γ W (.and ca cb)) := by
  refine ⟨pe_mono (pe_and ha hb.val) fun σ H Q p => ?_, pw_mono (pw_and ht hb.test) fun σ H Q p => ?_⟩
  · refine b1_e (Q := fun c H1 => if c = true then tE D T Γ W cb σ H1 Q else Q (.bl false) H1) ?_
    refine tRes.thn (ev := evB T Γ ca) p fun b h1 m1 H1 ρ S1 R1 q => ?_
    cases b with
    | true => exact ⟨m1, h1, ρ, S1, R1, q⟩
    | false => exact q.ok S1 _ (.p (.bl false))
  · obtain ⟨m, h, ρ, S, R, p⟩ := p
    simp only [evE, evB, Res.bind_assoc] at p
    refine ⟨m, h, ρ, S, R, (Post.bind (r := evB T Γ ca ρ h) (by simpa only [evB, Res.bind_assoc] using p)).mono fun b h1 m1 H1 e1 S1 q => ?_⟩
    cases b with
    | true => exact ⟨m1, h1, ρ, S1, R.ext e1, q⟩
    | false => exact q.ok S1
theorem snd_or (cx : CxOk D T Γ nm an fa d G W X) {a b : Expr} {rest : List Expr} {ca cb : C} {pos : Pos} (ha : PE X a (tE D T Γ W ca)) (ht : PT X a (tB1 D T Γ W ca)) (hb : BoolOk X (.BoolOp .Or (b :: rest) pos) (tE D T Γ W cb) (tB1 D T Γ W cb)) :
    BoolOk X (.BoolOp .Or (a :: b :: rest) pos) (tE D T Γ W (.or ca cb)) (tB1 D T Γ W (.or ca cb)) := by
  refine ⟨pe_mono (pe_or ha hb.val) fun σ H Q p => ?_, pw_mono (pw_or ht hb.test) fun σ H Q p => ?_⟩
  · refine b1_e (Q := fun c H1 => if c = true then Q (.bl true) H1 else tE D T Γ W cb σ H1 Q) ?_
    refine tRes.thn (ev := evB T Γ ca) p fun b h1 m1 H1 ρ S1 R1 q => ?_
    cases b with
    | false => exact ⟨m1, h1, ρ, S1, R1, q⟩
    | true => exact q.ok S1 _ (.p (.bl true))
  · obtain ⟨m, h, ρ, S, R, p⟩ := p
    simp only [evE, evB, Res.bind_assoc] at p
    refine ⟨m, h, ρ, S, R, (Post.bind (r := evB T Γ ca ρ h) (by simpa only [evB, Res.bind_assoc] using p)).mono fun b h1 m1 H1 e1 S1 q => ?_⟩
    cases b with
    | false => exact ⟨m1, h1, ρ, S1, R.ext e1, q⟩
    | true => exact q.ok S1
theorem snd_ite (cx : CxOk D T Γ nm an fa d G W X) {t a b : Expr} {ct ca cb : C} {pos : Pos} (ht : PT X t (tB1 D T Γ W ct)) (ha : PE X a (tE D T Γ W ca)) (hb : PE X b (tE D T Γ W cb)) : PE X (.IfExp t a b pos) (tE D T Γ W (.ite ct ca cb)) := by
  refine pe_mono (pe_ifExp ht ha hb) fun σ H Q p => ?_
  refine tRes.thn (ev := evB T Γ ct) p fun b h1 m1 H1 ρ S1 R1 q => ?_
  cases b with
  | true => exact ⟨m1, h1, ρ, S1, R1, q⟩
  | false => exact ⟨m1, h1, ρ, S1, R1, q⟩
end
end Sw

end

section
/-! Calls of defs, instances made. -/
namespace Sw
open PySem L2
section
variable {D : Wd} {T : Tab} {Γ : Calls} {W : WX} {X : Cx} {e : Expr} {nm : Str → Option Gk} {an : Nat → Str} {fa : Nat → Addr} {d : Nat} {G : Gx}
/-- behind a def that was handed no place of the store -/
theorem Ext.pure {m m' : Mp} {H H' : Hp} {h : Store} (e : Ext [] H m' H') (S : RepS D m H h) : Ext m H m H' ∧ RepS D m H' h := by
  have out : ∀ a o, H a = some o → H' a = some o := fun a o z => e.out a o z fun ⟨_, hq, _⟩ => nomatch hq
  have ex : Ext m H m H' := ⟨fun _ _ z => z, e.px, fun a o z _ => out a o z, fun _ z => .inl z, e.there⟩
  refine ⟨ex, S.keep ex fun a ha => ?_⟩
  obtain ⟨u, z⟩ := S.trk a ha
  rw [z, out a u z]
theorem RepX.ext {H H' : Hp} {x : Exc} {cls : Value} {dd : Option Addr} (r : RepX D H x cls dd) (e : PExt H H') (k : ∀ a u, H a = some u → H' a = some u) : RepX D H' x cls dd := by
  obtain ⟨h1, h2, h3⟩ := r
  refine ⟨h1, h2, fun p hp => ?_⟩
  obtain ⟨a, v, e1, e2, e3⟩ := h3 p hp
  exact ⟨a, v, e1, k _ _ e2, e3.ext e⟩
def noStars : List Expr → Bool
  | [] => true
  | e :: r => noStar e && noStars r
theorem stars_any {env : PySem.Env} {pos : Pos} : ∀ {es : List Expr}, noStars es = true → (backTo pos (starEach es env)).any (·.1) = false
  | [], _ => rfl
  | e :: r, h => by
    obtain ⟨h1, h2⟩ := Bool.and_eq_true_iff.mp (show (noStar e && noStars r) = true from h)
    rw [starEach_no h1]
    have ih := stars_any (env := env) (pos := pos) h2
    simp only [backTo, List.map_cons, List.any_cons, Bool.false_or] at ih ⊢
    exact ih
theorem fz_exc {v : Val} {h h' : Store} {x : Exc} (e : fz v h = .exc x h') : False := by
  cases v with
  | p w => cases e
  | loc l =>
    simp only [fz, toP] at e
    split at e
    · cases e
    · cases e
    · cases e
    · split at e <;> cases e
    · cases e
/-- what is wanted of a value that is to be frozen -/
def FzQ (D : Wd) (Q : VK) : VK := fun x H1 => ∃ m1 h1 v p h2, RepS D m1 H1 h1 ∧ RepV D m1 H1 v x ∧ fz v h1 = .ok p h2 ∧ ∀ H2, Ext m1 H1 m1 H2 → RepS D m1 H2 h2 → RepP D H2 p x → Q x H2
/-- .. behind an expression -/
theorem pe_gfz {t : TE} (h : PE X e t) : PE X e (fun σ H Q => t σ H (FzQ D Q)) := by
  refine ⟨fun pins s σ H Q I q => L2.thn (h.run pins s σ H _ I q) fun u s1 ⟨x, H1, I1, rx, m1, h1, v, p, h2, S1, r, ez, k⟩ => ?_⟩
  obtain ⟨H2, I2, e2, S2, r2⟩ := freeze I1 S1 r ez
  exact ⟨x, H2, I2, rx, k H2 e2 S2 r2⟩
theorem RepL.vs {m : Mp} {H : Hp} : ∀ {ps : List PV} {vs : List V}, RepL D H ps vs → RepVs D m H (ps.map .p) vs
  | _, _, .nil => .nil
  | _, _, .cons h r => .cons (.p h) (RepL.vs r)
theorem RepS.empty {H : Hp} : RepS D [] H [] := ⟨rfl, fun l k q r h => by simp at h, fun l e q h => by simp at h, fun a ⟨q, hq, _⟩ => nomatch hq⟩
/-- what a callee is handed, and gives back -/
theorem call_sp {σ : L2.St} {m : Mp} {H : Hp} {h : Store} {i : Nat} {ps : List PV} {vs : List V} {Q : VK} {k : Val → Store → Mp → Hp → Prop} (hk : ∀ a h' m' H', k a h' m' H' → ∀ x, RepV D m' H' a x → Q x H') (S : RepS D m H h) (rs : RepL D H ps vs)
    (q : Post D W σ m H k (match Γ.call i ps with | .ok v _ => .ok (.p v) h | .exc x _ => .exc x h | .bad => .bad)) : spS D (Γ.run i) vs H (FzQ D Q) (WE W σ) := by
  refine ⟨[], [], ps.map .p, RepS.empty, rs.vs, ?_⟩
  unfold Calls.call at q
  generalize Γ.run i (ps.map .p) [] = z at q ⊢
  cases z with
  | bad => exact q
  | ok v h' =>
    intro m' H' x e S' rv
    simp only [Res.bind_ok] at q
    cases ez : fz v h' with
    | bad => rw [ez] at q; exact False.elim q
    | exc x h2 => exact (fz_exc ez).elim
    | ok p h2 =>
      rw [ez] at q
      refine ⟨m', h', v, p, h2, S', rv, ez, fun H2 e2 S2 rp => ?_⟩
      obtain ⟨e1, S1⟩ := (e.trans e2).pure S
      exact hk _ _ _ _ (q m H2 e1 S1) x (.p rp)
  | exc x h' =>
    intro m' H' cls dd e S' rx
    obtain ⟨e1, S1⟩ := e.pure S
    exact q m H' cls dd e1 S1 rx
theorem snd_call (cx : CxOk D T Γ nm an fa d G W X) {x : Str} {i : Nat} {F : Fn} {es : List Expr} {as : CL} {p pos : Pos} (hg : G.sc.names.lookup x = some .globalImplicit) (hd : (x == ("__debug__" : Str)) = false) (hn : nm x = some (.fn i)) (hF : T.fns[i]? = some F)
    (ha : PA X (e :: es) (tL D T Γ W as)) (hs : noStars (e :: es) = true) : PE X (.Call (.Name x p) (e :: es) [] pos) (tE D T Γ W (.call i as)) := by
  obtain ⟨fd, ps, ok, b, kp⟩ := (cx.prg.fns i F hF).ex
  have hD := cx.wd
  have hm : X.mg x = some (.ref (fa i)) := cx.prg.gl x _ hn
  obtain ⟨h1, h2⟩ := Bool.and_eq_true_iff.mp (show (noStar e && noStars es) = true from hs)
  rw [hD] at ok b kp
  refine pe_mono (pe_gfz (D := D) (pe_callS (E := WE W) ok (cx.room.mono (by omega)) (show X.env.scope.names.lookup x = _ by rw [cx.sc]; exact hg) hm kp b (passAt cx.tk) ha hd (starEach_no h1) (stars_any h2))) fun σ H Q pp => ?_
  refine tRes.thn (ev := evL T Γ as) pp fun ps h1 m1 H1 ρ S1 R1 q vs rs => ?_
  rw [← hD]
  exact call_sp (fun _ _ _ _ z => z) S1 rs q
/-- a def without arguments -/
theorem pe_callS0 {k : Nat} {f : Addr} {fd : FuncData} {ps : List Str} {sp : Sp} {E : L2.St → XK} {x : Str} {p pos : Pos} (F : FnOk X.prog X.w X.K X.mg X.base (CX X.prog X.w) k f fd ps sp) (hr : Room k X.A) (hg : Gl X x) (hm : X.mg x = some (.ref f)) (hk : PySem.W.keepIn X.K (.ref f) = true) (hb : Binds X.K fd ps [])
    (hx : ∀ σ, PassesAt (CX X.prog X.w) X σ (E σ)) (hdb : (x == ("__debug__" : Str)) = false) : PE X (.Call (.Name x p) [] [] pos) (tCallS sp E tNil) := by
  refine ⟨fun pins s σ H Q I h => wpAny_Call_Name_kw (ld_glob I hg hm ?_ hdb)⟩
  exact PySem.W.callWith_K0 I.kIn hk (run_fnS F hr hb (hx σ) I .nil h)
theorem snd_call0 (cx : CxOk D T Γ nm an fa d G W X) {x : Str} {i : Nat} {F : Fn} {p pos : Pos} (hg : G.sc.names.lookup x = some .globalImplicit) (hd : (x == ("__debug__" : Str)) = false) (hn : nm x = some (.fn i)) (hF : T.fns[i]? = some F) :
    PE X (.Call (.Name x p) [] [] pos) (tE D T Γ W (.call i .nil)) := by
  obtain ⟨fd, ps, ok, b, kp⟩ := (cx.prg.fns i F hF).ex
  have hD := cx.wd
  have hm : X.mg x = some (.ref (fa i)) := cx.prg.gl x _ hn
  rw [hD] at ok b kp
  refine pe_mono (pe_gfz (D := D) (pe_callS0 (E := WE W) ok (cx.room.mono (by omega)) (show X.env.scope.names.lookup x = _ by rw [cx.sc]; exact hg) hm kp b (passAt cx.tk) hd)) fun σ H Q ⟨m, h, ρ, S, R, q⟩ => ?_
  rw [← hD]
  exact call_sp (fun _ _ _ _ z => z) S .nil q

/-! ### an instance made -/
def tMakeS (C : Addr) (sp : Sp) (E : L2.St → XK) (t : TA) : TE := fun σ H Q => t σ H fun vs H1 => ∀ x dx, H1 x = none → H1 dx = none → dx ≠ x →
  sp (.ref x :: vs) (upd (upd H1 dx (.own x)) x (.ins C dx [])) (fun v H2 => v = .non ∧ Q (.ref x) H2) (E σ)
theorem made_runs {pins : List (Addr × Obj)} {σ : L2.St} {H : Hp} {s : Shared} {Q : VK} {us : List Value} {vs : List V} {k : Nat} {C f : Addr} {fd : FuncData} {ps : List Str} {sp : Sp} {E : XK} (M : Mk X.K C f) (F : FnOk X.prog X.w X.K X.mg X.base (CX X.prog X.w) k f fd ps sp)
    (room : Room (k + 1) X.A) (bd : Binds X.K fd ps []) (px : PassesAt (CX X.prog X.w) X σ E) (I : Inv X pins σ H s) (rel : Vals vs us)
    (h : ∀ x dx, H x = none → H dx = none → dx ≠ x → sp (.ref x :: vs) (upd (upd H dx (.own x)) x (.ins C dx [])) (fun v H2 => v = .non ∧ Q (.ref x) H2) E) : wpAny (model X.prog X.w) X.A (call (.ref C) us) (EP X pins σ Q) X.xe s := by
  have new := Inv.made (C := C) I
  have want := h _ _ (I.hok.fresh (Nat.le_succ s.heap.objs.size)) (I.hok.fresh (Nat.le_refl s.heap.objs.size)) (Nat.ne_of_lt (Nat.lt_succ_self _))
  have both : Vals (V.ref (s.heap.objs.size + 1) :: vs) (Value.ref (s.heap.objs.size + 1) :: us) := .cons rfl rel
  have count := both.length.symm.trans (F.len _ _ _ _ want)
  have bound := bd _ (Value.ref (s.heap.objs.size + 1) :: us) new.kIn (by rw [List.append_nil]; exact count)
  rw [List.append_nil] at bound
  refine wpAny_call (make_map (f := f) I.kIn M.makes M.init (beq_iff_eq.mp M.fn) (codeAny_mono (F.run _ X.stack _ _ _ _ _ _ E (room.make C us []) (new.env0.make C us []) bound both want) fun r s2 back => ?_))
  match r, back with
  | .error x, back => exact px pins _ _ x s2 new back
  | .ok (.ret u), back =>
    obtain ⟨v, H3, I3, rv, ev, want3⟩ := new.after back
    subst ev
    exact ⟨rv, ⟨V.ref (s.heap.objs.size + 1), H3, I3, rfl, want3⟩⟩
  | .ok .next, back => exact back.elim
  | .ok .brk, back => exact back.elim
  | .ok .cont, back => exact back.elim
theorem pe_makeS {k : Nat} {C f : Addr} {fd : FuncData} {ps : List Str} {sp : Sp} {E : L2.St → XK} {x : Str} {p pos : Pos} {es : List Expr} {t : TA} (M : Mk X.K C f) (F : FnOk X.prog X.w X.K X.mg X.base (CX X.prog X.w) k f fd ps sp) (hr : Room (k + 1) X.A) (hg : Gl X x) (hm : X.mg x = some (.ref C))
    (hb : Binds X.K fd ps []) (hx : ∀ σ, PassesAt (CX X.prog X.w) X σ (E σ)) (ha : PA X (e :: es) t) (hdb : (x == ("__debug__" : Str)) = false) (hs : noStars (e :: es) = true) : PE X (.Call (.Name x p) (e :: es) [] pos) (tMakeS C sp E t) := by
  obtain ⟨h1, h2⟩ := Bool.and_eq_true_iff.mp (show (noStar e && noStars es) = true from hs)
  refine ⟨fun pins s σ H Q I h => wpAny_Call_Name_kw (ld_glob I hg hm ?_ hdb)⟩
  exact PySem.W.callWith_K (h₀ := X.base) I.ok.mod.kin M.kp (L2.thn (ha.run pos pins s σ H _ I h) fun us s1 ⟨vs, H1, I1, r, q⟩ => ⟨I1.kIn, made_runs M F hr hb (hx σ) I1 r q⟩) (starEach_no h1) (stars_any h2)
/-- the new instance is not of the caller's store -/
theorem Ext.made {m m' : Mp} {H H' : Hp} {h : Store} {x dx C : Addr} (nx : H x = none) (nd : H dx = none) (ne : dx ≠ x) (S : RepS D m H h) (e : Ext [(x, dx)] (upd (upd H dx (.own x)) x (.ins C dx [])) m' H') : Ext m H m H' ∧ RepS D m H' h := by
  have k : ∀ a o, H a = some o → H' a = some o := fun a o z => by
    have h1 : a ≠ x := ne_of_none z nx
    have h2 : a ≠ dx := ne_of_none z nd
    refine e.out a o (by rw [upd_ne h1, upd_ne h2]; exact z) fun ⟨q, hq, w⟩ => ?_
    have eq : q = (x, dx) := by simpa using hq
    subst eq
    rcases w with w | w
    · exact h1 w
    · exact h2 w
  have ex : Ext m H m H' := ⟨fun _ _ z => z, ⟨fun a xs z => k a _ z, fun a o u z => k a _ z⟩, fun a o z _ => k a o z, fun _ z => .inl z, fun a o z => ⟨o, k a o z⟩⟩
  refine ⟨ex, S.keep ex fun a ha => ?_⟩
  obtain ⟨u, z⟩ := S.trk a ha
  rw [z, k a u z]
theorem RepS.made {H : Hp} {x dx : Addr} {c : Nat} (ne : dx ≠ x) : RepS D [(x, dx)] (upd (upd H dx (.own x)) x (.ins (D.ca c) dx [])) [.obj c []] := by
  refine ⟨rfl, fun l k q r h1 h2 n => ?_, fun l e q h1 h2 => ?_, fun a ⟨q, hq, z⟩ => ?_⟩
  · have hl : l = 0 := by have := (List.getElem?_eq_some_iff.mp h1).1; simp at this; exact this
    have hk : k = 0 := by have := (List.getElem?_eq_some_iff.mp h2).1; simp at this; exact this
    exact absurd (hl.trans hk.symm) n
  · have hl : l = 0 := by have := (List.getElem?_eq_some_iff.mp h2).1; simp at this; exact this
    subst hl
    cases h1
    cases h2
    exact ⟨[], .inl ⟨upd_same, rfl⟩, .inl (by rw [upd_ne ne, upd_same]), ne, .nil⟩
  · have e : q = (x, dx) := by simpa using hq
    subst e
    rcases z with z | z
    · exact ⟨_, by rw [z]; exact upd_same⟩
    · exact ⟨.own x, by rw [z, upd_ne ne]; exact upd_same⟩
theorem isNonV_ok {v : Val} (h : isNonV v = true) : v = .p .non := by
  cases v with
  | loc l => cases h
  | p w => cases w <;> first | rfl | cases h
theorem snd_make (cx : CxOk D T Γ nm an fa d G W X) {x : Str} {c : Nat} {K : Cls} {es : List Expr} {as : CL} {p pos : Pos} (hg : G.sc.names.lookup x = some .globalImplicit) (hd : (x == ("__debug__" : Str)) = false) (hn : nm x = some (.cls c)) (hC : T.cls[c]? = some K)
    (ha : PA X (e :: es) (tL D T Γ W as)) (hs : noStars (e :: es) = true) : PE X (.Call (.Name x p) (e :: es) [] pos) (tE D T Γ W (.make c as)) := by
  obtain ⟨F, hF⟩ := cx.prg.inits c K hC
  obtain ⟨fd, ps, ok, b, kp⟩ := (cx.prg.fns _ F hF).ex
  have M := (cx.prg.cls c K hC).mkr
  have hD := cx.wd
  have hm : X.mg x = some (.ref (D.ca c)) := cx.prg.gl x _ hn
  rw [hD] at ok b M
  refine pe_mono (pe_gfz (D := D) (pe_makeS (E := WE W) M ok (cx.room.mono (by omega)) (show X.env.scope.names.lookup x = _ by rw [cx.sc]; exact hg) (by rw [hm, hD]; rfl) b (passAt cx.tk) ha hd hs)) fun σ H Q pp => ?_
  refine tRes.thn (ev := evL T Γ as) pp fun ps h1 m1 H1 ρ S1 R1 q vs rs => ?_
  intro y dy ny ndy ne
  rw [← hD]
  have px : PExt H1 (upd (upd H1 dy (.own y)) y (.ins (D.ca c) dy [])) := ⟨fun a xs z => by rw [upd_ne (ne_of_none z ny), upd_ne (ne_of_none z ndy)]; exact z, fun a o u z => by rw [upd_ne (ne_of_none z ny), upd_ne (ne_of_none z ndy)]; exact z⟩
  refine ⟨[(y, dy)], [.obj c []], .loc 0 :: ps.map .p, RepS.made ne, .cons (RepV.loc (q := (y, dy)) rfl) (rs.ext px).vs, ?_⟩
  have hK : T.initOf c = K.init := by unfold Tab.initOf; rw [hC]
  rw [hK] at q
  unfold Calls.init at q
  generalize Γ.run K.init (.loc 0 :: ps.map .p) [.obj c []] = z at q ⊢
  cases z with
  | bad => exact q
  | ok v h' =>
    intro m' H' z e S' rv
    simp only [Res.bind_ok] at q
    by_cases hv : isNonV v = true
    · rw [if_pos hv] at q
      have hv := isNonV_ok hv
      subst hv
      refine ⟨by cases rv with | p rv => cases rv; rfl, ?_⟩
      cases ez : fz (.loc 0) h' with
      | bad => rw [ez] at q; exact False.elim q
      | exc x h2 => exact (fz_exc ez).elim
      | ok p h2 =>
        rw [ez] at q
        have h0 : m'[0]? = some (y, dy) := e.pre 0 _ rfl
        refine ⟨m', h', .loc 0, p, h2, S', RepV.loc (q := (y, dy)) h0, ez, fun H2 e2 S2 rp => ?_⟩
        obtain ⟨e1, S3⟩ := Ext.made ny ndy ne S1 (e.trans e2)
        exact q m1 H2 e1 S3 _ (.p rp)
    · rw [if_neg hv] at q
      exact False.elim q
  | exc x h' =>
    intro m' H' cls dd e S' rx
    obtain ⟨e1, S2⟩ := Ext.made ny ndy ne S1 e
    exact q m1 H' cls dd e1 S2 rx
end
end Sw

end

section
/-! Frozen instances, isinstance, built-ins, indices. -/
namespace Sw
open PySem L2
section
variable {X : Cx} {pins : List (Addr × Obj)} {σ : L2.St} {H : Hp} {s : Shared} {D : Wd} {ca : Nat → Addr} {xf : Nat → Str}
/-- a frozen instance, in the heap -/
theorem obj_inst (I : Inv X pins σ H s) {a dx : Addr} {o od : Obj} {C : Addr} {vs : List (Option V)} (h1 : H a = some (.frz o (SlX.SlO a C dx vs))) (h2 : H dx = some (.frz od (.xd []))) :
    ∃ (sl : Array (Option Value)) (ob : Obj), SlX.SlR vs sl ∧ PySem.W.InstAt s.heap a { PySem.W.instObj C dx with slots := sl } C (some ob) ∧ ∀ f, PySem.W.lookIn f ob = some Option.none := by
  obtain ⟨_, ⟨sl, e, r⟩, _, _⟩ := I.hok a _ h1
  obtain ⟨_, mA, n, r2⟩ := I.hok dx _ h2
  obtain ⟨ob, ho, hl⟩ := lookIn_ns n
  exact ⟨sl, ob, r, ⟨e, rfl, rfl, ho⟩, fun f => by rw [hl f, RelO.none_of (r2 f)]⟩
theorem obj_getslot {A : Around} {E : Value → Shared → Prop} (I : Inv X pins σ H s) {a dx p : Addr} {o od : Obj} {C : Addr} {vs : List (Option V)} {f : Str} {i : Nat} {v : V} {b : Bool} {Q : Value → Shared → Prop} (h1 : H a = some (.frz o (SlX.SlO a C dx vs))) (h2 : H dx = some (.frz od (.xd [])))
    (c : SlX.SCls X.K C) (t : SlX.Slot1 X.K C f p i) (l : vs[i]? = some (some v)) (q : ∀ u s', Inv X pins σ H s' → RelV v u → Q u s') : wpAny (model X.prog X.w) A (getAttr (.ref a) f b) Q E s := by
  obtain ⟨sl, ob, r, J, _⟩ := obj_inst I h1 h2
  obtain ⟨u, eu, ru⟩ := r i v l
  obtain ⟨m, F⟩ := I.fr
  exact PySem.W.get_slot F I.mod.kin J (c.get f) c.ic t.at_ t.get t.tk t.ix (v := u) (by show (sl[i]?).join = some u; rw [eu]; rfl) (handed_of ru) (q u _ (I.tok _) ru)
theorem obj_getmeth {A : Around} {E : Value → Shared → Prop} (I : Inv X pins σ H s) {a dx g : Addr} {o od : Obj} {C : Addr} {vs : List (Option V)} {m : Str} {pl : Sem Bool} {Q : Value × List Value → Shared → Prop} (h1 : H a = some (.frz o (SlX.SlO a C dx vs))) (h2 : H dx = some (.frz od (.xd [])))
    (c : SlX.SCls X.K C) (k : Meth X.K C m g) (q : Q (.ref g, [.ref a]) s) : wpAny (model X.prog X.w) A (getMethod (.ref a) m pl) Q E s := by
  obtain ⟨sl, ob, r, J, hl⟩ := obj_inst I h1 h2
  have pg := PySem.W.plainGet_of (c.get m)
  exact PySem.W.method_fn I.kIn J pg.1 pg.2 k.at_ (beq_iff_eq.mp k.fn) (by show (PySem.W.lookIn m ob).map (·.isSome) = some false; rw [hl m]; rfl) q

/-! ### isinstance -/
def tyName : PV → Option String
  | .non => some "NoneType"
  | .bl _ => some "bool"
  | .int _ => some "int"
  | .str _ => some "str"
  | .tup _ => some "tuple"
  | .lst _ => some "list"
  | _ => none
theorem tyX_of {p : PV} {x : V} {n : String} (r : RepP D H p x) (h : tyName p = some n) : TyX D.K H x (.type n) := by
  cases r <;> simp [tyName] at h <;> subst h
  · exact .base .non
  · exact .base (.bl _)
  · exact .base (.int _)
  · exact .base (.str _)
  · rename_i hs _
    rcases hs with (hs | ⟨o, hs⟩) | ⟨o, its, k, hk, hc, _⟩
    · exact .base (.tup hs)
    · exact .fTuple hs
    · exact .kTuple hk hc
  · rename_i hs _
    rcases hs with ⟨o, hs⟩ | ⟨o, its, k, hk, hc, _⟩
    · exact .base (.frz hs)
    · exact .kList hk hc
/-- isinstance(x, c): of plain data, of a frozen instance -/
def rIsP (D : Wd) : List V → Hp → VK → Prop := fun xs H Q => ∃ (p : PV) (x c : V) (u : Value) (b : Bool), xs = [x, c] ∧ ClsV c u ∧ RepP D H p x ∧ Q (.bl b) H ∧
  ((∃ n, tyName p = some n ∧ PySem.W.kitOne D.K (.type n) u = some b) ∨ ∃ k fs, p = .obj k fs ∧ SlX.SCls D.K (D.ca k) ∧ SlX.SIsi D.K (D.ca k) ∧ PySem.W.kitOne D.K (.ref (D.ca k)) u = some b)
theorem call_isP : CallR X (.builtin "isinstance") (rIsP (wdOf X ca xf)) := by
  intro pins s σ H xs us Q I r h
  obtain ⟨p, x, c, u, b, rfl, hc, hp, q, hh⟩ := h
  rcases hh with ⟨n, hn, hk⟩ | ⟨k, fs, rfl, sc, si, hk⟩
  · exact call_isi pins s σ H _ us Q I r ⟨x, c, .type n, u, b, rfl, hc, tyX_of hp hn, hk, q⟩
  · obtain ⟨u1, u2, rfl, r1, r2⟩ := vals2 r
    have e2 := hc.eq r2
    subst e2
    cases hp with
    | obj h1 h2 ne ro =>
      cases r1
      obtain ⟨sl, ob, _, J, _⟩ := obj_inst I h1 h2
      exact PySem.W.kia_one (OwX.kitx_slt sc.ic (sc.get _) si.ca si.cn si.ct si.cm) I.kIn J hk (fun z => nomatch z) fun tk => ⟨.bl b, H, I.tok _, rfl, q⟩
end
section
variable {D : Wd} {T : Tab} {Γ : Calls} {W : WX} {X : Cx} {e : Expr} {nm : Str → Option Gk} {an : Nat → Str} {fa : Nat → Addr} {d : Nat} {G : Gx}
def tyStr : Ty → Option String
  | .int => some "int"
  | .bool => some "bool"
  | .tuple => some "tuple"
  | .list => some "list"
  | .str => some "str"
  | .cls _ => none
theorem kit_plain {K : PySem.W.Frag} {p : PV} {n : String} {t : Ty} {y : String} (h : tyName p = some n) (ht : tyStr t = some y) : PySem.W.kitOne K (.type n) (.type y) = some (isiPV t p) := by
  cases p <;> simp [tyName] at h <;> subst h <;> cases t <;> simp [tyStr] at ht <;> subst ht <;> refine kit_ty ?_ <;> simp only [isiPV] <;> decide +kernel
/-- isinstance against a class that stands at a name -/
theorem snd_isiR (cx : CxOk D T Γ nm an fa d G W X) {a tyE : Expr} {c : C} {t : Ty} {cv : V} {u : Value} {p pos : Pos} (hg : G.sc.names.lookup ("isinstance" : Str) = some .globalImplicit) (hm : nm "isinstance" = some .free) (ha : PE X a (tE D T Γ W c)) (hT : PE X tyE (tC cv)) (hc : ClsV cv u)
    (hk : ∀ (q : PV) n, tyName q = some n → PySem.W.kitOne D.K (.type n) u = some (isiPV t q)) (ho : ∀ k fs K, T.cls[k]? = some K → PySem.W.kitOne D.K (.ref (D.ca k)) u = some (isiPV t (.obj k fs)))
    (hs : noStars [a, tyE] = true) : PE X (.Call (.Name "isinstance" p) [a, tyE] [] pos) (tE D T Γ W (.isi t c)) := by
  have hD := cx.wd
  obtain ⟨h1, h2⟩ := Bool.and_eq_true_iff.mp (show (noStar a && noStars [tyE]) = true from hs)
  obtain ⟨h3, _⟩ := Bool.and_eq_true_iff.mp (show (noStar tyE && noStars []) = true from h2)
  refine pe_mono (pe_callB (call_isP (ca := D.ca) (xf := D.xf)) (show X.env.scope.names.lookup _ = _ by rw [cx.sc]; exact hg) (cx.prg.gl _ _ hm) (by decide +kernel) (pa_cons (pe_frz ha) (pa_cons hT pa_nil (starEach_no h3)) (starEach_no h1)) (by decide) (by decide) (starEach_no h1) (stars_any h2)) fun σ H Q pp => ?_
  refine tRes.thn (ev := evP T Γ c) pp fun q h1 m1 H1 ρ S1 R1 z x rx => ?_
  rw [← hD]
  show rIsP D [x, cv] H1 Q
  split at z
  · exact False.elim z
  · rename_i hn
    have z2 := z.ok S1 _ (.p (.bl (isiPV t q)))
    refine ⟨q, x, cv, u, isiPV t q, rfl, hc, rx, z2, ?_⟩
    cases hty : tyName q with
    | some n => exact .inl ⟨n, rfl, hk q n hty⟩
    | none =>
      cases q <;> simp [tyName] at hty
      · simp [isDct] at hn
      · rename_i k fs
        simp only [isDct, noCls, Bool.false_or, Option.isNone_iff_eq_none] at hn
        cases hK : T.cls[k]? with
        | none => exact absurd hK hn
        | some K => exact .inr ⟨k, fs, rfl, (cx.prg.cls k K hK).sc, (cx.prg.cls k K hK).si, ho k fs K hK⟩
def tyOfName (x : Str) : Option Ty := if x = "int" then some .int else if x = "bool" then some .bool else if x = "tuple" then some .tuple else if x = "list" then some .list else if x = "str" then some .str else none
theorem tyOfName_ok {x : Str} {t : Ty} (h : tyOfName x = some t) : ∃ y, tyStr t = some y ∧ bootBuiltins x = some (.type y) ∧ x ≠ "__name__" ∧ (x == ("__debug__" : Str)) = false := by
  unfold tyOfName at h
  split at h
  · rename_i e; cases h; subst e; exact ⟨_, rfl, by decide +kernel, by decide +kernel, by decide +kernel⟩
  · split at h
    · rename_i e; cases h; subst e; exact ⟨_, rfl, by decide +kernel, by decide +kernel, by decide +kernel⟩
    · split at h
      · rename_i e; cases h; subst e; exact ⟨_, rfl, by decide +kernel, by decide +kernel, by decide +kernel⟩
      · split at h
        · rename_i e; cases h; subst e; exact ⟨_, rfl, by decide +kernel, by decide +kernel, by decide +kernel⟩
        · split at h
          · rename_i e; cases h; subst e; exact ⟨_, rfl, by decide +kernel, by decide +kernel, by decide +kernel⟩
          · cases h
theorem snd_isi (cx : CxOk D T Γ nm an fa d G W X) {a : Expr} {c : C} {t : Ty} {x : Str} {p p2 pos : Pos} (hg : G.sc.names.lookup ("isinstance" : Str) = some .globalImplicit) (hm : nm "isinstance" = some .free) (ha : PE X a (tE D T Γ W c)) (hx : tyOfName x = some t)
    (hgx : G.sc.names.lookup x = some .globalImplicit) (hmx : nm x = some .free) (hs : noStar a = true) : PE X (.Call (.Name "isinstance" p) [a, .Name x p2] [] pos) (tE D T Γ W (.isi t c)) := by
  obtain ⟨y, h1, h2, h3, h4⟩ := tyOfName_ok hx
  refine snd_isiR cx hg hm ha (pe_bltn (v := .ty y) (show X.env.scope.names.lookup x = _ by rw [cx.sc]; exact hgx) (cx.prg.gl _ _ hmx) h2 rfl h3 h4) (.ty y) (fun q n hn => kit_plain hn h1) (fun k fs K hK => ?_) (by simp [noStars, hs]; rfl)
  have := cx.prg.isiT k K hK y (by cases t <;> simp [tyStr] at h1 <;> subst h1 <;> decide)
  rw [this.2]
  cases t <;> simp [tyStr] at h1 <;> rfl
theorem snd_isiC (cx : CxOk D T Γ nm an fa d G W X) {a : Expr} {c : C} {k : Nat} {K : Cls} {x : Str} {p p2 pos : Pos} (hg : G.sc.names.lookup ("isinstance" : Str) = some .globalImplicit) (hm : nm "isinstance" = some .free) (ha : PE X a (tE D T Γ W c)) (hx : nm x = some (.cls k)) (hC : T.cls[k]? = some K)
    (hgx : G.sc.names.lookup x = some .globalImplicit) (hd : (x == ("__debug__" : Str)) = false) (hs : noStar a = true) : PE X (.Call (.Name "isinstance" p) [a, .Name x p2] [] pos) (tE D T Γ W (.isi (.cls k) c)) := by
  refine snd_isiR cx hg hm ha (pe_glob (v := .ref (D.ca k)) (show X.env.scope.names.lookup x = _ by rw [cx.sc]; exact hgx) (cx.prg.gl _ _ hx) rfl hd) (.own _) (fun q n hn => ?_) (fun j fs J hJ => ?_) (by simp [noStars, hs]; rfl)
  · have := (cx.prg.isiT k K hC n (by cases q <;> simp [tyName] at hn <;> subst hn <;> decide)).1
    rw [this]
    cases q <;> simp [tyName] at hn <;> rfl
  · rw [cx.prg.isiC j k J K hJ hC]
    rfl
end
end Sw

end

section
/-! Built-in functions of one argument; len; indices. -/
namespace Sw
open PySem L2
section
variable {D : Wd} {T : Tab} {Γ : Calls} {W : WX} {X : Cx} {e : Expr} {nm : Str → Option Gk} {an : Nat → Str} {fa : Nat → Addr} {d : Nat} {G : Gx}
/-- a rule that gives what bi1 says -/
def BiFits (D : Wd) (b : Bi) (r : List V → Hp → VK → Prop) : Prop := ∀ p z H v (Q : VK), RepW D H p v → bi1 b p = some z → (∀ y H', Grow D H H' → RepP D H' z y → Q y H') → r [v] H Q
/-- .. a new list, that is to be frozen -/
def BiFitsL (D : Wd) (b : Bi) (r : List V → Hp → VK → Prop) : Prop := ∀ p z H v (Q : VK), RepW D H p v → bi1 b p = some z → (∀ a xs ps, z = .lst ps → H a = none → RepL D H ps xs → Q (.ref a) (upd H a (.lst xs))) → r [v] H Q
theorem bi_read {c : C} {b : Bi} {r : List V → Hp → VK → Prop} (hr : BiFits D b r) {σ : L2.St} {H : Hp} {Q : VK} (p : tE D T Γ W (.bi b c) σ H Q) : tCB r (tCons (tV D T Γ W c) tNil) σ H Q := by
  refine tRes.thn (ev := evV T Γ c) p fun x h1 m1 H1 ρ S1 R1 q v vl hv rv => ?_
  obtain ⟨z0, ez0, q2⟩ := Post.of q
  obtain ⟨z, ez, rfl⟩ := Option.map_eq_some_iff.mp ez0
  exact hr x z H1 v Q (view_rep S1 hv rv) ez fun y H' g ry => Post.grow q2 g S1 y (.p ry)
theorem bi_readL {c : C} {b : Bi} {r : List V → Hp → VK → Prop} (hr : BiFitsL D b r) {σ : L2.St} {H : Hp} {Q : VK} (p : tE D T Γ W (.bi b c) σ H Q) :
    tCB r (tCons (tV D T Γ W c) tNil) σ H fun v H1 => ∃ a u, v = .ref a ∧ H1 a = some u ∧ Still u = false ∧ ∀ od, Q v (upd H1 a (.frz od u)) := by
  refine tRes.thn (ev := evV T Γ c) p fun x h1 m1 H1 ρ S1 R1 q v vl hv rv => ?_
  obtain ⟨z0, ez0, q2⟩ := Post.of q
  obtain ⟨z, ez, rfl⟩ := Option.map_eq_some_iff.mp ez0
  refine hr x z H1 v _ (view_rep S1 hv rv) ez fun a xs ps hz ha rs => ⟨a, _, rfl, upd_same, rfl, fun od => ?_⟩
  rw [upd_upd]
  subst hz
  have g : Grow D H1 (upd H1 a (.frz od (.lst xs))) := Grow.fresh ha
  exact Post.grow q2 g S1 (.ref a) (.p (.lst (.inl ⟨od, upd_same⟩) (rs.ext (g m1).1.px)))
theorem snd_biB (cx : CxOk D T Γ nm an fa d G W X) {b : Bi} {r : List V → Hp → VK → Prop} {id : String} {x : Str} {a : Expr} {c : C} {p pos : Pos} (hR : CallR X (.builtin id) r) (hr : BiFits D b r) (hv : bootBuiltins x = some (.builtin id)) (hg : G.sc.names.lookup x = some .globalImplicit) (hm : nm x = some .free)
    (hx : x ≠ "__name__") (hd : (x == ("__debug__" : Str)) = false) (ha : PE X a (tE D T Γ W c)) (hs : noStar a = true) : PE X (.Call (.Name x p) [a] [] pos) (tE D T Γ W (.bi b c)) :=
  pe_mono (pe_callB hR (show X.env.scope.names.lookup x = _ by rw [cx.sc]; exact hg) (cx.prg.gl _ _ hm) hv (pa_cons (pe_see ha) pa_nil (starEach_no hs)) hx hd (starEach_no hs) rfl) fun σ H Q q => bi_read hr q
theorem snd_biT (cx : CxOk D T Γ nm an fa d G W X) {b : Bi} {r : List V → Hp → VK → Prop} {id : String} {x : Str} {a : Expr} {c : C} {p pos : Pos} (hR : CallR X (.type id) r) (hr : BiFits D b r) (hv : bootBuiltins x = some (.type id)) (hg : G.sc.names.lookup x = some .globalImplicit) (hm : nm x = some .free)
    (hx : x ≠ "__name__") (hd : (x == ("__debug__" : Str)) = false) (ha : PE X a (tE D T Γ W c)) (hs : noStar a = true) : PE X (.Call (.Name x p) [a] [] pos) (tE D T Γ W (.bi b c)) :=
  pe_mono (pe_callTy hR (show X.env.scope.names.lookup x = _ by rw [cx.sc]; exact hg) (cx.prg.gl _ _ hm) hv (pa_cons (pe_see ha) pa_nil (starEach_no hs)) hx hd (starEach_no hs) rfl) fun σ H Q q => bi_read hr q
theorem snd_biL (cx : CxOk D T Γ nm an fa d G W X) {b : Bi} {r : List V → Hp → VK → Prop} {id : String} {x : Str} {a : Expr} {c : C} {p pos : Pos} (hR : CallR X (.type id) r) (hr : BiFitsL D b r) (hv : bootBuiltins x = some (.type id)) (hg : G.sc.names.lookup x = some .globalImplicit) (hm : nm x = some .free)
    (hx : x ≠ "__name__") (hd : (x == ("__debug__" : Str)) = false) (ha : PE X a (tE D T Γ W c)) (hs : noStar a = true) : PE X (.Call (.Name x p) [a] [] pos) (tE D T Γ W (.bi b c)) :=
  pe_mono (pe_lockd (pe_callTy hR (show X.env.scope.names.lookup x = _ by rw [cx.sc]; exact hg) (cx.prg.gl _ _ hm) hv (pa_cons (pe_see ha) pa_nil (starEach_no hs)) hx hd (starEach_no hs) rfl)) fun σ H Q q => bi_readL hr q
/-! the rules -/
theorem seqW {H : Hp} {ps : List PV} {v : V} (r : RepW D H (.lst ps) v) : ∃ a xs, v = .ref a ∧ SqL D.K H a xs ∧ RepL D H ps xs := by
  cases r with
  | p r =>
    cases r with
    | lst h r => exact ⟨_, _, rfl, h.sq, r⟩
  | lst h r => exact ⟨_, _, rfl, SqL.of h, r⟩
theorem tupW {H : Hp} {ps : List PV} {v : V} (r : RepW D H (.tup ps) v) : ∃ a xs, v = .ref a ∧ SqT D.K H a xs ∧ RepL D H ps xs := by
  cases r with
  | p r =>
    cases r with
    | tup h r => exact ⟨_, _, rfl, h, r⟩
theorem bools_rep {H : Hp} : ∀ {ps : List PV} {bs : List Bool} {xs : List V}, bools ps = some bs → RepL D H ps xs → xs = bs.map V.bl
  | [], bs, xs, h, r => by
    cases h
    cases r
    rfl
  | p :: ps, bs, xs, h, r => by
    cases p <;> simp [bools] at h
    obtain ⟨cs, h1, rfl⟩ := h
    cases r with
    | cons r1 r2 =>
      cases r1
      rw [bools_rep h1 r2]
      rfl
theorem nums_rep {H : Hp} : ∀ {ps : List PV} {bs : List Int} {xs : List V}, nums ps = some bs → RepL D H ps xs → xs = bs.map V.int
  | [], bs, xs, h, r => by
    cases h
    cases r
    rfl
  | p :: ps, bs, xs, h, r => by
    cases p <;> simp [nums] at h
    obtain ⟨cs, h1, rfl⟩ := h
    cases r with
    | cons r1 r2 =>
      cases r1
      rw [nums_rep h1 r2]
      rfl
theorem bf_abs : BiFits D .abs (fun xs H Q => ∃ i, xs = [.int i] ∧ Q (.int (if i < 0 then -i else i)) H) := by
  intro p z H v Q rp e k
  cases p <;> simp [bi1] at e
  subst e
  rw [intW rp]
  exact ⟨_, rfl, k _ H (Grow.refl H) (.int _)⟩
theorem bf_int : BiFits D .int (fun xs H Q => (∃ i, xs = [.int i] ∧ Q (.int i) H) ∨ ∃ k, xs = [.bl k] ∧ Q (.int (if k then 1 else 0)) H) := by
  intro p z H v Q rp e k
  cases p <;> simp [bi1] at e
  subst e
  rw [intW rp]
  exact .inl ⟨_, rfl, k _ H (Grow.refl H) (.int _)⟩
theorem bf_all (hK : X.K = D.K) : BiFits D .all (rAll X.K) := by
  intro p z H v Q rp e k
  cases p <;> simp [bi1] at e
  obtain ⟨bs, h1, rfl⟩ := e
  obtain ⟨a, xs, rfl, hs, rl⟩ := seqW rp
  rw [bools_rep h1 rl] at hs
  exact ⟨a, bs, rfl, by rw [hK]; exact hs, k _ H (Grow.refl H) (.bl _)⟩
theorem bf_any (hK : X.K = D.K) : BiFits D .any (rAny X.K) := by
  intro p z H v Q rp e k
  cases p <;> simp [bi1] at e
  obtain ⟨bs, h1, rfl⟩ := e
  obtain ⟨a, xs, rfl, hs, rl⟩ := seqW rp
  rw [bools_rep h1 rl] at hs
  exact ⟨a, bs, rfl, by rw [hK]; exact hs, k _ H (Grow.refl H) (.bl _)⟩
theorem bf_tuple (hK : X.K = D.K) : BiFits D .tuple (fun xs H Q => ∃ p ys, xs = [.ref p] ∧ ((SqL X.K H p ys ∧ ∀ l, H l = none → Q (.ref l) (upd H l (.tup ys))) ∨ (SqT X.K H p ys ∧ Q (.ref p) H))) := by
  intro p z H v Q rp e k
  cases p <;> simp [bi1] at e
  · subst e
    cases rp with
    | p rp =>
      cases rp with
      | tup h r => exact ⟨_, _, rfl, .inr ⟨by rw [hK]; exact h, k _ H (Grow.refl H) (.tup h r)⟩⟩
  · subst e
    obtain ⟨a, xs, rfl, hs, rl⟩ := seqW rp
    exact ⟨a, xs, rfl, .inl ⟨by rw [hK]; exact hs, fun l hl => k _ _ (Grow.fresh hl) (.tup (.inl (.inl upd_same)) (rl.ext (Ext.fresh (m := []) hl).px))⟩⟩
theorem bf_list (hK : X.K = D.K) : BiFitsL D .list (fun xs H Q => ∃ p ys, xs = [.ref p] ∧ (SqL X.K H p ys ∨ SqT X.K H p ys) ∧ ∀ l, H l = none → Q (.ref l) (upd H l (.lst ys))) := by
  intro p z H v Q rp e k
  cases p <;> simp [bi1] at e
  · subst e
    obtain ⟨a, xs, rfl, hs, rl⟩ := tupW rp
    exact ⟨a, xs, rfl, .inr (by rw [hK]; exact hs), fun l hl => k l xs _ rfl hl rl⟩
  · subst e
    obtain ⟨a, xs, rfl, hs, rl⟩ := seqW rp
    exact ⟨a, xs, rfl, .inl (by rw [hK]; exact hs), fun l hl => k l xs _ rfl hl rl⟩
/-- sum of a list, of a tuple -/
theorem preSum_take (ns : List Int) : ∀ j, preSum (fun i => ns.getD i 0) j = (ns.take j).sum
  | 0 => by simp [preSum]
  | j + 1 => by
    rw [preSum, preSum_take ns j, List.take_add_one]
    cases h : ns[j]? with
    | none => simp [List.getD, h]
    | some x => simp [List.getD, h]
def rSumT (K : PySem.W.Frag) : List V → Hp → VK → Prop := fun vs H Q => ∃ (a : Addr) (ns : List Int), vs = [V.ref a] ∧ SqT K H a (ns.map V.int) ∧ Q (.int ns.sum) H
theorem cr_sumT (hc : X.calm = true) : CallR X (.builtin "sum") (rSumT X.K) := by
  intro pins s σ H xs us Q I r h
  obtain ⟨a, ns, rfl, hs, q⟩ := h
  obtain ⟨u, rfl, r1⟩ := vals1 r
  cases r1
  obtain ⟨its, rv, tp, _⟩ := I.tuple hs
  have lt : a < s.heap.objs.size := tp.lt
  have tp2 : s.heap.IsTuple a its.toArray := tp
  refine call_sum_walkG (wpAny_pyIter_tuple tp2 ?_)
  refine ⟨_, _, _, _, _, _, fun i => ns.getD i 0, rfl, Walks.tuple (A := X.A.in1) (I.ok.hd hc) s.heap.objs.size a (Nat.ne_of_lt lt) its.toArray, ⟨?_, ?_⟩, ?_, ?_, ?_⟩
  · exact ⟨_, Heap.get?_push_size _ rfl, rfl, rfl⟩
  · exact tp2.at fun o e => Heap.get?_push_of_some _ e
  · intro b hb
    simp only [List.mem_cons, List.not_mem_nil, or_false] at hb
    show b < (s.heap.push _).objs.size
    rw [Heap.size_push]
    rcases hb with rfl | rfl
    · exact Nat.lt_succ_self _
    · exact Nat.lt_succ_of_lt lt
  · intro i v hv
    have hv2 : its[i]? = some v := by simpa using hv
    have hl := rv.length
    rw [List.length_map] at hl
    have hi : i < ns.length := by
      rw [hl]
      exact (List.getElem?_eq_some_iff.mp hv2).1
    obtain ⟨w, h1, h2⟩ := rv.get (i := i) (x := .int ns[i]) (by rw [List.getElem?_map, List.getElem?_eq_getElem hi]; rfl)
    rw [hv2] at h1
    cases h1
    obtain ⟨t, rfl⟩ := h2
    exact ⟨t, by simp [List.getD, List.getElem?_eq_getElem hi]⟩
  · intro h' tk t' hk
    have hl := rv.length
    rw [List.length_map] at hl
    refine ⟨.int ns.sum, H, ?_, ?_, q⟩
    · refine I.kept fun b o hb => hk b o (fun hm => ?_) (Heap.get?_push_of_some _ hb)
      have e : b = s.heap.objs.size := by simpa using hm
      exact absurd (Heap.lt_size hb) (by rw [e]; exact Nat.lt_irrefl _)
    · refine ⟨t', ?_⟩
      rw [preSum_take, List.take_of_length_le (by simp; omega)]
end
end Sw

end

section
/-! Instances: slots, properties, methods, len. -/
namespace Sw
open PySem L2
/-- not super() -/
def plainBase : Expr → Bool
  | .Call (.Name id _) [] [] _ => !(id == ("super" : Str))
  | _ => true
theorem base_plain {o : Expr} {attr : Str} {env : PySem.Env} {wh : Sem Value} (h : plainBase o = true) : attributeBase o attr env wh = wh := by
  unfold attributeBase
  split
  · rename_i id _ pos
    have hid : (id != ("super" : Str)) = true := by simpa [plainBase, bne] using h
    rw [hid]
    rfl
  · rfl
theorem meth_form {o : Expr} {name : Str} {apos pos : Pos} {args : List Expr} {env : PySem.Env} (hb : plainBase o = true) (hp : (apos.endLine == pos.line) = true) (hs : (backTo pos (starEach args env)).any (·.1) = false) (hl : args.length < 30) :
    eval (.Call (.Attribute o name apos) args [] pos) env = (do
      let ov ← eval o env
      standAt apos.atName
      let (f, first) ← holding [ov] (getMethod ov name (do return (← importBound o env).getD true))
      callWith pos f first (backTo pos (starEach args env)) (backToKw pos (keywordEach [] env))) := by
  have e1 : eval (.Call (.Attribute o name apos) args [] pos) env = (do
      let ov ← attributeBase o name env (eval o env)
      standAt apos.atName
      methodCall o name apos pos env ov (args.length + ([] : List Keyword).length) (backTo pos (starEach args env)) (backToKw pos (keywordEach [] env))) := by rfl
  rw [e1, base_plain hb]
  have hf : methodCallForm (args.length + ([] : List Keyword).length) (backTo pos (starEach args env)) (backToKw pos (keywordEach [] env)) = true := by
    unfold methodCallForm
    have a1 : (backTo pos (starEach args env)).all (fun p => !p.1) = true := by
      rw [List.all_eq_not_any_not]
      simpa using hs
    have a2 : (backToKw pos (keywordEach [] env)) = [] := rfl
    rw [a1, a2]
    simp
    omega
  have e2 : ∀ ov, methodCall o name apos pos env ov (args.length + ([] : List Keyword).length) (backTo pos (starEach args env)) (backToKw pos (keywordEach [] env)) = (do
      let (f, first) ← holding [ov] (getMethod ov name (do return (← importBound o env).getD true))
      callWith pos f first (backTo pos (starEach args env)) (backToKw pos (keywordEach [] env))) := fun ov => by
    unfold methodCall
    rw [hf]
    unfold calleeOf methodCallPos
    rw [hp]
    rfl
  simp only [e2]
end Sw

end

section
/-! zip and enumerate over lists and tuples, mixed. -/
namespace Sw
open PySem PySem.Spec PyProof.Rows L2
/-- a list (true) or a tuple (false) -/
def SqS (k : Bool) (K : PySem.W.Frag) (H : Hp) (a : Addr) (xs : List V) : Prop := match k with
  | true => SqL K H a xs
  | false => SqT K H a xs
def itS (k : Bool) (it l : Addr) (i : Nat) (h : Heap) : Prop := match k with
  | true => h.IsListIter it l i
  | false => h.IsTupleIter it l i
def isS (k : Bool) (h : Heap) (l : Addr) (its : Array Value) : Prop := match k with
  | true => h.IsList l its
  | false => h.IsTuple l its
theorem itS_at {k : Bool} {it l : Addr} {i : Nat} {h h' : Heap} (x : itS k it l i h) (e : ∀ o, h.get? it = some o → h'.get? it = some o) : itS k it l i h' := by
  cases k with
  | true => exact Heap.IsListIter.at x e
  | false => exact Heap.IsTupleIter.at x e
theorem itS_obj {k : Bool} {it l : Addr} {i : Nat} {h : Heap} (x : itS k it l i h) : ∃ o, h.get? it = some o ∧ ∀ v, o.data ≠ .cell v := by
  cases k with
  | true => obtain ⟨o, e, _, d⟩ := x; exact ⟨o, e, fun v q => by rw [d] at q; cases q⟩
  | false => obtain ⟨o, e, _, d⟩ := x; exact ⟨o, e, fun v q => by rw [d] at q; cases q⟩
section
variable {X : Cx} {pins : List (Addr × Obj)} {σ : L2.St} {H : Hp} {s : Shared}
theorem sq_is (I : Inv X pins σ H s) {k : Bool} {a : Addr} {xs : List V} (h : SqS k X.K H a xs) : ∃ its : List Value, Vals xs its ∧ isS k s.heap a its.toArray ∧ a < s.heap.objs.size := by
  cases k with
  | true =>
    obtain ⟨its, rv, p, _⟩ := I.list h
    exact ⟨its, rv, p.isList, p.lt⟩
  | false =>
    obtain ⟨its, rv, p, _⟩ := I.tuple h
    exact ⟨its, rv, p, p.lt⟩
theorem sq_inj (I : Inv X pins σ H s) {k : Bool} {a : Addr} {xs ys : List V} (h : SqS k X.K H a xs) (h' : SqS k X.K H a ys) : xs = ys := by
  cases k with
  | true => exact I.list_inj h h'
  | false => exact I.tuple_inj h h'
theorem draws_S {P : Program} {w : World} {A : Around} (hh : A.handled = none) (k : Bool) (it l : Addr) (hne : l ≠ it) (its : Array Value) :
    Draws P w A it [it, l] its.size (fun i v => its[i]? = some v) (fun i h => itS k it l i h ∧ isS k h l its) := by
  cases k with
  | true => exact Draws.list hh it l hne its
  | false => exact Draws.tuple hh it l hne its
/-- the two as they stand at each turn, the items in new pairs -/
def ItzS (K : PySem.W.Frag) (k1 k2 : Bool) (a b : Addr) : It :=
  ⟨fun i H => ∃ (xs ys : List V) (x y : V), SqS k1 K H a xs ∧ SqS k2 K H b ys ∧ xs[i]? = some x ∧ ys[i]? = some y,
    fun i H v H' => ∃ T x y, v = .ref T ∧ H T = none ∧ H' = upd H T (.tup [x, y]) ∧ (∀ xs, SqS k1 K H a xs → xs[i]? = some x) ∧ ∀ ys, SqS k2 K H b ys → ys[i]? = some y,
    fun i H => ∃ xs ys : List V, SqS k1 K H a xs ∧ SqS k2 K H b ys ∧ i ≤ xs.length ∧ i ≤ ys.length ∧ (i = xs.length ∨ i = ys.length)⟩
theorem turn_zipS {P : Program} {w : World} {K : PySem.W.Frag} {elts : List Expr} {kk : Nat} {tpos : Pos} {k1 k2 : Bool} {a b z TI TO i1 i2 : Addr} (D : ZipSep2 z TI TO i1 i2 [i1, a] [i2, b]) :
    Turn P w K (.Tuple elts kk tpos) (ItzS K k1 k2 a b) [z, TI, TO, i1, i2] z (fun i h => IsZip h z TI TO .none ∧ IsTupOf2 h TI (.ref i1) (.ref i2) ∧ (∃ x y, IsTupOf2 h TO x y) ∧ itS k1 i1 a i h ∧ itS k2 i2 b i h) where
  mem := by simp
  obj := fun i h st c hc => by
    obtain ⟨hz, hTI, ⟨x, y, hTO⟩, h1, h2⟩ := st
    have e' : c = z ∨ c = TI ∨ c = TO ∨ c = i1 ∨ c = i2 := by simpa using hc
    rcases e' with q | q | q | q | q <;> subst q
    · exact ⟨_, hz, fun v q => nomatch q⟩
    · exact ⟨_, hTI, fun v q => nomatch q⟩
    · exact ⟨_, hTO, fun v q => nomatch q⟩
    · exact itS_obj h1
    · exact itS_obj h2
  keep := fun i h h' st k => by
    obtain ⟨hz, hTI, ⟨x, y, hTO⟩, h1, h2⟩ := st
    exact ⟨k z (by simp) _ hz, k TI (by simp) _ hTI, ⟨x, y, k TO (by simp) _ hTO⟩, itS_at h1 fun o q => k i1 (by simp) o q, itS_at h2 fun o q => k i2 (by simp) o q⟩
  item := by
    intro X hP hw hK hc i pins s σ H E I hf st hg
    subst hP hw hK
    obtain ⟨hz, hTI, ⟨x0, y0, hTO⟩, h1, h2⟩ := st
    obtain ⟨xs, ys, x, y, hqx, hqy, hx, hy⟩ := hg
    obtain ⟨its, rv, p, la⟩ := sq_is I hqx
    obtain ⟨its2, rv2, p2, lb⟩ := sq_is I hqy
    obtain ⟨u, hu, ru⟩ := rv.get hx
    obtain ⟨u2, hu2, ru2⟩ := rv2.get hy
    have hzl : z < s.heap.objs.size := Heap.lt_size hz
    have ne1 : a ≠ i1 := fun e => by
      subst e
      have n := (hf a (by simp)).1
      cases k1 with
      | true =>
        rcases hqx with (q | ⟨o, q⟩) | ⟨o, its', n', q, hcl, _, hd, _⟩
        · rw [n] at q; cases q
        · rw [n] at q; cases q
        · obtain ⟨o1, e1, c1, d1⟩ := h1
          have := I.kIn _ _ q
          rw [e1] at this; cases this
          rw [hd] at d1; cases d1
      | false =>
        rcases hqx with (q | ⟨o, q⟩) | ⟨o, its', n', q, hcl, hd, _⟩
        · rw [n] at q; cases q
        · rw [n] at q; cases q
        · obtain ⟨o1, e1, c1, d1⟩ := h1
          have := I.kIn _ _ q
          rw [e1] at this; cases this
          rw [hd] at d1; cases d1
    have ne2 : b ≠ i2 := fun e => by
      subst e
      have n := (hf b (by simp)).1
      cases k2 with
      | true =>
        rcases hqy with (q | ⟨o, q⟩) | ⟨o, its', n', q, hcl, _, hd, _⟩
        · rw [n] at q; cases q
        · rw [n] at q; cases q
        · obtain ⟨o1, e1, c1, d1⟩ := h2
          have := I.kIn _ _ q
          rw [e1] at this; cases this
          rw [hd] at d1; cases d1
      | false =>
        rcases hqy with (q | ⟨o, q⟩) | ⟨o, its', n', q, hcl, hd, _⟩
        · rw [n] at q; cases q
        · rw [n] at q; cases q
        · obtain ⟨o1, e1, c1, d1⟩ := h2
          have := I.kIn _ _ q
          rw [e1] at this; cases this
          rw [hd] at d1; cases d1
    have hin : X.A.in1.handled = none := I.ok.hd hc
    have lt1 : i < its.toArray.size := by simpa using (List.getElem?_eq_some_iff.mp hu).1
    have lt2 : i < its2.toArray.size := by simpa using (List.getElem?_eq_some_iff.mp hu2).1
    refine wpAny_pyNext_zipD2_item D (draws_S hin k1 i1 a ne1 its.toArray) (draws_S hin k2 i2 b ne2 its2.toArray) hz hTI hTO ⟨h1, p⟩ ⟨h2, p2⟩ lt1 lt2 fun v1 v2 h' tk e1 e2 z' TO' h1' h2' hT hsz hk => ?_
    have ev1 : v1 = u := by
      have : its[i]? = some v1 := by simpa using e1
      rw [hu] at this; cases this; rfl
    have ev2 : v2 = u2 := by
      have : its2[i]? = some v2 := by simpa using e2
      rw [hu2] at this; cases this; rfl
    subst ev1 ev2
    refine ⟨_, rfl, wpAny_letOwnedTupleGo_zip (s := { s with heap := h', toks := tk }) z' fun h'' z'' sb => ?_⟩
    have hT2 : h''.get? s.heap.objs.size = some { cls := .type "tuple", data := .seq #[v1, v2] } := (sb.2 _ (Nat.ne_of_gt hzl)).trans hT
    have new : ObjOk X.prog X.w (upd H s.heap.objs.size (.tup [x, y])) h'' s.heap.objs.size (.tup [x, y]) :=
      ⟨by show 2 ≤ sizeLine; decide, [v1, v2], .cons ru (.cons ru2 .nil), ⟨_, hT2, rfl, _, rfl⟩⟩
    have I1 : Inv X pins σ (upd H s.heap.objs.size (.tup [x, y])) { s with heap := h'', toks := tk } :=
      I.turnedNew (t' := tk) (ch := [z, TI, TO, i1, i2]) (fun c o hb q => (sb.2 c (fun q' => hb (by simp [q']))).trans (hk c o (fun q' => hb (by simp [q'])) (fun q' => hb (by simp [q'])) (fun q' => hb (by simp [q'])) (fun q' => hb (by simp [q'])) q)) hf (Nat.le_refl _) new
    refine ⟨.ref s.heap.objs.size, _, I1, rfl, ⟨_, x, y, rfl, I.hok.fresh (Nat.le_refl _), rfl, fun l hl => by rw [sq_inj I hl hqx]; exact hx, fun l hl => by rw [sq_inj I hl hqy]; exact hy⟩, ⟨z'', ?_, ⟨v1, v2, ?_⟩, ?_, ?_⟩, fun c hcm => ?_⟩
    · exact (sb.2 _ D.TIz).trans (hk _ _ D.TIz D.TITO D.TIi1 D.TIi2 hTI)
    · exact (sb.2 _ D.TOz).trans TO'
    · exact itS_at h1'.1 fun o q => (sb.2 _ (Ne.symm D.zi1)).trans q
    · exact itS_at h2'.1 fun o q => (sb.2 _ (Ne.symm D.zi2)).trans q
    · have hlt : c < s.heap.objs.size := by
        have e' : c = z ∨ c = TI ∨ c = TO ∨ c = i1 ∨ c = i2 := by simpa using hcm
        rcases e' with q | q | q | q | q
        · rw [q]; exact hzl
        · rw [q]; exact Heap.lt_size hTI
        · rw [q]; exact Heap.lt_size hTO
        · rw [q]; obtain ⟨_, e1, _⟩ := itS_obj h1; exact Heap.lt_size e1
        · rw [q]; obtain ⟨_, e2, _⟩ := itS_obj h2; exact Heap.lt_size e2
      rw [upd_ne (Nat.ne_of_lt hlt)]
      exact (hf c hcm).1
  done := by
    intro X hP hw hK hc i pins s σ H E I hf st hg
    subst hP hw hK
    obtain ⟨hz, hTI, ⟨x0, y0, hTO⟩, h1, h2⟩ := st
    obtain ⟨xs, ys, hqx, hqy, le1, le2, hend⟩ := hg
    obtain ⟨its, rv, p, _⟩ := sq_is I hqx
    obtain ⟨its2, rv2, p2, _⟩ := sq_is I hqy
    have l1 := rv.length
    have l2 := rv2.length
    have hin : X.A.in1.handled = none := I.ok.hd hc
    have ne1 : a ≠ i1 := fun e => by
      subst e
      have n := (hf a (by simp)).1
      cases k1 with
      | true =>
        rcases hqx with (q | ⟨o, q⟩) | ⟨o, its', n', q, hcl, _, hd, _⟩
        · rw [n] at q; cases q
        · rw [n] at q; cases q
        · obtain ⟨o1, e1, c1, d1⟩ := h1
          have := I.kIn _ _ q
          rw [e1] at this; cases this
          rw [hd] at d1; cases d1
      | false =>
        rcases hqx with (q | ⟨o, q⟩) | ⟨o, its', n', q, hcl, hd, _⟩
        · rw [n] at q; cases q
        · rw [n] at q; cases q
        · obtain ⟨o1, e1, c1, d1⟩ := h1
          have := I.kIn _ _ q
          rw [e1] at this; cases this
          rw [hd] at d1; cases d1
    have ne2 : b ≠ i2 := fun e => by
      subst e
      have n := (hf b (by simp)).1
      cases k2 with
      | true =>
        rcases hqy with (q | ⟨o, q⟩) | ⟨o, its', n', q, hcl, _, hd, _⟩
        · rw [n] at q; cases q
        · rw [n] at q; cases q
        · obtain ⟨o1, e1, c1, d1⟩ := h2
          have := I.kIn _ _ q
          rw [e1] at this; cases this
          rw [hd] at d1; cases d1
      | false =>
        rcases hqy with (q | ⟨o, q⟩) | ⟨o, its', n', q, hcl, hd, _⟩
        · rw [n] at q; cases q
        · rw [n] at q; cases q
        · obtain ⟨o1, e1, c1, d1⟩ := h2
          have := I.kIn _ _ q
          rw [e1] at this; cases this
          rw [hd] at d1; cases d1
    exact wpAny_pyNext_zipD2_end D (draws_S hin k1 i1 a ne1 its.toArray) (draws_S hin k2 i2 b ne2 its2.toArray) hz hTI hTO ⟨h1, p⟩ ⟨h2, p2⟩ (by simp; omega) (by simp; omega) (by simp; omega) fun h' tk hk => ⟨rfl, I.turnedL (t' := tk) (ch := [z, TI, TO, i1, i2]) (fun c o hb q =>
      hk c o (fun q' => hb (by simp [q'])) (fun q' => hb (by simp [q'])) (fun q' => hb (by simp [q'])) (fun q' => hb (by simp [q'])) q) hf⟩
  self := fun A i s Q E st h => wpAny_pyIter_zip st.1 h
end
end Sw

end

section
/-! enumerate; how zip and enumerate begin. -/
namespace Sw
open PySem PySem.Spec PyProof.Rows L2
theorem meets_enumB {v : Value} {o : Obj} {Hh : Heap → Prop} (B : Begins v o Hh) :
    Meets (Builtin.«enumerate.__new__» ⟨[.type "enumerate", v], []⟩) (fun _ R s => Hh s.heap ∧
      R (.ok (.ret (.ref (s.heap.push o).objs.size))) { s with heap := (s.heap.push o).push { cls := .type "enumerate", data := .fields #[.none, .bool false, .ref s.heap.objs.size, rawInt 0, .none, .none] } }) :=
  .of_wp fun prog w A R s hh => by
    obtain ⟨hp, g, dr, tk, os⟩ := s
    obtain ⟨h1, h2⟩ := hh
    have hsub := sub_enumerate
    have q1 : ∀ {A' : Around} {E : Value → Shared → Prop} {Q : Value → Shared → Prop}, Q (.ref hp.objs.size) ⟨hp.push o, g, dr, tk, os⟩ → wpAny (model prog w) A' (pyIter v) Q E ⟨hp, g, dr, tk, os⟩ := fun q => B.iter prog w _ _ ⟨hp, g, dr, tk, os⟩ _ h1 q
    wp_walk using q1
    refine wpAny_stack_any fun stk => wpAny_pure ?_
    split
    · rename_i c _ _ _ _ _
      cases (c == Value.type "enumerate")
      all_goals (wp_walk using q1; exact ⟨_, rfl, h2⟩)
    · wp_walk using q1
      exact ⟨_, rfl, h2⟩
section
variable {prog : Program} {w : World} {A : Around} {E : Value → Shared → Prop} {s : Shared}
theorem enum_starts {v : Value} {o : Obj} {Hh : Heap → Prop} {Q : Value → Shared → Prop} (B : Begins v o Hh) (h1 : Hh s.heap)
    (h : ∀ h', IsEnum h' (s.heap.objs.size + 1) s.heap.objs.size 0 .none → h'.get? s.heap.objs.size = some o → h'.objs.size = s.heap.objs.size + 2 → (∀ b o, s.heap.get? b = some o → h'.get? b = some o) → Q (.ref (s.heap.objs.size + 1)) { s with heap := h' }) :
    wpAny (model prog w) A (call (.type "enumerate") [v]) Q E s := by
  refine callType_new F.called_enumerate (by decide) (F.typeCall_enumerate_1 _) (F.newCall_enumerate_1 _) (fun obj => F.args_object_init_2 obj _) F.entry_enumerate_new (meets_enumB B) ⟨h1, ?_⟩
  have hz : (s.heap.push o).objs.size = s.heap.objs.size + 1 := Heap.size_push ..
  show _ ∧ _
  rw [hz]
  have he : IsEnum ((s.heap.push o).push { cls := .type "enumerate", data := .fields #[.none, .bool false, .ref s.heap.objs.size, rawInt 0, .none, .none] }) (s.heap.objs.size + 1) s.heap.objs.size 0 .none := by
    have e := Heap.get?_push_size (s.heap.push o) (o := { cls := .type "enumerate", data := .fields #[.none, .bool false, .ref s.heap.objs.size, rawInt 0, .none, .none] }) rfl
    rw [hz] at e
    exact e
  exact ⟨⟨_, he, rfl⟩, h _ he (Heap.get?_push_of_some _ (Heap.get?_push_size _ B.free)) (by rw [Heap.size_push, hz]) fun b o x => Heap.get?_push_of_some _ (Heap.get?_push_of_some _ x)⟩
end
/-- its iterator, new -/
def newIt (k : Bool) (a : Addr) : Obj := match k with
  | true => { cls := .type "list_iterator", data := .fields #[.ref a, .int 0 0] }
  | false => { cls := .type "tuple_iterator", data := .fields #[.ref a, .int 0 0] }
theorem begins_S (k : Bool) (a : Addr) (its : Array Value) : Begins (.ref a) (newIt k a) fun h => isS k h a its := by
  cases k with
  | true => exact begins_list a its
  | false => exact begins_tuple a its
theorem newIt_it {k : Bool} {a it : Addr} {h : Heap} (e : h.get? it = some (newIt k a)) : itS k it a 0 h := by
  cases k with
  | true => exact ⟨_, e, rfl, rfl⟩
  | false => exact ⟨_, e, rfl, rfl⟩
/-- an iterator is no source -/
theorem src_ne {X : Cx} {pins : List (Addr × Obj)} {σ : L2.St} {H : Hp} {s : Shared} (I : Inv X pins σ H s) {k : Bool} {a it : Addr} {i : Nat} {xs : List V} (hq : SqS k X.K H a xs) (h1 : itS k it a i s.heap) (n : H it = none) : a ≠ it := fun e => by
  subst e
  cases k with
  | true =>
    rcases hq with (q | ⟨o, q⟩) | ⟨o, its', n', q, hcl, _, hd, _⟩
    · rw [n] at q; cases q
    · rw [n] at q; cases q
    · obtain ⟨o1, e1, c1, d1⟩ := h1
      have := I.kIn _ _ q
      rw [e1] at this; cases this
      rw [hd] at d1; cases d1
  | false =>
    rcases hq with (q | ⟨o, q⟩) | ⟨o, its', n', q, hcl, hd, _⟩
    · rw [n] at q; cases q
    · rw [n] at q; cases q
    · obtain ⟨o1, e1, c1, d1⟩ := h1
      have := I.kIn _ _ q
      rw [e1] at this; cases this
      rw [hd] at d1; cases d1
/-- each item in a new pair with its number -/
def IteS (K : PySem.W.Frag) (k : Bool) (a : Addr) : It :=
  ⟨fun i H => ∃ (xs : List V) (x : V), SqS k K H a xs ∧ xs[i]? = some x, fun i H v H' => ∃ T x, v = .ref T ∧ H T = none ∧ H' = upd H T (.tup [.int (i : Nat), x]) ∧ ∀ xs, SqS k K H a xs → xs[i]? = some x, fun i H => ∃ xs : List V, SqS k K H a xs ∧ i = xs.length⟩
theorem turn_enumS {P : Program} {w : World} {K : PySem.W.Frag} {elts : List Expr} {kk : Nat} {tpos : Pos} {k : Bool} (a e it : Addr) (hea : e ≠ a) :
    Turn P w K (.Tuple elts kk tpos) (IteS K k a) [e, it] e (fun i h => (∃ old, IsEnum h e it ((i : Nat) : Int) old) ∧ itS k it a i h ∧ e ≠ it) where
  mem := by simp
  obj := fun i h st b hb => by
    obtain ⟨⟨old, he⟩, h1, _⟩ := st
    have e' : b = e ∨ b = it := by simpa using hb
    rcases e' with z | z <;> subst z
    · exact ⟨_, he, fun v q => nomatch q⟩
    · exact itS_obj h1
  keep := fun i h h' st kp => let ⟨⟨old, he⟩, hi, hne⟩ := st; ⟨⟨old, kp e (by simp) _ he⟩, itS_at hi fun o q => kp it (by simp) o q, hne⟩
  item := by
    intro X hP hw hK hc i pins s σ H E I hf st hg
    subst hP hw hK
    obtain ⟨⟨old, he⟩, hit, hne⟩ := st
    obtain ⟨xs, x, hq, hx⟩ := hg
    obtain ⟨its, rv, p, la⟩ := sq_is I hq
    obtain ⟨u, hu, ru⟩ := rv.get hx
    have hel : e < s.heap.objs.size := Heap.lt_size he
    have hil : it < s.heap.objs.size := by obtain ⟨_, q, _⟩ := itS_obj hit; exact Heap.lt_size q
    have ne1 : a ≠ it := src_ne I hq hit (hf it (by simp)).1
    have hin : X.A.in1.handled = none := I.ok.hd hc
    have lt1 : i < its.toArray.size := by simpa using (List.getElem?_eq_some_iff.mp hu).1
    refine wpAny_pyNext_enum_itemC (draws_S hin k it a ne1 its.toArray) he ⟨hit, p⟩ lt1 hne (by simp [hne, hea]) fun v1 h' tk e1 ho hit' hT hsz hk => ?_
    have ev1 : v1 = u := by
      have : its[i]? = some v1 := by simpa using e1
      rw [hu] at this; cases this; rfl
    subst ev1
    refine ⟨_, rfl, wpAny_letOwnedTupleGo_enum (s := { s with heap := h', toks := tk + 1 }) ho fun h'' he' sb => ?_⟩
    have hT2 : h''.get? s.heap.objs.size = some { cls := .type "tuple", data := .seq #[.int i tk, v1] } := (sb.2 _ (Nat.ne_of_gt hel)).trans hT
    have new : ObjOk X.prog X.w (upd H s.heap.objs.size (.tup [.int (i : Nat), x])) h'' s.heap.objs.size (.tup [.int (i : Nat), x]) :=
      ⟨by show 2 ≤ sizeLine; decide, [.int i tk, v1], .cons ⟨_, rfl⟩ (.cons ru .nil), ⟨_, hT2, rfl, _, rfl⟩⟩
    have I1 : Inv X pins σ (upd H s.heap.objs.size (.tup [.int (i : Nat), x])) { s with heap := h'', toks := tk + 1 } :=
      I.turnedNew (ch := [e, it]) (fun b ob hb q => (sb.2 b (fun z => hb (by simp [z]))).trans (hk b ob (fun z => hb (by simp [z])) (fun z => hb (by simp [z])) q)) hf (Nat.le_refl _) new
    refine ⟨.ref s.heap.objs.size, _, I1, rfl, ⟨_, x, rfl, I.hok.fresh (Nat.le_refl _), rfl, fun ys hy => by rw [sq_inj I hy hq]; exact hx⟩, ⟨⟨v1, ?_⟩, itS_at hit'.1 fun o q => (sb.2 it (Ne.symm hne)).trans q, hne⟩, fun b hb => ?_⟩
    · have e2 : ((i + 1 : Nat) : Int) = (i : Int) + 1 := by omega
      rw [e2]
      exact he'
    · have hb' : b < s.heap.objs.size := by
        have e' : b = e ∨ b = it := by simpa using hb
        rcases e' with z | z <;> rw [z] <;> assumption
      rw [upd_ne (Nat.ne_of_lt hb')]
      exact (hf b hb).1
  done := by
    intro X hP hw hK hc i pins s σ H E I hf st hg
    subst hP hw hK
    obtain ⟨⟨old, he⟩, hit, hne⟩ := st
    obtain ⟨xs, hq, hx⟩ := hg
    obtain ⟨its, rv, p, la⟩ := sq_is I hq
    obtain ⟨f0, f1, f2, f3, f4, f5⟩ := hf it (by simp)
    have hl := rv.length
    have ne1 : a ≠ it := src_ne I hq hit f0
    have hin : X.A.in1.handled = none := I.ok.hd hc
    have en : i = its.toArray.size := by simp; omega
    subst en
    exact wpAny_pyNext_enum_endD (draws_S hin k it a ne1 its.toArray) he ⟨hit, p⟩ fun h' eb => ⟨rfl, I.turned (t' := s.toks) (fun b o hb q => eb b o hb q) f0 f1 f3 f4 f5⟩
  self := fun A i s Q E st h => let ⟨⟨_, he⟩, _⟩ := st; wpAny_pyIter_enum he h
def iEnumS (K : PySem.W.Frag) (ta : TA) : TI := fun σ H R => ta σ H fun vs H1 => ∃ k a xs, vs = [.ref a] ∧ SqS k K H1 a xs ∧ R (IteS K k a) H1
theorem pi_enumS {X : Cx} {e : Expr} {ta : TA} {p pos tpos : Pos} {elts : List Expr} {kk : Nat} (hg : Gl X "enumerate") (hm : X.mg "enumerate" = none) (ha : PA X [e] ta) (hs : starEach [e] X.env = [(false, eval e X.env)]) :
    PI X (.Tuple elts kk tpos) (.Call (.Name "enumerate" p) [e] [] pos) (iEnumS X.K ta) := by
  refine ⟨fun pins s σ H R I h => ?_⟩
  refine Call_ (ld_blt I hg hm boot_enumerate (PyProof.Rows.callWith_type1 (L2.thn (ha.run pos pins s σ H _ I h) fun us s1 ⟨vs, H1, I1, r1, q1⟩ => ?_) hs rfl))
  obtain ⟨k, a, xs, rfl, hq, q⟩ := q1
  obtain ⟨u, rfl, r⟩ := vals1 r1
  cases r
  obtain ⟨its, rv, p', la⟩ := sq_is I1 hq
  refine enum_starts (begins_S k a its.toArray) p' fun h' he hit hsz hk => wpAny_pyIter_enum he ?_
  have I2 : Inv X pins σ H1 { s1 with heap := h' } := I1.kept (t' := s1.toks) hk
  refine ⟨s1.heap.objs.size + 1, [s1.heap.objs.size + 1, s1.heap.objs.size], _, _, H1, rfl, I2, turn_enumS a (s1.heap.objs.size + 1) s1.heap.objs.size (Nat.ne_of_gt (Nat.lt_succ_of_lt la)), ⟨⟨.none, he⟩, newIt_it hit, Nat.succ_ne_self _⟩, fun b hb => ?_, q⟩
  have hle : s1.heap.objs.size ≤ b := by
    have e' : b = s1.heap.objs.size + 1 ∨ b = s1.heap.objs.size := by simpa using hb
    rcases e' with z | z <;> rw [z]
    · exact Nat.le_add_right _ _
    · exact Nat.le_refl _
  exact I1.fpOk hle (I1.hok.fresh hle)
def iZipS (K : PySem.W.Frag) (ta : TA) : TI := fun σ H R => ta σ H fun vs H1 => ∃ k1 k2 a b xs ys, vs = [.ref a, .ref b] ∧ SqS k1 K H1 a xs ∧ SqS k2 K H1 b ys ∧ R (ItzS K k1 k2 a b) H1
theorem pi_zipS {X : Cx} {e e2 : Expr} {ta : TA} {p pos tpos : Pos} {elts : List Expr} {kk : Nat} (hg : Gl X "zip") (hm : X.mg "zip" = none) (ha : PA X [e, e2] ta)
    (hs : starEach [e, e2] X.env = (false, eval e X.env) :: starEach [e2] X.env) (hpl : (backTo pos (starEach [e2] X.env)).any (·.1) = false) :
    PI X (.Tuple elts kk tpos) (.Call (.Name "zip" p) [e, e2] [] pos) (iZipS X.K ta) := by
  refine ⟨fun pins s σ H R I h => ?_⟩
  refine Call_ (ld_blt I hg hm PyProof.Rows.boot_zip (PyProof.Rows.callWith_type1 (L2.thn (ha.run pos pins s σ H _ I h) fun us s1 ⟨vs, H1, I1, r1, q1⟩ => ?_) hs hpl))
  obtain ⟨k1, k2, a, b, xs, ys, rfl, hqx, hqy, q⟩ := q1
  obtain ⟨u1, u2, rfl, r, r'⟩ := vals2 r1
  cases r
  cases r'
  obtain ⟨its, rv, p1, la⟩ := sq_is I1 hqx
  obtain ⟨its2, rv2, p2, lb⟩ := sq_is I1 hqy
  refine zip_begins2 (begins_S k1 a its.toArray) (begins_S k2 b its2.toArray) p1 p2 fun h' hz hTI hTO h1 h2 hsz hk => wpAny_pyIter_zip hz ?_
  have I2 : Inv X pins σ H1 { s1 with heap := h' } := I1.kept (t' := s1.toks) hk
  have sep := zip_sep2 (N := s1.heap.objs.size) (fp1 := [a]) (fp2 := [b]) (by simpa using la) (by simpa using lb)
  refine ⟨s1.heap.objs.size + 4, [s1.heap.objs.size + 4, s1.heap.objs.size + 2, s1.heap.objs.size + 3, s1.heap.objs.size, s1.heap.objs.size + 1], _, _, H1, rfl, I2, turn_zipS sep, ⟨hz, hTI, ⟨_, _, hTO⟩, newIt_it h1, newIt_it h2⟩, fun c hcm => ?_, q⟩
  have hle : s1.heap.objs.size ≤ c := by
    have e' : c = s1.heap.objs.size + 4 ∨ c = s1.heap.objs.size + 2 ∨ c = s1.heap.objs.size + 3 ∨ c = s1.heap.objs.size ∨ c = s1.heap.objs.size + 1 := by simpa using hcm
    rcases e' with z | z | z | z | z <;> rw [z] <;> first | exact Nat.le_add_right _ _ | exact Nat.le_refl _
  exact I1.fpOk hle (I1.hok.fresh hle)
end Sw

end

section
/-! Frozen dicts walked: keys, values, pairs. -/
namespace Sw
open PySem PySem.Spec PyProof.Rows L2
/-- a frozen dict -/
def DFz (D : Wd) (H : Hp) (d : Addr) (o : Obj) (ps : List (PV × PV)) : Prop :=
  (∃ ks, H d = some (.frz o (.dK ks)) ∧ RepK D H ps ks) ∨ ∃ xs, H d = some (.frz o (dN D d xs)) ∧ RepN D H ps xs
section
variable {D : Wd}
theorem DFz.ext {H H' : Hp} {d : Addr} {o : Obj} {ps : List (PV × PV)} (r : DFz D H d o ps) (e : PExt H H') : DFz D H' d o ps := by
  rcases r with ⟨ks, h, r⟩ | ⟨xs, h, r⟩
  · exact .inl ⟨ks, e.frz _ _ _ h, r.ext e⟩
  · exact .inr ⟨xs, e.frz _ _ _ h, r.ext e⟩
theorem RepP.dfz {H : Hp} {ps : List (PV × PV)} {x : V} (r : RepP D H (.dct ps) x) : ∃ d o, x = .ref d ∧ DFz D H d o ps := by
  cases r with
  | dctK h r => exact ⟨_, _, rfl, .inl ⟨_, h, r⟩⟩
  | dctN h r => exact ⟨_, _, rfl, .inr ⟨_, h, r⟩⟩
theorem DFz.rep {H : Hp} {d : Addr} {o : Obj} {ps : List (PV × PV)} (r : DFz D H d o ps) : RepP D H (.dct ps) (.ref d) := by
  rcases r with ⟨ks, h, r⟩ | ⟨xs, h, r⟩
  · exact .dctK h r
  · exact .dctN h r
theorem RepK.get {H : Hp} : ∀ {ps : List (PV × PV)} {ks : List (Key × V)} {i : Nat} {p : PV × PV}, RepK D H ps ks → ps[i]? = some p → ∃ k v, ks[i]? = some (k, v) ∧ RepP D H p.1 (kV k) ∧ RepP D H p.2 v
  | _, _, _, _, .nil, e => by simp at e
  | _, _, 0, _, .consI h _, e => by simp at e; subst e; exact ⟨_, _, rfl, .int _, h⟩
  | _, _, 0, _, .consS h _, e => by simp at e; subst e; exact ⟨_, _, rfl, .str _, h⟩
  | _, _, i + 1, _, .consI _ r, e => by
    obtain ⟨k, v, h1, h2⟩ := RepK.get (i := i) r (by simpa using e)
    exact ⟨k, v, by simpa using h1, h2⟩
  | _, _, i + 1, _, .consS _ r, e => by
    obtain ⟨k, v, h1, h2⟩ := RepK.get (i := i) r (by simpa using e)
    exact ⟨k, v, by simpa using h1, h2⟩
theorem RepK.len {H : Hp} : ∀ {ps : List (PV × PV)} {ks : List (Key × V)}, RepK D H ps ks → ps.length = ks.length
  | _, _, .nil => rfl
  | _, _, .consI _ r => by simp [RepK.len r]
  | _, _, .consS _ r => by simp [RepK.len r]
theorem RepN.get {H : Hp} : ∀ {ps : List (PV × PV)} {ks : List (NestedKey × Addr × V)} {i : Nat} {p : PV × PV}, RepN D H ps ks → ps[i]? = some p → ∃ k q v, ks[i]? = some (k, q, v) ∧ RepP D H p.1 (.ref q) ∧ RepP D H p.2 v
  | _, _, _, _, .nil, e => by simp at e
  | _, _, 0, _, .cons _ _ h1 h2 _, e => by simp at e; subst e; exact ⟨_, _, _, rfl, h1, h2⟩
  | _, _, i + 1, _, .cons _ _ _ _ r, e => by
    obtain ⟨k, q, v, h1, h2⟩ := RepN.get (i := i) r (by simpa using e)
    exact ⟨k, q, v, by simpa using h1, h2⟩
theorem RepN.len {H : Hp} : ∀ {ps : List (PV × PV)} {ks : List (NestedKey × Addr × V)}, RepN D H ps ks → ps.length = ks.length
  | _, _, .nil => rfl
  | _, _, .cons _ _ _ _ r => by simp [RepN.len r]
end
section
variable {X : Cx} {pins : List (Addr × Obj)} {σ : L2.St} {H : Hp} {s : Shared} {D : Wd} {d : Addr} {o : Obj} {ps : List (PV × PV)}
/-- the entries, by their places -/
structure EntsAt (D : Wd) (H : Hp) (es : Array DictEntry) (ps : List (PV × PV)) : Prop where
  size : es.size = ps.length
  at_ : ∀ (i : Nat) (p : PV × PV), ps[i]? = some p → ∃ (hi : i < es.size) (k v : V), RelV k es[i].key ∧ RelV v es[i].val ∧ RepP D H p.1 k ∧ RepP D H p.2 v
theorem dfz_raw (I : Inv X pins σ H s) (hP : D.P = X.prog) (hw : D.w = X.w) (r : DFz D H d o ps) : (d == sysModules) = false ∧ s.heap.get? d = some o ∧ ∃ es ep, o.data = .dict es ep ∧ s.heap.DictRaw d es ep ∧ EntsAt D H es ps := by
  rcases r with ⟨ks, h, r⟩ | ⟨xs, h, r⟩
  · obtain ⟨hs, hgd, hx, es, ep, vs, hdt, hsz, kv, o', es', hd', hx', hdt', hr⟩ := I.frzK h
    rw [hgd] at hd'; cases hd'
    obtain ⟨e1, _⟩ := dict_ep hdt hdt'
    subst e1
    refine ⟨hs, hgd, es', ep, hdt, ⟨o, hgd, hx, hdt⟩, by rw [hsz, r.len], fun i p hp => ?_⟩
    obtain ⟨k, v, h1, h2, h3⟩ := r.get hp
    obtain ⟨u, hu, ru⟩ := kv_get kv h1
    have raw : s.heap.DictOf (mixKind X.prog X.w) d vs := ⟨o, es', ep, hgd, hx, hdt, hr⟩
    obtain ⟨es2, ep2, ⟨o2, g2, _, d2⟩, hz2, hat⟩ := raw.raw
    rw [hgd] at g2; cases g2
    obtain ⟨e2, _⟩ := dict_ep hdt d2
    subst e2
    have hi : i < es2.size := by
      rw [hz2]
      exact (List.getElem?_eq_some_iff.mp hu).1
    obtain ⟨a1, a2⟩ := hat i hi k u hu
    exact ⟨hi, kV k, v, relV_key a1, by rw [a2]; exact ru, h2, h3⟩
  · obtain ⟨hgd, ⟨hl, hs, us, pr, o', es, ep, hg2, hx, hdt, he, _⟩, _⟩ := I.hok d _ h
    rw [hgd] at hg2; cases hg2
    have l1 : es.size = us.length := size_of_entries he
    have l2 : xs.length = us.length := Paired.length pr
    refine ⟨hs, hgd, es, ep, hdt, ⟨o, hgd, hx, hdt⟩, by rw [l1, ← l2, r.len], fun i p hp => ?_⟩
    obtain ⟨k, q, v, h1, h2, h3⟩ := r.get hp
    obtain ⟨⟨k', q', u⟩, hb, e1, e2, e3⟩ := paired_get pr h1
    have hi : i < es.size := by
      rw [l1]
      exact (List.getElem?_eq_some_iff.mp hb).1
    have en := entry_at he i
    rw [hb, Array.getElem?_eq_getElem hi] at en
    have en2 := Option.some.inj en
    simp only at e1 e2 e3
    subst e1 e2
    refine ⟨hi, .ref q, v, ?_, ?_, h2, h3⟩
    · rw [en2]; rfl
    · rw [en2]; exact e3
end
/-- keys; values -/
def ItDk (D : Wd) (d : Addr) (o : Obj) (ps : List (PV × PV)) : It :=
  ⟨fun i H => DFz D H d o ps ∧ i < ps.length, fun i H x H' => H' = H ∧ ∃ p, ps[i]? = some p ∧ RepP D H p.1 x, fun i H => DFz D H d o ps ∧ ps.length ≤ i⟩
def ItDv (D : Wd) (d : Addr) (o : Obj) (ps : List (PV × PV)) : It :=
  ⟨fun i H => DFz D H d o ps ∧ i < ps.length, fun i H x H' => H' = H ∧ ∃ p, ps[i]? = some p ∧ RepP D H p.2 x, fun i H => DFz D H d o ps ∧ ps.length ≤ i⟩
/-- pairs, each a new tuple -/
def ItDi (D : Wd) (d : Addr) (o : Obj) (ps : List (PV × PV)) : It :=
  ⟨fun i H => DFz D H d o ps ∧ i < ps.length, fun i H x H' => ∃ T k v p, ps[i]? = some p ∧ x = .ref T ∧ H T = none ∧ H' = upd H T (.tup [k, v]) ∧ RepP D H p.1 k ∧ RepP D H p.2 v, fun i H => DFz D H d o ps ∧ ps.length ≤ i⟩
section
variable {D : Wd} {K : PySem.W.Frag} {tg : Expr} {d : Addr} {o : Obj} {es : Array DictEntry} {ep : Nat} {ps : List (PV × PV)}
theorem turn_dk (it : Addr) (hod : o.data = .dict es ep) : Turn D.P D.w K tg (ItDk D d o ps) [it] it (fun i h => h.IsKeyIter it d i ps.length ep) where
  mem := by simp
  obj := fun i h st b hb => by
    have e : b = it := by simpa using hb
    subst e
    obtain ⟨oi, e, c, dd⟩ := st
    exact ⟨oi, e, fun v z => by rw [dd] at z; cases z⟩
  keep := fun i h h' st k => st.at fun oi e => k it (by simp) oi e
  item := by
    intro X hP hw hK hc i pins s σ H E I hf st hg
    obtain ⟨hd, hi⟩ := hg
    obtain ⟨f0, f1, f2, f3, f4, f5⟩ := hf it (by simp)
    obtain ⟨hs, hgd, es', ep', hdt, raw, hsz, ent⟩ := dfz_raw I hP.symm hw.symm hd
    obtain ⟨rfl, rfl⟩ := dict_ep hod hdt
    obtain ⟨hi2, k, v, rk, rv, r1, r2⟩ := ent i _ (List.getElem?_eq_getElem hi)
    rw [← hsz] at st
    rw [← hP, ← hw]
    refine wpAny_pyNext_keys_item_raw st raw hi2 fun h' st' sb => ?_
    have I1 : Inv X pins σ H { s with heap := h' } := I.turned (t' := s.toks) (fun b ob hb e => (sb.2 b hb).trans e) f0 f1 f3 f4 f5
    obtain ⟨oi, e, c, dd⟩ := id st'
    refine ⟨_, rfl, go_of (s := { s with heap := h' }) e c dd (by decide) ⟨k, H, I1, rk, ⟨rfl, _, List.getElem?_eq_getElem hi, r1⟩, ?_, fun b hb => (hf b hb).1⟩⟩
    show h'.IsKeyIter it d (i + 1) ps.length _
    rw [← hsz]
    exact st'
  done := by
    intro X hP hw hK hc i pins s σ H E I hf st hg
    obtain ⟨hd, hi⟩ := hg
    obtain ⟨f0, f1, f2, f3, f4, f5⟩ := hf it (by simp)
    obtain ⟨hs, hgd, es', ep', hdt, raw, hsz, ent⟩ := dfz_raw I hP.symm hw.symm hd
    obtain ⟨rfl, rfl⟩ := dict_ep hod hdt
    rw [← hsz] at st
    rw [← hP, ← hw]
    exact wpAny_pyNext_keys_end_raw (I.ok.hd hc) st raw (by omega) fun h' eb => ⟨rfl, I.turned (t' := s.toks) (fun b ob hb e => eb b ob hb e) f0 f1 f3 f4 f5⟩
  self := fun A i s Q E st h => by
    refine wpAny_pyIter_slot st.typeIs F.slot_dict_keyiterator_iter (wpAny_call_entry F.slot_dict_keyiterator_iter st.typeIs F.entry_dict_keyiterator_iter ?_ (F.args_dict_keyiterator_iter_1 _))
    show wpAny _ _ (ret (.ref it)) _ _ s
    exact wpAny_pure ⟨_, rfl, "dict_keyiterator", _, st.typeIs, F.slot_dict_keyiterator_next.lookup, h⟩
theorem turn_dv (it : Addr) (hod : o.data = .dict es ep) : Turn D.P D.w K tg (ItDv D d o ps) [it] it (fun i h => h.IsValIter it d i ps.length ep) where
  mem := by simp
  obj := fun i h st b hb => by
    have e : b = it := by simpa using hb
    subst e
    obtain ⟨oi, e, c, dd⟩ := st
    exact ⟨oi, e, fun v z => by rw [dd] at z; cases z⟩
  keep := fun i h h' st k => st.at fun oi e => k it (by simp) oi e
  item := by
    intro X hP hw hK hc i pins s σ H E I hf st hg
    obtain ⟨hd, hi⟩ := hg
    obtain ⟨f0, f1, f2, f3, f4, f5⟩ := hf it (by simp)
    obtain ⟨hs, hgd, es', ep', hdt, raw, hsz, ent⟩ := dfz_raw I hP.symm hw.symm hd
    obtain ⟨rfl, rfl⟩ := dict_ep hod hdt
    obtain ⟨hi2, k, v, rk, rv, r1, r2⟩ := ent i _ (List.getElem?_eq_getElem hi)
    rw [← hsz] at st
    rw [← hP, ← hw]
    refine wpAny_pyNext_values_item_raw st raw hi2 fun h' st' sb => ?_
    have I1 : Inv X pins σ H { s with heap := h' } := I.turned (t' := s.toks) (fun b ob hb e => (sb.2 b hb).trans e) f0 f1 f3 f4 f5
    obtain ⟨oi, e, c, dd⟩ := id st'
    refine ⟨_, rfl, go_of (s := { s with heap := h' }) e c dd (by decide) ⟨v, H, I1, rv, ⟨rfl, _, List.getElem?_eq_getElem hi, r2⟩, ?_, fun b hb => (hf b hb).1⟩⟩
    show h'.IsValIter it d (i + 1) ps.length _
    rw [← hsz]
    exact st'
  done := by
    intro X hP hw hK hc i pins s σ H E I hf st hg
    obtain ⟨hd, hi⟩ := hg
    obtain ⟨f0, f1, f2, f3, f4, f5⟩ := hf it (by simp)
    obtain ⟨hs, hgd, es', ep', hdt, raw, hsz, ent⟩ := dfz_raw I hP.symm hw.symm hd
    obtain ⟨rfl, rfl⟩ := dict_ep hod hdt
    rw [← hsz] at st
    rw [← hP, ← hw]
    exact wpAny_pyNext_values_end_raw (I.ok.hd hc) st raw (by omega) fun h' eb => ⟨rfl, I.turned (t' := s.toks) (fun b ob hb e => eb b ob hb e) f0 f1 f3 f4 f5⟩
  self := fun A i s Q E st h => wpAny_pyIter_valiter st h
theorem turn_di {elts : List Expr} {kk : Nat} {tpos : Pos} (it : Addr) (hod : o.data = .dict es ep) :
    Turn D.P D.w K (.Tuple elts kk tpos) (ItDi D d o ps) [it] it (fun i h => ∃ ok ov, IsItemIter h it d i ps.length ep ok ov) where
  mem := by simp
  obj := fun i h st b hb => by
    have e : b = it := by simpa using hb
    subst e
    obtain ⟨ok, ov, e⟩ := st
    exact ⟨_, e, fun v z => nomatch z⟩
  keep := fun i h h' st k => let ⟨ok, ov, e⟩ := st; ⟨ok, ov, k it (by simp) _ e⟩
  item := by
    intro X hP hw hK hc i pins s σ H E I hf st hg
    obtain ⟨hd, hi⟩ := hg
    obtain ⟨hs, hgd, es', ep', hdt, raw, hsz, ent⟩ := dfz_raw I hP.symm hw.symm hd
    obtain ⟨rfl, rfl⟩ := dict_ep hod hdt
    obtain ⟨hi2, k, v, rk, rv, r1, r2⟩ := ent i _ (List.getElem?_eq_getElem hi)
    obtain ⟨ok, ov, he⟩ := st
    rw [← hsz] at he
    have hlt : it < s.heap.objs.size := Heap.lt_size he
    rw [← hP, ← hw]
    refine wpAny_pyNext_items_item_raw he raw hi2 fun h' ho hT hz hk => ?_
    refine ⟨_, rfl, wpAny_letOwnedTupleGo_items (s := { s with heap := h' }) ho fun h'' he' sb => ?_⟩
    have hT2 : h''.get? s.heap.objs.size = some { cls := .type "tuple", data := .seq #[es'[i].key, es'[i].val] } := (sb.2 _ (Nat.ne_of_gt hlt)).trans hT
    have new : ObjOk X.prog X.w (upd H s.heap.objs.size (.tup [k, v])) h'' s.heap.objs.size (.tup [k, v]) :=
      ⟨by show 2 ≤ sizeLine; decide, [es'[i].key, es'[i].val], .cons rk (.cons rv .nil), ⟨_, hT2, rfl, _, rfl⟩⟩
    have I1 : Inv X pins σ (upd H s.heap.objs.size (.tup [k, v])) { s with heap := h'' } :=
      I.turnedNew (t' := s.toks) (ch := [it]) (fun b ob hb e => (sb.2 b (by simpa using hb)).trans (hk b ob (by simpa using hb) e)) hf (Nat.le_refl _) new
    refine ⟨.ref s.heap.objs.size, _, I1, rfl, ⟨_, k, v, _, List.getElem?_eq_getElem hi, rfl, I.hok.fresh (Nat.le_refl _), rfl, r1, r2⟩, ⟨es'[i].key, es'[i].val, ?_⟩, fun b hb => ?_⟩
    · rw [← hsz]; exact he'
    · have e : b = it := by simpa using hb
      rw [e, upd_ne (Nat.ne_of_lt hlt)]
      exact (hf it (by simp)).1
  done := by
    intro X hP hw hK hc i pins s σ H E I hf st hg
    obtain ⟨hd, hi⟩ := hg
    obtain ⟨f0, f1, f2, f3, f4, f5⟩ := hf it (by simp)
    obtain ⟨hs, hgd, es', ep', hdt, raw, hsz, ent⟩ := dfz_raw I hP.symm hw.symm hd
    obtain ⟨rfl, rfl⟩ := dict_ep hod hdt
    obtain ⟨ok, ov, he⟩ := st
    rw [← hsz] at he
    rw [← hP, ← hw]
    exact wpAny_pyNext_items_end_raw (I.ok.hd hc) he raw (by omega) fun h' eb => ⟨rfl, I.turned (t' := s.toks) (fun b ob hb e => eb b ob hb e) f0 f1 f3 f4 f5⟩
  self := fun A i s Q E st h => let ⟨_, _, e⟩ := st; PySem.W.kcp_self e h
end
section
variable {X : Cx} {tg e : Expr} {td : TE} {apos cpos : Pos} {ca : Nat → Addr} {xf : Nat → Str}
def iDk (D : Wd) (td : TE) : TI := fun σ H R => td σ H fun x H1 => ∃ d o ps, x = .ref d ∧ DFz D H1 d o ps ∧ R (ItDk D d o ps) H1
def iDv (D : Wd) (td : TE) : TI := fun σ H R => td σ H fun x H1 => ∃ d o ps, x = .ref d ∧ DFz D H1 d o ps ∧ R (ItDv D d o ps) H1
def iDi (D : Wd) (td : TE) : TI := fun σ H R => td σ H fun x H1 => ∃ d o ps, x = .ref d ∧ DFz D H1 d o ps ∧ R (ItDi D d o ps) H1
theorem pi_dv (he : PE X e td) (hbase : attributeBase e "values" X.env (eval e X.env) = eval e X.env) (hline : (apos.endLine == cpos.line) = true) : PI X tg (.Call (.Attribute e "values" apos) [] [] cpos) (iDv (wdOf X ca xf) td) := by
  refine ⟨fun pins s σ H R I h => ?_⟩
  refine wpAny_Call_method (T := "dict") (id := "dict.values") hbase rfl hline F.plainAttrs_dict F.slot_dict_values F.type_dict_values (L2.thn (he.run pins s σ H _ I h) fun u s1 ⟨x, H1, I1, rx, d, o, ps, ex, hd, q⟩ => ?_)
  subst ex
  obtain rfl : u = Value.ref d := rx
  obtain ⟨hs, hgd, es, ep, hdt, raw, hsz, ent⟩ := dfz_raw I1 rfl rfl hd
  refine ⟨raw.typeIs, ?_, ?_⟩
  · obtain ⟨o2, g2, x2, _⟩ := raw
    exact fun a ea => by cases ea; exact ⟨o2, g2, x2.2.1⟩
  have I2 : Inv X pins σ H1 { s1 with heap := s1.heap.push { cls := .type "dict_values", data := .fields #[.ref d] } } := I1.kept (t' := s1.toks) fun b ob q => Heap.get?_push_of_some _ q
  have fin : wpAny (model X.prog X.w) X.A (pyIter (.ref s1.heap.objs.size)) (PIE X pins σ tg R) X.xe { s1 with heap := s1.heap.push { cls := .type "dict_values", data := .fields #[.ref d] } } := by
    refine wpAny_pyIter_values_raw (d := d) ⟨_, Heap.get?_push_size _ rfl, rfl, rfl⟩ (raw.at fun o e => Heap.get?_push_of_some _ e) (pi_one (tk := s1.toks) I2 _ (turn_dv (D := wdOf X ca xf) _ hdt) ⟨_, Heap.get?_push_size _ rfl, rfl, ?_⟩ q)
    rw [hsz] <;> rfl
  show wpAny _ _ (callWith cpos (.builtin "dict.values") [.ref d] [] []) _ X.xe s1
  exact method_meetsIn F.slot_dict_values F.entry_dict_values rfl (PySem.evalArgs_none ⟨rfl, raw.typeIs, F.args_dict_values_1 _, _, meets_dict_values_raw d hs, ⟨es, ep, raw⟩, fin⟩)
theorem pi_di {elts : List Expr} {kk : Nat} {tpos : Pos} (he : PE X e td) (hbase : attributeBase e "items" X.env (eval e X.env) = eval e X.env) (hline : (apos.endLine == cpos.line) = true) :
    PI X (.Tuple elts kk tpos) (.Call (.Attribute e "items" apos) [] [] cpos) (iDi (wdOf X ca xf) td) := by
  refine ⟨fun pins s σ H R I h => ?_⟩
  refine wpAny_Call_method (T := "dict") (id := "dict.items") hbase rfl hline F.plainAttrs_dict F.slot_dict_items F.type_dict_items (L2.thn (he.run pins s σ H _ I h) fun u s1 ⟨x, H1, I1, rx, d, o, ps, ex, hd, q⟩ => ?_)
  subst ex
  obtain rfl : u = Value.ref d := rx
  obtain ⟨hs, hgd, es, ep, hdt, raw, hsz, ent⟩ := dfz_raw I1 rfl rfl hd
  refine ⟨raw.typeIs, ?_, ?_⟩
  · obtain ⟨o2, g2, x2, _⟩ := raw
    exact fun a ea => by cases ea; exact ⟨o2, g2, x2.2.1⟩
  have I2 : Inv X pins σ H1 { s1 with heap := s1.heap.push { cls := .type "dict_items", data := .fields #[.ref d] } } := I1.kept (t' := s1.toks) fun b ob q => Heap.get?_push_of_some _ q
  have fin : wpAny (model X.prog X.w) X.A (pyIter (.ref s1.heap.objs.size)) (PIE X pins σ (.Tuple elts kk tpos) R) X.xe { s1 with heap := s1.heap.push { cls := .type "dict_items", data := .fields #[.ref d] } } := by
    refine wpAny_pyIter_items_raw (d := d) ⟨_, Heap.get?_push_size _ rfl, rfl, rfl⟩ (raw.at fun o e => Heap.get?_push_of_some _ e) (pi_one (tk := s1.toks) I2 _ (turn_di (D := wdOf X ca xf) _ hdt) ⟨.none, .none, ?_⟩ q)
    rw [hsz]
    exact Heap.get?_push_size _ rfl
  show wpAny _ _ (callWith cpos (.builtin "dict.items") [.ref d] [] []) _ X.xe s1
  exact method_meetsIn F.slot_dict_items F.entry_dict_items rfl (PySem.evalArgs_none ⟨rfl, raw.typeIs, F.args_dict_items_1 _, _, meets_dict_items_raw d hs, ⟨es, ep, raw⟩, fin⟩)
/-- what is walked by itself: a list, a tuple, a frozen dict -/
def iAny (D : Wd) (td : TE) : TI := fun σ H R => td σ H fun x H1 => ∃ a, x = .ref a ∧ ((∃ xs, SqL D.K H1 a xs ∧ R (Itl D.K a) H1) ∨ (∃ xs, SqT D.K H1 a xs ∧ R (Itt D.K a) H1) ∨ ∃ o ps, DFz D H1 a o ps ∧ R (ItDk D a o ps) H1)
theorem pi_any (he : PE X e td) : PI X tg e (iAny (wdOf X ca xf) td) := by
  refine ⟨fun pins s σ H R I h => ?_⟩
  refine L2.thn (he.run pins s σ H _ I h) fun v s1 ⟨x, H1, I1, r1, a, ex, q1⟩ => ?_
  subst ex
  cases r1
  have fr : ∀ b ∈ [s1.heap.objs.size], FpOk X pins H1 b := fun b hb => by
    have e : b = s1.heap.objs.size := by simpa using hb
    subst e
    exact I1.fpOk (Nat.le_refl _) (I1.hok.fresh (Nat.le_refl _))
  rcases q1 with ⟨xs, hq, q⟩ | ⟨xs, hq, q⟩ | ⟨o, ps, hd, q⟩
  · obtain ⟨its, rv, p, hz⟩ := I1.list hq
    refine wpAny_pyIter_list p.isList ?_
    exact ⟨s1.heap.objs.size, [s1.heap.objs.size], _, _, H1, rfl, I1.kept (t' := s1.toks) fun b o e => Heap.get?_push_of_some _ e, turn_list a _, ⟨_, Heap.get?_push_size _ rfl, rfl, rfl⟩, fr, q⟩
  · obtain ⟨its, rv, p, hz⟩ := I1.tuple hq
    refine wpAny_pyIter_tuple (show s1.heap.IsTuple a its.toArray from p) ?_
    exact ⟨s1.heap.objs.size, [s1.heap.objs.size], _, _, H1, rfl, I1.kept (t' := s1.toks) fun b o e => Heap.get?_push_of_some _ e, turn_tuple a _, ⟨_, Heap.get?_push_size _ rfl, rfl, rfl⟩, fr, q⟩
  · obtain ⟨hs, hgd, es, ep, hdt, raw, hsz, ent⟩ := dfz_raw I1 rfl rfl hd
    refine wpAny_pyIter_dict_raw hs raw (pi_one (tk := s1.toks) I1 _ (turn_dk (D := wdOf X ca xf) _ hdt) ⟨_, Heap.get?_push_size _ rfl, rfl, ?_⟩ q)
    rw [hsz] <;> rfl
end
end Sw

end

section
/-! What is walked. -/
namespace Sw
open PySem L2
section
variable {D : Wd} {T : Tab} {Γ : Calls} {W : WX} {X : Cx} {e : Expr} {nm : Str → Option Gk} {an : Nat → Str} {fa : Nat → Addr} {d : Nat} {G : Gx}
/-- it gives what stands for xs, one by one -/
def WalkP (D : Wd) (J : It) (xs : List PV) (H0 : Hp) : Prop := Walk J xs.length (fun H => PExt H0 H) (fun i H x H' => Grow D H H' ∧ ∃ p, xs[i]? = some p ∧ RepP D H' p x)
def tI (D : Wd) (T : Tab) (Γ : Calls) (W : WX) (it : I) : TI := fun σ H R => tRes D W (evI T Γ it) (fun xs _ _ H' => ∀ J, WalkP D J xs H' → R J H') σ H
theorem pi_mono {tg iter : Expr} {wi wi' : TI} (h : PI X tg iter wi) (i : ∀ σ H R, wi' σ H R → wi σ H R) : PI X tg iter wi' := ⟨fun pins s σ H R I q => h.run pins s σ H R I (i σ H R q)⟩
theorem walk_pair {J : It} {n : Nat} {ps : List PV} {H0 : Hp} {f g : Nat → Option V} {G : Hp → Prop} (w : Walk J n G (YPair f g)) (hn : n = ps.length) (hG : ∀ H, PExt H0 H → G H)
    (hr : ∀ i H x y, i < n → PExt H0 H → f i = some x → g i = some y → ∃ p q, ps[i]? = some (.tup [p, q]) ∧ RepP D H p x ∧ RepP D H q y) : WalkP D J ps H0 := by
  subst hn
  refine w.mono hG fun i H v H' hi he ⟨t, x, y, ev, ht, eH, hx, hy⟩ => ?_
  obtain ⟨p, q, hp, r1, r2⟩ := hr i H x y hi he hx hy
  subst ev eH
  have px : PExt H (upd H t (.tup [x, y])) := (Ext.fresh (m := []) ht).px
  exact ⟨Grow.fresh ht, _, hp, .tup (.inl (.inl upd_same)) (.cons (r1.ext px) (.cons (r2.ext px) .nil))⟩
theorem zipPV_len : ∀ xs ys : List PV, (zipPV xs ys).length = min xs.length ys.length
  | [], ys => by simp [zipPV]
  | x :: xs, [] => by simp [zipPV]
  | x :: xs, y :: ys => by simp [zipPV, zipPV_len xs ys]
theorem zipPV_get : ∀ {xs ys : List PV} {i : Nat} {x y : PV}, xs[i]? = some x → ys[i]? = some y → (zipPV xs ys)[i]? = some (.tup [x, y])
  | [], _, _, _, _, h, _ => by simp at h
  | _ :: _, [], _, _, _, _, h => by simp at h
  | a :: xs, b :: ys, 0, x, y, h, k => by simp at h k; subst h k; rfl
  | a :: xs, b :: ys, i + 1, x, y, h, k => by
    simp only [List.getElem?_cons_succ] at h k
    simp only [zipPV, List.getElem?_cons_succ]
    exact zipPV_get h k
theorem enumPV_len : ∀ (xs : List PV) (k : Nat), (enumPV k xs).length = xs.length
  | [], _ => rfl
  | x :: xs, k => by simp [enumPV, enumPV_len xs]
theorem enumPV_get : ∀ {xs : List PV} {k i : Nat} {x : PV}, xs[i]? = some x → (enumPV k xs)[i]? = some (.tup [.int ((k + i : Nat) : Int), x])
  | [], _, _, _, h => by simp at h
  | a :: xs, k, 0, x, h => by simp at h; subst h; simp [enumPV]
  | a :: xs, k, i + 1, x, h => by
    simp only [List.getElem?_cons_succ] at h
    simp only [enumPV, List.getElem?_cons_succ]
    rw [enumPV_get h]
    simp
    omega
/-- a list or a tuple, as a source -/
theorem seq_src {H : Hp} {p : PV} {xs : List PV} {v : V} (r : RepP D H p v) (h : seqOf p = some xs) : ∃ k a vs, v = .ref a ∧ SqS k D.K H a vs ∧ RepL D H xs vs ∧ ∀ H', PExt H H' → SqS k D.K H' a vs := by
  cases r <;> simp [seqOf] at h
  · subst h
    rename_i hs rs
    exact ⟨false, _, _, rfl, hs, rs, fun H' e => e.sqT hs⟩
  · subst h
    rename_i hs rs
    exact ⟨true, _, _, rfl, hs.sq, rs, fun H' e => (e.sqF hs).sq⟩
theorem RepL.get' {H : Hp} {ps : List PV} {vs : List V} {i : Nat} {x : V} (r : RepL D H ps vs) (h : vs[i]? = some x) : ∃ p, ps[i]? = some p ∧ RepP D H p x := by
  have hi : i < ps.length := by rw [r.len]; exact (List.getElem?_eq_some_iff.mp h).1
  obtain ⟨y, h1, h2⟩ := r.get (List.getElem?_eq_getElem hi)
  rw [h] at h1
  cases h1
  exact ⟨_, List.getElem?_eq_getElem hi, h2⟩
theorem walkS {K : PySem.W.Frag} {k : Bool} {a : Addr} {vs : List V} : Walk (IteS K k a) vs.length (fun H => SqS k K H a vs) (YPair (fun i => some (.int (i : Nat))) (fun i => vs[i]?)) := by
  refine ⟨fun i _ hi q => ⟨vs, vs[i], q, by simp [hi]⟩, fun _ q => ⟨vs, q, rfl⟩, fun i H v H' _ q y => ?_⟩
  obtain ⟨t, x, h1, h2, h3, h4⟩ := y
  exact ⟨t, .int (i : Nat), x, h1, h2, h3, rfl, h4 vs q⟩
theorem walkZ {K : PySem.W.Frag} {k1 k2 : Bool} {a b : Addr} {xs ys : List V} : Walk (ItzS K k1 k2 a b) (min xs.length ys.length) (fun H => SqS k1 K H a xs ∧ SqS k2 K H b ys) (YPair (fun i => xs[i]?) (fun i => ys[i]?)) := by
  refine ⟨fun i _ hi q => ?_, fun _ q => ⟨xs, ys, q.1, q.2, by omega, by omega, by omega⟩, fun i H v H' _ q y => ?_⟩
  · have h1 : i < xs.length := by omega
    have h2 : i < ys.length := by omega
    exact ⟨xs, ys, xs[i], ys[i], q.1, q.2, by simp [h1], by simp [h2]⟩
  · obtain ⟨t, x, z, h1, h2, h3, h4, h5⟩ := y
    exact ⟨t, x, z, h1, h2, h3, h4 xs q.1, h5 ys q.2⟩
theorem snd_ival (cx : CxOk D T Γ nm an fa d G W X) {a tg : Expr} {c : C} (ha : PE X a (tE D T Γ W c)) : PI X tg a (tI D T Γ W (.val c)) := by
  have hD := cx.wd
  refine pi_mono (pi_any (ca := D.ca) (xf := D.xf) (pe_frz ha)) fun σ H R p => ?_
  refine tRes.thn (ev := evP T Γ c) p fun x h1 m1 H1 ρ S1 R1 q v rv => ?_
  rw [← hD]
  obtain ⟨xs, ex, q⟩ := Post.of q
  have q2 := q.ok S1
  cases rv with
  | tup hs rs =>
    cases ex
    refine ⟨_, rfl, .inr (.inl ⟨_, hs, q2 _ ?_⟩)⟩
    unfold WalkP
    rw [rs.len]
    refine walk_tup.mono (fun H e => e.sqT hs) fun i H y H' hi he ⟨e1, e2⟩ => ?_
    subst e1
    obtain ⟨p, h1, h2⟩ := rs.get' e2
    exact ⟨Grow.refl _, p, h1, h2.ext he⟩
  | lst hs rs =>
    cases ex
    refine ⟨_, rfl, .inl ⟨_, hs.sq, q2 _ ?_⟩⟩
    unfold WalkP
    rw [rs.len]
    refine walk_list.mono (fun H e => (e.sqF hs).sq) fun i H y H' hi he ⟨e1, e2⟩ => ?_
    subst e1
    obtain ⟨p, h1, h2⟩ := rs.get' e2
    exact ⟨Grow.refl _, p, h1, h2.ext he⟩
  | dctK hs rs =>
    cases ex
    have df : DFz D H1 _ _ _ := .inl ⟨_, hs, rs⟩
    refine ⟨_, rfl, .inr (.inr ⟨_, _, df, q2 _ ?_⟩)⟩
    refine ⟨fun i H hi he => ⟨df.ext he, by simpa using hi⟩, fun H he => ⟨df.ext he, by simp⟩, fun i H y H' hi he ⟨e1, p, e2, e3⟩ => ?_⟩
    subst e1
    exact ⟨Grow.refl _, p.1, by simp [e2], e3⟩
  | dctN hs rs =>
    cases ex
    have df : DFz D H1 _ _ _ := .inr ⟨_, hs, rs⟩
    refine ⟨_, rfl, .inr (.inr ⟨_, _, df, q2 _ ?_⟩)⟩
    refine ⟨fun i H hi he => ⟨df.ext he, by simpa using hi⟩, fun H he => ⟨df.ext he, by simp⟩, fun i H y H' hi he ⟨e1, p, e2, e3⟩ => ?_⟩
    subst e1
    exact ⟨Grow.refl _, p.1, by simp [e2], e3⟩
  | _ => cases ex
def isTupE : Expr → Bool
  | .Tuple _ _ _ => true
  | _ => false
theorem snd_ienum (cx : CxOk D T Γ nm an fa d G W X) {a tg : Expr} {c : C} {p pos : Pos} (hg : G.sc.names.lookup ("enumerate" : Str) = some .globalImplicit) (hm : nm "enumerate" = some .free) (ht : isTupE tg = true) (ha : PE X a (tE D T Γ W c)) (hs : noStar a = true) :
    PI X tg (.Call (.Name "enumerate" p) [a] [] pos) (tI D T Γ W (.enum c)) := by
  cases tg <;> first | cases ht | skip
  have hD := cx.wd
  have hK : X.K = D.K := by rw [hD]; rfl
  refine pi_mono (pi_enumS (show X.env.scope.names.lookup ("enumerate" : Str) = _ by rw [cx.sc]; exact hg) (cx.prg.gl _ _ hm) (pa_cons (pe_frz ha) pa_nil (starEach_no hs)) (starEach_no hs)) fun σ H R p => ?_
  refine tRes.thn (ev := evP T Γ c) p fun x h1 m1 H1 ρ S1 R1 q v rv => ?_
  rw [hK]
  cases ex : seqOf x with
  | none => simp only [ex] at q; exact False.elim q
  | some xs =>
    simp only [ex] at q
    obtain ⟨k, a, vs, rfl, hs, rs, st⟩ := seq_src rv ex
    refine ⟨k, a, vs, rfl, hs, q.ok S1 _ ?_⟩
    refine walk_pair walkS (by rw [enumPV_len, rs.len]) st fun i H' y z hi he h1 h2 => ?_
    obtain ⟨p, h3, h4⟩ := rs.get' h2
    cases h1
    exact ⟨.int (i : Nat), p, by rw [enumPV_get h3]; simp, .int _, h4.ext he⟩
theorem snd_izip (cx : CxOk D T Γ nm an fa d G W X) {a b tg : Expr} {c c2 : C} {p pos : Pos} (hg : G.sc.names.lookup ("zip" : Str) = some .globalImplicit) (hm : nm "zip" = some .free) (ht : isTupE tg = true) (ha : PE X a (tE D T Γ W c)) (hb : PE X b (tE D T Γ W c2)) (hs : noStar a = true) (hs2 : noStar b = true) :
    PI X tg (.Call (.Name "zip" p) [a, b] [] pos) (tI D T Γ W (.zip c c2)) := by
  cases tg <;> first | cases ht | skip
  have hD := cx.wd
  have hK : X.K = D.K := by rw [hD]; rfl
  refine pi_mono (pi_zipS (show X.env.scope.names.lookup ("zip" : Str) = _ by rw [cx.sc]; exact hg) (cx.prg.gl _ _ hm) (pa_cons (pe_frz ha) (pa_cons (pe_frz hb) pa_nil (starEach_no hs2)) (starEach_no hs)) (starEach_no hs) (stars_any (by simp [noStars, hs2]))) fun σ H R p => ?_
  refine tRes.thn (ev := evP T Γ c) p fun x h1 m1 H1 ρ S1 R1 q v rv => ?_
  refine ⟨m1, h1, ρ, S1, R1, q.bind.mono fun y h2 m2 H2 e2 S2 q2 w rw_ => ?_⟩
  rw [hK]
  cases ex : seqOf x with
  | none => simp only [ex] at q2; exact False.elim q2
  | some xs =>
    cases ey : seqOf y with
    | none => simp only [ex, ey] at q2; exact False.elim q2
    | some ys =>
      simp only [ex, ey] at q2
      obtain ⟨k, a, vs, rfl, hs, rs, st⟩ := seq_src (rv.ext e2.px) ex
      obtain ⟨k', a', vs', rfl, hs', rs', st'⟩ := seq_src rw_ ey
      refine ⟨k, k', a, a', vs, vs', rfl, hs, hs', q2.ok S2 _ ?_⟩
      refine walk_pair walkZ (by rw [zipPV_len, rs.len, rs'.len]) (fun H' e => ⟨st H' e, st' H' e⟩) fun i H' y z hi he h1 h2 => ?_
      obtain ⟨p, h3, h4⟩ := rs.get' h1
      obtain ⟨p', h3', h4'⟩ := rs'.get' h2
      exact ⟨p, p', zipPV_get h3 h3', h4.ext he, h4'.ext he⟩
theorem snd_irange (cx : CxOk D T Γ nm an fa d G W X) {a tg : Expr} {c : C} {p pos : Pos} (hg : G.sc.names.lookup ("range" : Str) = some .globalImplicit) (hm : nm "range" = some .free) (ha : PE X a (tE D T Γ W c)) (hs : noStar a = true) :
    PI X tg (.Call (.Name "range" p) [a] [] pos) (tI D T Γ W (.range c)) := by
  refine pi_mono (pi_range1 (show X.env.scope.names.lookup ("range" : Str) = _ by rw [cx.sc]; exact hg) (cx.prg.gl _ _ hm) (pa_cons (pe_frz ha) pa_nil (starEach_no hs)) (starEach_no hs)) fun σ H R p => ?_
  refine tRes.thn (ev := evP T Γ c) p fun x h1 m1 H1 ρ S1 R1 q v rv => ?_
  cases rv <;> try exact False.elim q
  rename_i n
  simp only at q
  split at q
  · rename_i hn
    refine ⟨n, rfl, by omega, by omega, q.ok S1 _ ?_⟩
    unfold WalkP rangePV
    rw [List.length_map, List.length_range]
    refine walk_range.mono (fun _ _ => trivial) fun i H y H' hi he ⟨e1, e2⟩ => ?_
    subst e1 e2
    exact ⟨Grow.refl _, .int (i : Nat), by simp [hi], by simp only [Int.zero_add]; exact .int _⟩
  · exact False.elim q
theorem snd_irange2 (cx : CxOk D T Γ nm an fa d G W X) {a b tg : Expr} {c c2 : C} {p pos : Pos} (hg : G.sc.names.lookup ("range" : Str) = some .globalImplicit) (hm : nm "range" = some .free) (ha : PE X a (tE D T Γ W c)) (hb : PE X b (tE D T Γ W c2)) (hs : noStar a = true) (hs2 : noStar b = true) :
    PI X tg (.Call (.Name "range" p) [a, b] [] pos) (tI D T Γ W (.range2 c c2)) := by
  refine pi_mono (pi_range2 (show X.env.scope.names.lookup ("range" : Str) = _ by rw [cx.sc]; exact hg) (cx.prg.gl _ _ hm) (pa_cons (pe_frz ha) (pa_cons (pe_frz hb) pa_nil (starEach_no hs2)) (starEach_no hs)) (by rw [starEach_no hs, starEach_no hs2]; rfl) (starEach_no hs2)) fun σ H R p => ?_
  refine tRes.thn (ev := evP T Γ c) p fun x h1 m1 H1 ρ S1 R1 q v rv => ?_
  refine ⟨m1, h1, ρ, S1, R1, q.bind.mono fun y h2 m2 H2 e2 S2 q2 w rw_ => ?_⟩
  cases rv <;> try exact False.elim q2
  cases rw_ <;> try exact False.elim q2
  rename_i m n
  simp only at q2
  split at q2
  · rename_i hn
    refine ⟨m, n, rfl, ⟨by omega, by omega, by omega, by omega⟩, q2.ok S2 _ ?_⟩
    unfold WalkP
    rw [List.length_map, List.length_range]
    refine walk_range.mono (fun _ _ => trivial) fun i H y H' hi he ⟨e1, e2⟩ => ?_
    subst e1 e2
    exact ⟨Grow.refl _, .int (m + i), by simp [hi], .int _⟩
  · exact False.elim q2
theorem snd_ivalues (cx : CxOk D T Γ nm an fa d G W X) {a tg : Expr} {c : C} {apos cpos : Pos} (hb : plainBase a = true) (hp : (apos.endLine == cpos.line) = true) (ha : PE X a (tE D T Γ W c)) : PI X tg (.Call (.Attribute a "values" apos) [] [] cpos) (tI D T Γ W (.values c)) := by
  have hD := cx.wd
  refine pi_mono (pi_dv (ca := D.ca) (xf := D.xf) (pe_frz ha) (base_plain hb) hp) fun σ H R p => ?_
  refine tRes.thn (ev := evP T Γ c) p fun x h1 m1 H1 ρ S1 R1 q v rv => ?_
  rw [← hD]
  obtain ⟨xs, ex, q⟩ := Post.of q
  have q2 := q.ok S1
  cases x <;> simp [valuesOf] at ex
  subst ex
  obtain ⟨dd, o, rfl, df⟩ := rv.dfz
  refine ⟨dd, o, _, rfl, df, q2 _ ⟨fun i H hi he => ⟨df.ext he, by simpa using hi⟩, fun H he => ⟨df.ext he, by simp⟩, fun i H y H' hi he ⟨e1, p, e2, e3⟩ => ?_⟩⟩
  subst e1
  exact ⟨Grow.refl _, p.2, by simp [e2], e3⟩
theorem snd_iitems (cx : CxOk D T Γ nm an fa d G W X) {a tg : Expr} {c : C} {apos cpos : Pos} (hb : plainBase a = true) (hp : (apos.endLine == cpos.line) = true) (ht : isTupE tg = true) (ha : PE X a (tE D T Γ W c)) : PI X tg (.Call (.Attribute a "items" apos) [] [] cpos) (tI D T Γ W (.items c)) := by
  cases tg <;> first | cases ht | skip
  have hD := cx.wd
  refine pi_mono (pi_di (ca := D.ca) (xf := D.xf) (pe_frz ha) (base_plain hb) hp) fun σ H R p => ?_
  refine tRes.thn (ev := evP T Γ c) p fun x h1 m1 H1 ρ S1 R1 q v rv => ?_
  rw [← hD]
  obtain ⟨xs, ex, q⟩ := Post.of q
  have q2 := q.ok S1
  cases x <;> simp [pairsOf] at ex
  subst ex
  obtain ⟨dd, o, rfl, df⟩ := rv.dfz
  refine ⟨dd, o, _, rfl, df, q2 _ ⟨fun i H hi he => ⟨df.ext he, by simpa using hi⟩, fun H he => ⟨df.ext he, by simp⟩, fun i H y H' hi he ⟨t, k, v, p, e1, e2, e3, e4, r1, r2⟩ => ?_⟩⟩
  subst e2 e4
  have px : PExt H (upd H t (.tup [k, v])) := (Ext.fresh (m := []) e3).px
  exact ⟨Grow.fresh e3, .tup [p.1, p.2], by simp [e1], .tup (.inl (.inl upd_same)) (.cons (r1.ext px) (.cons (r2.ext px) .nil))⟩
end
end Sw

end

section
/-! Instances read and called; len; indices; built-ins of one argument. -/
namespace Sw
open PySem PyProof.Rows L2
/-- an instance, frozen or not -/
def IsO (H : Hp) (a C : Addr) : Prop := (∃ o dx od vs, H a = some (.frz o (SlX.SlO a C dx vs)) ∧ H dx = some (.frz od (.xd []))) ∨ ∃ dx vs, SlX.Slt H a C dx vs
section
variable {X : Cx} {pins : List (Addr × Obj)} {σ : L2.St} {H : Hp} {s : Shared} {a C g p : Addr}
theorem iso_inst (I : Inv X pins σ H s) (h : IsO H a C) : ∃ (ox ob : Obj), PySem.W.InstAt s.heap a ox C (some ob) ∧ ∀ f, PySem.W.lookIn f ob = some Option.none := by
  rcases h with ⟨o, dx, od, vs, h1, h2⟩ | ⟨dx, vs, h⟩
  · obtain ⟨sl, ob, _, J, hl⟩ := obj_inst I h1 h2
    exact ⟨_, ob, J, hl⟩
  · obtain ⟨sl, ob, _, J, hl⟩ := SlX.slt_inst I h
    exact ⟨_, ob, J, hl⟩
theorem iso_meth {A : Around} {E : Value → Shared → Prop} {m : Str} {pl : Sem Bool} {Q : Value × List Value → Shared → Prop} (I : Inv X pins σ H s) (h : IsO H a C) (c : SlX.SCls X.K C) (k : Meth X.K C m g) (q : Q (.ref g, [.ref a]) s) : wpAny (model X.prog X.w) A (getMethod (.ref a) m pl) Q E s := by
  obtain ⟨ox, ob, J, hl⟩ := iso_inst I h
  have pg := PySem.W.plainGet_of (c.get m)
  exact PySem.W.method_fn I.kIn J pg.1 pg.2 k.at_ (beq_iff_eq.mp k.fn) (by show (PySem.W.lookIn m ob).map (·.isSome) = some false; rw [hl m]; rfl) q
theorem iso_run {A : Around} {k : Nat} {fd : FuncData} {ps : List Str} {sp : Sp} {W : WX} {Q : VK} (I : Inv X pins σ H s) (F : FnOk X.prog X.w X.K X.mg X.base (CX X.prog X.w) k g fd ps sp) (hb : Binds X.K fd ps []) (tk : Takes X W) (hr : Room k A) (e0 : Env0 X.prog X.w X.K X.mg X.base A X.stack s H)
    (q : sp [.ref a] H Q (WE W σ)) : codeAny (model X.prog X.w) A (.call (.ref g) ⟨[.ref a], []⟩) (fun r s' => match r with | .ok (.ret v) => EP X pins σ Q v s' | .ok _ => False | .error e => X.xe e s') s := by
  have hl : [Value.ref a].length = ps.length := F.len _ _ _ _ q
  have b := hb s [.ref a] I.kIn (by rw [List.append_nil]; exact hl)
  rw [List.append_nil] at b
  refine codeAny_mono (F.run A X.stack s H ⟨[.ref a], []⟩ [.ref a] [.ref a] Q (WE W σ) hr e0 b (.cons rfl .nil) q) fun r s' hq => ?_
  cases r with
  | error e => exact passAt tk σ pins H s e s' I hq
  | ok fl =>
    cases fl with
    | ret u => exact I.after hq
    | next => exact False.elim hq
    | brk => exact False.elim hq
    | cont => exact False.elim hq
theorem iso_prop {b : Bool} {f : Str} {k : Nat} {fd : FuncData} {ps : List Str} {sp : Sp} {Q : VK} (I : Inv X pins σ H s) (h : IsO H a C) (c : SlX.SCls X.K C) (at_ : PySem.W.findIn X.K (.ref C) f = some (some (.ref p))) (get : PySem.W.specialIn X.K (.ref p) "__get__" = some (some (.builtin "property.__get__")))
    (tk : PySem.W.takesIn X.K (.ref p) = some true) (rc : ∃ rest, PySem.W.recIn X.K p "property" = some (.ref g :: rest)) (F : FnOk X.prog X.w X.K X.mg X.base (CX X.prog X.w) k g fd ps sp) (hb : Binds X.K fd ps []) (hr : Room (k + 1) X.A)
    (q : sp [.ref a] H Q E0) : wpAny (model X.prog X.w) X.A (getAttr (.ref a) f b) (EP X pins σ Q) X.xe s := by
  obtain ⟨ox, ob, J, hl⟩ := iso_inst I h
  obtain ⟨rest, hrec⟩ := rc
  have I1 : Inv X pins σ H { s with toks := s.toks + 1 } := I.tok (s.toks + 1)
  refine PySem.W.get_bind I.kIn J (PySem.W.plainGet_of (c.get f)).1 (PySem.W.findObj_data c.ic at_ get tk) (PySem.W.plainGet_of (c.get f)).2 (wpAny_call (PySem.W.prop_get (s := { s with toks := s.toks + 1 }) I.kIn hrec ?_))
  have hn : [Value.ref a].length = ps.length := F.len _ _ _ _ q
  have bd := hb { s with toks := s.toks + 1 } [.ref a] I1.kIn (by rw [List.append_nil]; exact hn)
  rw [List.append_nil] at bd
  refine codeAny_mono (F.run X.A.in1 X.stack { s with toks := s.toks + 1 } H ⟨[.ref a], []⟩ [.ref a] [.ref a] Q E0 hr.in1 I1.env0.in1 bd (.cons rfl .nil) q) fun r s' hq => ?_
  cases r with
  | error e => exact (passL (X := X.nox) pins σ H _ e s' (I1.wish _) hq).elim
  | ok fl =>
    cases fl with
    | ret u =>
      obtain ⟨v, H', I2, rv, q⟩ := I1.after hq
      exact wpAny_of_eq (PySem.W.handedOut_of (handed_of rv)) ⟨v, H', I2, rv, q⟩
    | next => exact False.elim hq
    | brk => exact False.elim hq
    | cont => exact False.elim hq
/-- len(x) by an own __len__ -/
theorem iso_len {k : Nat} {fd : FuncData} {ps : List Str} {sp : Sp} {W : WX} {Q : VK} (I : Inv X pins σ H s) (h : IsO H a C) (m : Meth X.K C "__len__" g) (F : FnOk X.prog X.w X.K X.mg X.base (CX X.prog X.w) k g fd ps sp) (hb : Binds X.K fd ps []) (tx : Takes X W) (hr : Room (k + 1) X.A)
    (q : sp [.ref a] H (fun v H1 => ∃ n : Int, v = .int n ∧ 0 ≤ n ∧ n < 2 ^ 63 ∧ Q (.int n) H1) (WE W σ)) : wpAny (model X.prog X.w) X.A (call (.builtin "len") [.ref a]) (EP X pins σ Q) X.xe s := by
  obtain ⟨ox, ob, J, hl⟩ := iso_inst I h
  refine Calls.call_function_entry kind_len plain_len entry_len (args_len1 _) ?_
  unfold Builtin.«len»
  refine wpAny_bind (m := oneArg "len" _) (wpAny_pure ?_)
  refine wpAny_bind (m := callSpecial? (.ref a) (Str.ofString "__len__")) (PySem.W.special_fn I.kIn J m.at_ (beq_iff_eq.mp m.fn) (wpAny_mono (wpAny_call (iso_run I F hb tx hr.in1 I.env0.in1 q)) (fun r s' hr2 => ?_) fun _ _ y => y))
  obtain ⟨v, H1, I1, rv, n, rfl, h0, h1, hq⟩ := hr2
  obtain ⟨t, rfl⟩ := rv
  refine wpAny_bind (wpAny_holding (wpAny_pure ?_))
  refine wpAny_bind (wpAny_letGo ?_)
  show wpAny _ _ (if n < 0 then _ else _) _ _ _
  rw [if_neg (by omega)]
  show wpAny _ _ (if n ≥ 2 ^ 63 then _ else _) _ _ _
  rw [if_neg (by omega)]
  exact wpAny_bind (wpAny_mkInt (wpAny_pure ⟨_, rfl, .int n, H1, I1.tok _, ⟨_, rfl⟩, hq⟩))
/-- len of a dict -/
theorem len_raw {d : Addr} {es : Array DictEntry} {ep : Nat} {A : Around} {E : Value → Shared → Prop} {Q : Value → Shared → Prop} (hd : (d == sysModules) = false) (hm : s.heap.DictRaw d es ep) (hfit : (es.size : Int) < 2 ^ 63) (h : ∀ t tk, Q (.int es.size t) { s with toks := tk }) : wpAny (model X.prog X.w) A (call (.builtin "len") [.ref d]) Q E s := by
  refine Calls.call_function_entry kind_len plain_len entry_len (args_len1 _) ?_
  unfold Builtin.«len»
  refine wpAny_bind (m := oneArg "len" _) (wpAny_pure ?_)
  refine wpAny_bind (m := callSpecial? (.ref d) (Str.ofString "__len__")) (wpAny_callSpecial?_slot (name := Str.ofString "__len__") hm.typeIs F.slot_dict_len (call_meetsIn F.slot_dict_len hm.typeIs F.entry_dict_len (F.args_dict_len_1 _) (meets_dict_len_raw d hd) ⟨es, ep, hm, ?_⟩))
  show wpAny _ _ _ _ _ { s with toks := s.toks + 1 }
  refine wpAny_bind (wpAny_holding (wpAny_pure ?_))
  refine wpAny_bind (wpAny_letGo ?_)
  show wpAny _ _ (if ((es.size : Nat) : Int) < 0 then _ else _) _ _ _
  rw [if_neg (by omega)]
  show wpAny _ _ (if ((es.size : Nat) : Int) ≥ 2 ^ 63 then _ else _) _ _ _
  rw [if_neg (by omega)]
  exact wpAny_bind (wpAny_mkInt (wpAny_pure ⟨_, rfl, h _ _⟩))
end
end Sw

end

section
/-! len, indices, fields, methods. -/
namespace Sw
open PySem PyProof.Rows L2
section
variable {D : Wd} {T : Tab} {Γ : Calls} {W : WX} {X : Cx} {e : Expr} {nm : Str → Option Gk} {an : Nat → Str} {fa : Nat → Addr} {d : Nat} {G : Gx}
/-! ### going on with the state at hand -/
/-- what is known behind a piece of code -/
def Mid (D : Wd) (W : WX) (σ : L2.St) {β : Type} (f : Env → Val → Store → Res β) (K : β → Store → Mp → Hp → Prop) : VK := fun x H1 => ∃ m1 h1 ρ v, RepS D m1 H1 h1 ∧ RepEnv D m1 H1 ρ σ ∧ RepV D m1 H1 v x ∧ Post D W σ m1 H1 K (f ρ v h1)
theorem tRes.mid {β : Type} {c : C} {f : Env → Val → Store → Res β} {K : β → Store → Mp → Hp → Prop} {σ : L2.St} {H : Hp} (p : tRes D W (fun ρ h => (evE T Γ c ρ h).bind (f ρ)) K σ H) : tE D T Γ W c σ H (Mid D W σ f K) :=
  tRes.thn (ev := evE T Γ c) p fun a h1 m1 H1 ρ S1 R1 q x rx => ⟨m1, h1, ρ, a, S1, R1, rx, q⟩
theorem ep_fz {pins : List (Addr × Obj)} {σ : L2.St} {Q : VK} {u : Value} {s : Shared} (h : EP X pins σ (FzQ D Q) u s) : EP X pins σ Q u s := by
  obtain ⟨x, H1, I1, rx, m1, h1, v, p, h2, S1, r, ez, k⟩ := h
  obtain ⟨H2, I2, e2, S2, r2⟩ := freeze I1 S1 r ez
  exact ⟨x, H2, I2, rx, k H2 e2 S2 r2⟩
/-- a value by its pure part -/
theorem norm_rep {m : Mp} {H : Hp} {h : Store} {v : Val} {x : V} (S : RepS D m H h) (r : RepV D m H v x) : RepV D m H (norm h v) x := by
  cases r with
  | p hp => exact .p hp
  | @loc l q hq =>
    simp only [norm]
    split
    · rename_i p hp
      exact .p (S.at_ l _ q hp hq)
    · exact .loc hq
theorem norm_loc {h : Store} {v : Val} {l : Nat} (e : norm h v = .loc l) : v = .loc l ∧ ∀ p, h[l]? ≠ some (.fzn p) := by
  cases v with
  | p w => cases e
  | loc k =>
    simp only [norm] at e
    split at e
    · cases e
    · rename_i hn
      cases e
      exact ⟨rfl, fun p hp => hn p hp⟩
/-- an instance of the store -/
theorem loc_obj {m : Mp} {H : Hp} {h : Store} {l c : Nat} {fs : List (Option Val)} {x : V} (S : RepS D m H h) (r : RepV D m H (.loc l) x) (ho : h[l]? = some (.obj c fs)) : ∃ a dx vs, x = .ref a ∧ SlX.Slt H a (D.ca c) dx vs ∧ RepSl D m H fs vs := by
  cases r with
  | @loc _ q hq =>
    obtain ⟨vs, a, _, _, b⟩ := S.at_ l _ q ho hq
    exact ⟨q.1, q.2, vs, rfl, a, b⟩
theorem repSl_get {m : Mp} {H : Hp} : ∀ {fs : List (Option Val)} {vs : List (Option V)} {i : Nat} {v : Val}, RepSl D m H fs vs → fs[i]? = some (some v) → ∃ x, vs[i]? = some (some x) ∧ RepV D m H v x
  | _, _, _, _, .nil, e => by simp at e
  | _, _, 0, _, .none _, e => by simp at e
  | _, _, 0, _, .some h _, e => by simp at e; subst e; exact ⟨_, rfl, h⟩
  | _, _, i + 1, v, .none r, e => by
    obtain ⟨x, h1, h2⟩ := repSl_get (i := i) r (by simpa using e)
    exact ⟨x, by simpa using h1, h2⟩
  | _, _, i + 1, v, .some _ r, e => by
    obtain ⟨x, h1, h2⟩ := repSl_get (i := i) r (by simpa using e)
    exact ⟨x, by simpa using h1, h2⟩
theorem RepO.get {H : Hp} : ∀ {fs : List PV} {vs : List (Option V)} {i : Nat} {p : PV}, RepO D H fs vs → fs[i]? = some p → ∃ x, vs[i]? = some (some x) ∧ RepP D H p x
  | _, _, _, _, .nil, e => by simp at e
  | _, _, 0, _, .cons h _, e => by simp at e; subst e; exact ⟨_, rfl, h⟩
  | _, _, i + 1, v, .cons _ r, e => by
    obtain ⟨x, h1, h2⟩ := RepO.get (i := i) r (by simpa using e)
    exact ⟨x, by simpa using h1, h2⟩
theorem RepP.iso {H : Hp} {c : Nat} {fs : List PV} {x : V} (r : RepP D H (.obj c fs) x) : ∃ a, x = .ref a ∧ IsO H a (D.ca c) := by
  cases r with
  | obj h1 h2 ne ro => exact ⟨_, rfl, .inl ⟨_, _, _, _, h1, h2⟩⟩
/-! ### fields -/
theorem at_cls {c f : Nat} {A : At} (h : T.at c f = some A) : ∃ k, T.cls[c]? = some k ∧ k.ats.lookup f = some A := by
  unfold Tab.at at h
  split at h
  · rename_i k hk; exact ⟨k, hk, h⟩
  · cases h
theorem run_E0 {g : Nat} {ws : List Val} {h h1 : Store} {H : Hp} {m : Mp} {vs : List V} {v : Val} {Q : VK} (S : RepS D m H h) (rs : RepVs D m H ws vs) (er : Γ.run g ws h = .ok v h1) (k : ∀ m' H' x, Ext m H m' H' → RepS D m' H' h1 → RepV D m' H' v x → Q x H') (E : XK) : spS D (Γ.run g) vs H Q E := by
  refine ⟨m, h, ws, S, rs, ?_⟩
  rw [er]
  exact k
/-- a pure call that raises nothing -/
theorem call_E0 {g : Nat} {ps : List PV} {h0 : Store} {H : Hp} {m : Mp} {h : Store} {vs : List V} {p : PV} {Q : VK} (S : RepS D m H h) (rs : RepL D H ps vs) (er : Γ.call g ps = .ok p h0) (k : ∀ H' x, Ext m H m H' → RepS D m H' h → RepP D H' p x → Q x H') (E : XK) : spS D (Γ.run g) vs H (FzQ D Q) E := by
  unfold Calls.call at er
  cases hz : Γ.run g (ps.map .p) [] with
  | bad => rw [hz] at er; cases er
  | exc x h' => rw [hz] at er; cases er
  | ok v h' =>
    rw [hz] at er
    refine run_E0 RepS.empty rs.vs hz (fun m' H' x e S' rv => ?_) E
    refine ⟨m', h', v, p, h0, S', rv, er, fun H2 e2 S2 rp => ?_⟩
    obtain ⟨e1, S1⟩ := (e.trans e2).pure S
    exact k H2 x e1 S1 rp
theorem snd_fld (cx : CxOk D T Γ nm an fa d G W X) {a : Expr} {c : C} {f : Nat} {x : Str} {pos : Pos} (hb : plainBase a = true) (hx : an f = x) (ha : PE X a (tE D T Γ W c)) : PE X (.Attribute a x pos) (tE D T Γ W (.fld c f)) := by
  subst hx
  have hD := cx.wd
  refine ⟨fun pins s σ H Q I p => attr_of (base_plain hb) (L2.thn (ha.run pins s σ H _ I (tRes.mid p)) fun w s1 ⟨x, H1, I1, rx, m1, h1, ρ, v, S1, R1, rv, q⟩ => ?_)⟩
  have rn := norm_rep S1 rv
  dsimp only at q
  generalize hn : norm h1 v = nv at q rn
  cases nv with
  | p pv =>
    cases pv <;> try exact False.elim q
    rename_i k fs
    simp only at q
    cases rn with
    | p rp =>
    obtain ⟨ad, rfl, iso⟩ := rp.iso
    obtain rfl : w = Value.ref ad := rx
    cases ht : T.at k f with
    | none => rw [ht] at q; exact False.elim q
    | some A =>
      rw [ht] at q
      obtain ⟨K, hK, hl⟩ := at_cls ht
      have CA := cx.prg.cls k K hK
      rw [hD] at CA
      cases A with
      | slot i =>
        obtain ⟨z0, e0, q2⟩ := Post.of q
        obtain ⟨z, ez, rfl⟩ := Option.map_eq_some_iff.mp e0
        obtain ⟨pp, sl⟩ := CA.slot f i hl
        cases rp with
        | obj g1 g2 ne ro =>
          obtain ⟨y, hy, ry⟩ := ro.get ez
          exact obj_getslot I1 (by rw [hD] at g1; exact g1) g2 CA.sc sl hy fun u s2 I2 ru => ⟨y, H1, I2, ru, q2.ok S1 y (.p ry)⟩
      | prop g =>
        obtain ⟨pp, h2, h3, h4, h5⟩ := CA.prop f g hl
        obtain ⟨F, hF⟩ := cx.prg.ats k K f g hK (.inr hl)
        obtain ⟨fd, ps, ok, bd, kp⟩ := (cx.prg.fns g F hF).ex
        rw [hD] at ok bd
        simp only at q
        cases hz : Γ.call g [.obj k fs] with
        | bad => rw [hz] at q; exact False.elim q
        | exc _ _ => rw [hz] at q; exact False.elim q
        | ok z h0 =>
          rw [hz] at q
          refine L2.thn (iso_prop I1 (by rw [hD] at iso; exact iso) CA.sc h2 h3 h4 h5 ok bd (cx.room.mono (by omega)) ?_) fun u s2 hq => ep_fz (D := D) hq
          rw [← hD]
          exact call_E0 S1 (.cons rp .nil) hz (fun H' y e' S' ry => q m1 H' e' S' y (.p ry)) E0
      | meth g => exact False.elim q
  | loc l =>
    obtain ⟨rfl, _⟩ := norm_loc hn
    simp only at q
    cases ho : h1[l]? with
    | none => rw [ho] at q; exact False.elim q
    | some eo =>
      rw [ho] at q
      cases eo <;> try exact False.elim q
      rename_i k fs
      simp only at q
      obtain ⟨ad, dx, vs, rfl, slt, rsl⟩ := loc_obj S1 rn ho
      obtain rfl : w = Value.ref ad := rx
      cases ht : T.at k f with
      | none => rw [ht] at q; exact False.elim q
      | some A =>
        rw [ht] at q
        obtain ⟨K, hK, hl⟩ := at_cls ht
        have CA := cx.prg.cls k K hK
        rw [hD] at CA slt
        cases A with
        | slot i =>
          obtain ⟨pp, sl⟩ := CA.slot f i hl
          simp only at q
          cases hf : fs[i]? with
          | none => rw [hf] at q; exact False.elim q
          | some ov =>
            cases ov with
            | none => rw [hf] at q; exact False.elim q
            | some v0 =>
              rw [hf] at q
              obtain ⟨y, hy, ry⟩ := repSl_get rsl hf
              exact SlX.getslot_ok I1 slt CA.sc sl hy fun u s2 I2 ru => ⟨y, H1, I2, ru, q.ok S1 y ry⟩
        | prop g =>
          obtain ⟨pp, h2, h3, h4, h5⟩ := CA.prop f g hl
          obtain ⟨F, hF⟩ := cx.prg.ats k K f g hK (.inr hl)
          obtain ⟨fd, ps, ok, bd, kp⟩ := (cx.prg.fns g F hF).ex
          rw [hD] at ok bd
          simp only at q
          cases hz : Γ.run g [.loc l] h1 with
          | bad => rw [hz] at q; exact False.elim q
          | exc _ _ => rw [hz] at q; exact False.elim q
          | ok z h2' =>
            rw [hz] at q
            refine iso_prop I1 (.inr ⟨dx, vs, slt⟩) CA.sc h2 h3 h4 h5 ok bd (cx.room.mono (by omega)) ?_
            rw [← hD]
            exact run_E0 S1 (.cons rv .nil) hz (fun m' H' y e' S' ry => q m' H' e' S' y ry) E0
        | meth g => exact False.elim q
/-! ### methods -/
theorem cls_iso {m : Mp} {H : Hp} {h : Store} {v : Val} {x : V} {k : Nat} (S : RepS D m H h) (r : RepV D m H v x) (hc : clsOf h v = some k) : ∃ a, x = .ref a ∧ IsO H a (D.ca k) := by
  have rn := norm_rep S r
  unfold clsOf at hc
  generalize norm h v = nv at hc rn
  cases nv with
  | p pv =>
    cases pv <;> simp at hc
    subst hc
    cases rn with
    | p rp => exact rp.iso
  | loc l =>
    simp only at hc
    split at hc
    · rename_i c fs ho
      cases hc
      obtain ⟨a, dx, vs, rfl, slt, _⟩ := loc_obj S rn ho
      exact ⟨a, rfl, .inr ⟨dx, vs, slt⟩⟩
    · cases hc
end
end Sw

end

section
/-! Methods, calls with the store, len, indices, built-ins. -/
namespace Sw
open PySem PyProof.Rows L2
section
variable {D : Wd} {T : Tab} {Γ : Calls} {W : WX} {X : Cx} {e : Expr} {nm : Str → Option Gk} {an : Nat → Str} {fa : Nat → Addr} {d : Nat} {G : Gx}
/-- arguments as they are -/
def tVs (D : Wd) (T : Tab) (Γ : Calls) (W : WX) (as : CL) : TA := fun σ H Q => tRes D W (evVs T Γ as) (fun ws _ m' H' => ∀ xs, RepVs D m' H' ws xs → Q xs H') σ H
theorem RepVs.ext {m m' : Mp} {H H' : Hp} (e : Ext m H m' H') : ∀ {ws : List Val} {xs : List V}, RepVs D m H ws xs → RepVs D m' H' ws xs
  | _, _, .nil => .nil
  | _, _, .cons h r => .cons (h.ext e) (RepVs.ext e r)
theorem snd_nilS (cx : CxOk D T Γ nm an fa d G W X) : PA X [] (tVs D T Γ W .nil) := pa_mono pa_nil fun σ H Q ⟨m, h0, ρ, S, R, p⟩ => Post.ok p S [] .nil
theorem snd_consS (cx : CxOk D T Γ nm an fa d G W X) {es : List Expr} {a : C} {r : CL} (he : PE X e (tE D T Γ W a)) (hr : PA X es (tVs D T Γ W r)) (hn : noStar e = true) : PA X (e :: es) (tVs D T Γ W (.cons a r)) := by
  refine pa_mono (pa_cons he hr (starEach_no hn)) fun σ H Q p => ?_
  refine tRes.thn (ev := evE T Γ a) p fun x h1 m1 H1 ρ S1 R1 q y ry => ?_
  refine ⟨m1, h1, ρ, S1, R1, q.bind.mono fun xs h2 m2 H2 e2 s2 q2 ys rs => ?_⟩
  exact q2.ok s2 (y :: ys) (.cons (ry.ext e2) rs)
/-- the arguments of a call, wherever it stands -/
def ArgR (X : Cx) (es : List Expr) (t : TA) : Prop := ∀ (pins : List (Addr × Obj)) (s : Shared) (σ : L2.St) (H : Hp) (Q : List V → Hp → Prop) (Qf : Value → Shared → Prop) (pos : Pos) (f : Value) (first : List Value), Inv X pins σ H s → PySem.W.keepIn X.K f = true → t σ H Q →
  (∀ us s1 vs H1, Inv X pins σ H1 s1 → Vals vs us → Q vs H1 → wpAny (model X.prog X.w) X.A (call f (first ++ us)) Qf X.xe s1) →
    wpAny (model X.prog X.w) X.A (callWith pos f first (backTo pos (starEach es X.env)) (backToKw pos (keywordEach [] X.env))) Qf X.xe s
theorem argr_nil {t : TA} (h : ∀ σ H Q, t σ H Q → Q [] H) : ArgR X [] t := by
  intro pins s σ H Q Qf pos f first I hk p k
  refine PySem.W.callWith_K0 I.kIn hk ?_
  exact k [] s [] H I .nil (h σ H Q p)
theorem argr_cons {es : List Expr} {t : TA} (ha : PA X (e :: es) t) (hs : noStars (e :: es) = true) : ArgR X (e :: es) t := by
  intro pins s σ H Q Qf pos f first I hk p k
  obtain ⟨h1, h2⟩ := Bool.and_eq_true_iff.mp (show (noStar e && noStars es) = true from hs)
  exact PySem.W.callWith_K (h₀ := X.base) I.ok.mod.kin hk (L2.thn (ha.run pos pins s σ H _ I p) fun us s1 ⟨vs, H1, I1, r, q⟩ => ⟨I1.kIn, k us s1 vs H1 I1 r q⟩) (starEach_no h1) (stars_any h2)
theorem argr_any {es : List Expr} {t : TA} (hn : ∀ σ H Q, es = [] → t σ H Q → Q [] H) (ha : PA X es t) (hs : noStars es = true) : ArgR X es t := by
  cases es with
  | nil => exact argr_nil fun σ H Q => hn σ H Q rfl
  | cons e es => exact argr_cons ha hs
/-- o.m(..), frozen -/
theorem snd_meth (cx : CxOk D T Γ nm an fa d G W X) {a : Expr} {c : C} {m : Nat} {x : Str} {es : List Expr} {as : CL} {apos pos : Pos} (hb : plainBase a = true) (hp : (apos.endLine == pos.line) = true) (hx : an m = x) (ha : PE X a (tE D T Γ W c)) (hA : ArgR X es (tL D T Γ W as)) (hs : noStars es = true) (hl : es.length < 30) :
    PE X (.Call (.Attribute a x apos) es [] pos) (tE D T Γ W (.meth c m as)) := by
  subst hx
  have hD := cx.wd
  refine ⟨fun pins s σ H Q I p => PySem.W.methodCall_KW (L2.thn ((pe_frz ha).run pins s σ H (fun x H1 => ∃ m1 h1 ρ v, RepS D m1 H1 h1 ∧ RepEnv D m1 H1 ρ σ ∧ RepP D H1 v x ∧ Post D W σ m1 H1 (fun a _ m' H' => ∀ x, RepV D m' H' a x → Q x H') _) I (tRes.thn (ev := evP T Γ c) p fun a h1 m1 H1 ρ S1 R1 q x rx => ⟨m1, h1, ρ, a, S1, R1, rx, q⟩)) fun w s1 ⟨x, H1, I1, rx, m1, h1, ρ, v, S1, R1, rv, q⟩ => ?_) (meth_form hb hp (stars_any hs) hl)⟩
  cases v <;> try exact False.elim q
  rename_i k fs
  simp only at q
  obtain ⟨ad, rfl, iso⟩ := rv.iso
  obtain rfl : w = Value.ref ad := rx
  cases ht : T.at k m with
  | none => rw [ht] at q; exact False.elim q
  | some A =>
    rw [ht] at q
    cases A <;> try exact False.elim q
    rename_i g
    simp only at q
    obtain ⟨K, hK, hl⟩ := at_cls ht
    have CA := cx.prg.cls k K hK
    obtain ⟨F, hF⟩ := cx.prg.ats k K m g hK (.inl hl)
    obtain ⟨fd, ps, ok, bd, kp⟩ := (cx.prg.fns g F hF).ex
    have iso2 := iso
    rw [hD] at CA ok bd kp iso2
    refine iso_meth I1 iso2 CA.sc (CA.meth m g hl) (hA pins s1 σ H1 (fun vs H2 => spS D (Γ.run g) (.ref ad :: vs) H2 (FzQ D Q) (WE W σ)) _ pos (.ref (fa g)) [.ref ad] I1 kp ⟨m1, h1, ρ, S1, R1, q.bind.mono fun ps h2 m2 H2 e2 S2 q2 vs rs => ?_⟩ fun us s2 vs H2 I2 r q2 => ?_)
    · exact call_sp (fun _ _ _ _ z => z) S2 (.cons (rv.ext e2.px) rs) q2
    · rw [hD] at q2
      refine L2.thn (run_fnS (E := WE W) ok (cx.room.mono (by omega)) bd (passAt cx.tk σ) I2 (us := .ref ad :: us) (vs := .ref ad :: vs) (.cons rfl r) q2) fun u s3 hq => ?_
      rw [← hD] at hq
      exact ep_fz hq
/-- f(..) with the store -/
theorem call_spS {σ : L2.St} {m : Mp} {H : Hp} {h : Store} {i : Nat} {ws : List Val} {vs : List V} {Q : VK} {k : Val → Store → Mp → Hp → Prop} (hk : ∀ a h' m' H', k a h' m' H' → ∀ x, RepV D m' H' a x → Q x H') (S : RepS D m H h) (rs : RepVs D m H ws vs) (q : Post D W σ m H k (Γ.run i ws h)) :
    spS D (Γ.run i) vs H Q (WE W σ) := by
  refine ⟨m, h, ws, S, rs, ?_⟩
  generalize Γ.run i ws h = z at q ⊢
  cases z with
  | bad => exact q
  | ok v h' => exact fun m' H' x e S' rv => hk _ _ _ _ (q m' H' e S') x rv
  | exc x h' => exact fun m' H' cls dd e S' rx => q m' H' cls dd e S' rx
theorem snd_callS (cx : CxOk D T Γ nm an fa d G W X) {x : Str} {i : Nat} {F : Fn} {es : List Expr} {as : CL} {p pos : Pos} (hg : G.sc.names.lookup x = some .globalImplicit) (hd : (x == ("__debug__" : Str)) = false) (hn : nm x = some (.fn i)) (hF : T.fns[i]? = some F)
    (hA : ArgR X es (tVs D T Γ W as)) : PE X (.Call (.Name x p) es [] pos) (tE D T Γ W (.callS i as)) := by
  obtain ⟨fd, ps, ok, b, kp⟩ := (cx.prg.fns i F hF).ex
  have hD := cx.wd
  have hm : X.mg x = some (.ref (fa i)) := cx.prg.gl x _ hn
  rw [hD] at ok b kp
  refine ⟨fun pins s σ H Q I ⟨m1, h1, ρ, S1, R1, q⟩ => wpAny_Call_Name_kw (ld_glob I (show X.env.scope.names.lookup x = _ by rw [cx.sc]; exact hg) hm ?_ hd)⟩
  refine hA pins s σ H (fun vs H2 => spS D (Γ.run i) vs H2 Q (WE W σ)) _ pos (.ref (fa i)) [] I kp ⟨m1, h1, ρ, S1, R1, (Post.bind q).mono fun ps h2 m2 H2 e2 S2 q2 vs rs => call_spS (fun _ _ _ _ z => z) S2 rs q2⟩ fun us s2 vs H2 I2 r q2 => ?_
  rw [hD] at q2
  exact run_fnS (E := WE W) ok (cx.room.mono (by omega)) b (passAt cx.tk σ) I2 r q2
theorem snd_methS (cx : CxOk D T Γ nm an fa d G W X) {a : Expr} {c : C} {m : Nat} {x : Str} {es : List Expr} {as : CL} {apos pos : Pos} (hb : plainBase a = true) (hp : (apos.endLine == pos.line) = true) (hx : an m = x) (ha : PE X a (tE D T Γ W c)) (hA : ArgR X es (tVs D T Γ W as)) (hs : noStars es = true) (hl : es.length < 30) :
    PE X (.Call (.Attribute a x apos) es [] pos) (tE D T Γ W (.methS c m as)) := by
  subst hx
  have hD := cx.wd
  refine ⟨fun pins s σ H Q I p => PySem.W.methodCall_KW (L2.thn (ha.run pins s σ H _ I (tRes.mid p)) fun w s1 ⟨x, H1, I1, rx, m1, h1, ρ, v, S1, R1, rv, q⟩ => ?_) (meth_form hb hp (stars_any hs) hl)⟩
  dsimp only at q
  cases hc : clsOf h1 v with
  | none => rw [hc] at q; exact False.elim q
  | some k =>
    rw [hc] at q
    obtain ⟨ad, rfl, iso⟩ := cls_iso S1 rv hc
    obtain rfl : w = Value.ref ad := rx
    simp only at q
    cases ht : T.at k m with
    | none => rw [ht] at q; exact False.elim q
    | some A =>
      rw [ht] at q
      cases A <;> try exact False.elim q
      rename_i g
      simp only at q
      obtain ⟨K, hK, hl⟩ := at_cls ht
      have CA := cx.prg.cls k K hK
      obtain ⟨F, hF⟩ := cx.prg.ats k K m g hK (.inl hl)
      obtain ⟨fd, ps, ok, bd, kp⟩ := (cx.prg.fns g F hF).ex
      have iso2 := iso
      rw [hD] at CA ok bd kp iso2
      refine iso_meth I1 iso2 CA.sc (CA.meth m g hl) (hA pins s1 σ H1 (fun vs H2 => spS D (Γ.run g) (.ref ad :: vs) H2 Q (WE W σ)) _ pos (.ref (fa g)) [.ref ad] I1 kp ⟨m1, h1, ρ, S1, R1, q.bind.mono fun ps h2 m2 H2 e2 S2 q2 vs rs => ?_⟩ fun us s2 vs H2 I2 r q2 => ?_)
      · exact call_spS (fun _ _ _ _ z => z) S2 (.cons (rv.ext e2) rs) q2
      · rw [hD] at q2
        exact run_fnS (E := WE W) ok (cx.room.mono (by omega)) bd (passAt cx.tk σ) I2 (us := .ref ad :: us) (vs := .ref ad :: vs) (.cons rfl r) q2
/-! ### indices -/
def plainIxE : Expr → Bool
  | .Slice _ _ _ _ => false
  | _ => true
theorem plainIx_of {b : Expr} (h : plainIxE b = true) : PlainIx b := fun o i => by
  cases b <;> first | rfl | cases h
theorem atI_rep {H : Hp} {ps : List PV} {xs : List V} {i : Int} {p : PV} (r : RepL D H ps xs) (h : atI ps i = some p) : ∃ x, atI xs i = some x ∧ RepP D H p x := by
  unfold atI at h ⊢
  rw [r.len] at h
  cases hj : ixN xs.length i with
  | none => rw [hj] at h; cases h
  | some j => rw [hj] at h; exact r.get h
theorem snd_idx (cx : CxOk D T Γ nm an fa d G W X) {a b : Expr} {ca cb : C} {pos : Pos} (ha : PE X a (tE D T Γ W ca)) (hb : PE X b (tE D T Γ W cb)) (hs : plainIxE b = true) : PE X (.Subscript a b pos) (tE D T Γ W (.idx ca cb)) := by
  have hD := cx.wd
  have hK : X.K = D.K := by rw [hD]; rfl
  refine pe_mono (pe_ix ((ix_list.or (ix_tup.or ix_str)).or (ix_dict (ca := D.ca) (xf := D.xf) cx.room.units)) ha (pe_frz hb) (plainIx_of hs)) fun σ H Q p => ?_
  refine tRes.thn (ev := evE T Γ ca) p fun u h1 m1 H1 ρ S1 R1 q vx rx => ?_
  refine ⟨m1, h1, ρ, S1, R1, q.bind.mono fun y h2 m2 H2 e2 S2 q2 vy ry => ?_⟩
  obtain ⟨x, ex, q3⟩ := vw_ok q2
  obtain ⟨z0, ez0, q4⟩ := Post.of q3
  obtain ⟨z, ez, rfl⟩ := Option.map_eq_some_iff.mp ez0
  have rw_ := view_rep S2 ex (rx.ext e2)
  have fin : ∀ w, RepP D H2 z w → Q w H2 := fun w r => q4.ok S2 w (.p r)
  rw [hK, ← hD]
  cases x with
  | tup xs =>
    cases y <;> simp [idx2] at ez
    obtain ⟨a, vs, rfl, hs, rs⟩ := tupW rw_
    obtain ⟨w, h3, h4⟩ := atI_rep rs ez
    cases ry
    exact .inl (.inr (.inl ⟨a, vs, _, w, rfl, rfl, hs, h3, fin w h4⟩))
  | lst xs =>
    cases y <;> simp [idx2] at ez
    obtain ⟨a, vs, rfl, hs, rs⟩ := seqW rw_
    obtain ⟨w, h3, h4⟩ := atI_rep rs ez
    cases ry
    exact .inl (.inl ⟨a, vs, _, w, rfl, rfl, hs, h3, fin w h4⟩)
  | str zz =>
    cases y <;> simp [idx2] at ez
    obtain ⟨hz, c, h3, rfl⟩ := ez
    cases ry
    cases rw_ with
    | p rw_ =>
      cases rw_
      exact .inl (.inr (.inr ⟨zz, _, c, rfl, rfl, by rw [← sizeMax_eq]; exact hz, h3, fin _ (.str _)⟩))
  | dct kvs =>
    simp only [idx2] at ez
    split at ez
    · rename_i hf
      exact .inr ⟨y, kvs, z, rw_, ry, hf, ez, fin⟩
    · cases ez
  | _ => simp [idx2] at ez
end
end Sw

end

section
/-! len; built-ins of one argument. -/
namespace Sw
open PySem PyProof.Rows L2
section
variable {D : Wd} {T : Tab} {Γ : Calls} {W : WX} {X : Cx} {e : Expr} {nm : Str → Option Gk} {an : Nat → Str} {fa : Nat → Addr} {d : Nat} {G : Gx}
theorem iso_lenF {pins : List (Addr × Obj)} {σ : L2.St} {H : Hp} {s : Shared} {a C g : Addr} {k : Nat} {fd : FuncData} {ps : List Str} {sp : Sp} {W : WX} {Q : VK} (I : Inv X pins σ H s) (h : IsO H a C) (m : Meth X.K C "__len__" g) (F : FnOk X.prog X.w X.K X.mg X.base (CX X.prog X.w) k g fd ps sp) (hb : Binds X.K fd ps []) (tx : Takes X W) (hr : Room (k + 1) X.A)
    (q : sp [.ref a] H (FzQ D fun v H1 => ∃ n : Int, v = .int n ∧ 0 ≤ n ∧ n < 2 ^ 63 ∧ Q (.int n) H1) (WE W σ)) : wpAny (model X.prog X.w) X.A (call (.builtin "len") [.ref a]) (EP X pins σ Q) X.xe s := by
  obtain ⟨ox, ob, J, hl⟩ := iso_inst I h
  refine Calls.call_function_entry kind_len plain_len entry_len (args_len1 _) ?_
  unfold Builtin.«len»
  refine wpAny_bind (m := oneArg "len" _) (wpAny_pure ?_)
  refine wpAny_bind (m := callSpecial? (.ref a) (Str.ofString "__len__")) (PySem.W.special_fn I.kIn J m.at_ (beq_iff_eq.mp m.fn) (wpAny_mono (wpAny_call (iso_run I F hb tx hr.in1 I.env0.in1 q)) (fun r s' hr2 => ?_) fun _ _ y => y))
  obtain ⟨v, H1, I1, rv, n, rfl, h0, h1, hq⟩ := ep_fz hr2
  obtain ⟨t, rfl⟩ := rv
  refine wpAny_bind (wpAny_holding (wpAny_pure ?_))
  refine wpAny_bind (wpAny_letGo ?_)
  show wpAny _ _ (if n < 0 then _ else _) _ _ _
  rw [if_neg (by omega)]
  show wpAny _ _ (if n ≥ 2 ^ 63 then _ else _) _ _ _
  rw [if_neg (by omega)]
  exact wpAny_bind (wpAny_mkInt (wpAny_pure ⟨_, rfl, .int n, H1, I1.tok _, ⟨_, rfl⟩, hq⟩))
theorem dct_rawW {ca : Nat → Addr} {xf : Nat → Str} {pins : List (Addr × Obj)} {σ : L2.St} {H : Hp} {s : Shared} {kvs : List (PV × PV)} {x : V} (I : Inv X pins σ H s) (r : RepW (wdOf X ca xf) H (.dct kvs) x) : ∃ a es ep, x = .ref a ∧ (a == sysModules) = false ∧ s.heap.DictRaw a es ep ∧ es.size = kvs.length ∧ es.size ≤ sizeLine := by
  cases r with
  | p r =>
    obtain ⟨dd, o, rfl, df⟩ := r.dfz
    obtain ⟨hs, hgd, es, ep, hdt, raw, hsz, _⟩ := dfz_raw I rfl rfl df
    refine ⟨dd, es, ep, rfl, hs, raw, hsz, ?_⟩
    rcases df with ⟨ks, h, r⟩ | ⟨xs, h, r⟩
    · obtain ⟨_, z, _⟩ := I.hok dd _ h
      rw [hsz, r.len]; exact z
    · obtain ⟨_, ⟨z, _⟩, _⟩ := I.hok dd _ h
      rw [hsz, r.len]; exact z
  | dctK h r =>
    obtain ⟨z, hs, vs, kv, dd⟩ := I.hok _ _ h
    obtain ⟨es, ep, raw, hz, _⟩ := dd.raw
    have l := Paired.length kv
    have := r.len
    exact ⟨_, es, ep, rfl, hs, raw, by omega, by omega⟩
  | dctN h r =>
    obtain ⟨⟨z, hs, us, pr, o', es, ep, hg2, hx, hdt, he, _⟩, _⟩ := I.hok _ _ h
    have l1 : es.size = us.length := size_of_entries he
    have l2 := Paired.length pr
    have := r.len
    exact ⟨_, es, ep, rfl, hs, ⟨o', hg2, hx, hdt⟩, by omega, by omega⟩
/-- what len asks -/
def rLenP (D : Wd) (T : Tab) (Γ : Calls) (W : WX) (σ : L2.St) (x : V) (H : Hp) (Q : VK) : Prop :=
  (∃ a ys, x = .ref a ∧ (SqL D.K H a ys ∨ SqT D.K H a ys) ∧ Q (.int ys.length) H) ∨ (∃ z : Str, x = .str z ∧ z.length ≤ sizeLine ∧ Q (.int z.length) H) ∨ (∃ kvs, RepW D H (.dct kvs) x ∧ Q (.int kvs.length) H) ∨
    ∃ a k K g, x = .ref a ∧ IsO H a (D.ca k) ∧ T.cls[k]? = some K ∧ K.len = some g ∧ spS D (Γ.run g) [.ref a] H (FzQ D fun v H1 => ∃ n : Int, v = .int n ∧ 0 ≤ n ∧ n < 2 ^ 63 ∧ Q (.int n) H1) (WE W σ)
theorem snd_len (cx : CxOk D T Γ nm an fa d G W X) {a : Expr} {c : C} {p pos : Pos} (hg : G.sc.names.lookup ("len" : Str) = some .globalImplicit) (hm : nm "len" = some .free) (ha : PE X a (tE D T Γ W c)) (hs : noStar a = true) : PE X (.Call (.Name "len" p) [a] [] pos) (tE D T Γ W (.len c)) := by
  have hD := cx.wd
  refine ⟨fun pins s σ H Q I pp => ?_⟩
  have mid : tE D T Γ W c σ H (fun x H1 => rLenP D T Γ W σ x H1 Q) := by
    refine tRes.thn (ev := evE T Γ c) pp fun v h1 m1 H1 ρ S1 R1 q x rv => ?_
    have rn := norm_rep S1 rv
    generalize hn : norm h1 v = nv at q rn
    cases nv with
    | p pv =>
      cases rn with
      | p rp =>
      cases pv with
      | tup xs =>
        obtain ⟨a, vs, rfl, hs, rs⟩ := tupW (.p rp)
        exact .inl ⟨a, vs, rfl, .inr hs, by rw [← rs.len]; exact q.ok S1 _ (.p (.int _))⟩
      | lst xs =>
        obtain ⟨a, vs, rfl, hs, rs⟩ := seqW (.p rp)
        exact .inl ⟨a, vs, rfl, .inl hs, by rw [← rs.len]; exact q.ok S1 _ (.p (.int _))⟩
      | dct kvs => exact .inr (.inr (.inl ⟨kvs, .p rp, q.ok S1 _ (.p (.int _))⟩))
      | str z =>
        simp only at q
        split at q
        · rename_i hz
          cases rp
          exact .inr (.inl ⟨z, rfl, by rw [← sizeMax_eq]; exact hz, q.ok S1 _ (.p (.int _))⟩)
        · exact False.elim q
      | obj k fs =>
        simp only at q
        cases hlen : T.lenOf k with
        | none => rw [hlen] at q; exact False.elim q
        | some g =>
          rw [hlen] at q
          simp only at q
          unfold Tab.lenOf at hlen
          cases hK : T.cls[k]? with
          | none => rw [hK] at hlen; cases hlen
          | some K =>
            rw [hK] at hlen
            cases hz : Γ.call g [.obj k fs] with
            | bad => rw [hz] at q; exact False.elim q
            | exc _ _ => rw [hz] at q; exact False.elim q
            | ok z h0 =>
              rw [hz] at q
              cases z <;> try exact False.elim q
              rename_i n
              simp only at q
              split at q
              · rename_i hb
                obtain ⟨ad, rfl, iso⟩ := rp.iso
                refine .inr (.inr (.inr ⟨ad, k, K, g, rfl, iso, hK, hlen, call_E0 S1 (.cons rp .nil) hz (fun H' y e' S' ry => ?_) _⟩))
                cases ry
                exact ⟨n, rfl, hb.1, by omega, q m1 H' e' S' _ (.p (.int n))⟩
              · exact False.elim q
      | _ => exact False.elim q
    | loc l =>
      obtain ⟨rfl, _⟩ := norm_loc hn
      simp only at q
      cases ho : h1[l]? with
      | none => rw [ho] at q; exact False.elim q
      | some eo =>
        rw [ho] at q
        cases eo with
        | lst xs =>
          have rw_ := view_rep S1 (v := .loc l) (a := .lst xs) (by simp [view, ho]) rn
          obtain ⟨a, vs, rfl, hs, rs⟩ := seqW rw_
          exact .inl ⟨a, vs, rfl, .inl hs, by rw [← rs.len]; exact q.ok S1 _ (.p (.int _))⟩
        | dct kvs =>
          have rw_ := view_rep S1 (v := .loc l) (a := .dct kvs) (by simp [view, ho]) rn
          exact .inr (.inr (.inl ⟨kvs, rw_, q.ok S1 _ (.p (.int _))⟩))
        | fzn p => exact False.elim q
        | obj k fs =>
          simp only at q
          cases hlen : T.lenOf k with
          | none => rw [hlen] at q; exact False.elim q
          | some g =>
            rw [hlen] at q
            simp only at q
            unfold Tab.lenOf at hlen
            cases hK : T.cls[k]? with
            | none => rw [hK] at hlen; cases hlen
            | some K =>
              rw [hK] at hlen
              cases hz : Γ.run g [.loc l] h1 with
              | bad => rw [hz] at q; exact False.elim q
              | exc _ _ => rw [hz] at q; exact False.elim q
              | ok z h2 =>
                rw [hz] at q
                cases z <;> try exact False.elim q
                rename_i pz
                cases pz <;> try exact False.elim q
                rename_i n
                simp only at q
                split at q
                · rename_i hb
                  obtain ⟨ad, dx, vs, rfl, slt, rsl⟩ := loc_obj S1 rn ho
                  refine .inr (.inr (.inr ⟨ad, k, K, g, rfl, .inr ⟨dx, vs, slt⟩, hK, hlen, run_E0 S1 (.cons rn .nil) hz (fun m' H' y e' S' ry => ?_) _⟩))
                  refine ⟨m', h2, .p (.int n), .int n, h2, S', ry, rfl, fun H2 e2 S2 rp => ?_⟩
                  cases rp
                  exact ⟨n, rfl, hb.1, by omega, q m' H2 (e'.trans e2) S2 _ (.p (.int n))⟩
                · exact False.elim q
  have hK : X.K = D.K := by rw [hD]; rfl
  refine Call_ (ld_blt I (show X.env.scope.names.lookup ("len" : Str) = _ by rw [cx.sc]; exact hg) (cx.prg.gl _ _ hm) boot_len (PyProof.Rows.callWith_builtin1 (one_arg ha I mid (fun v s2 x H2 I2 r q => ?_) (starEach_no hs)) (starEach_no hs)))
  rcases q with ⟨a, ys, rfl, h, q⟩ | ⟨z, rfl, h, q⟩ | ⟨kvs, h, q⟩ | ⟨a, k, K, g, rfl, iso, hk, hlen, q⟩
  · exact call_len_seq pins s2 σ H2 [.ref a] [v] Q I2 (.cons r .nil) ⟨a, ys, rfl, by rw [hK]; exact h, q⟩
  · exact call_len_str pins s2 σ H2 [.str z] [v] Q I2 (.cons r .nil) ⟨z, rfl, h, q⟩
  · rw [hD] at h
    obtain ⟨a, es, ep, rfl, hsm, raw, hz, hle⟩ := dct_rawW I2 h
    obtain rfl : v = Value.ref a := r
    refine len_raw (X := X) hsm raw (by have := sizeLine_eq; omega) fun t tk => ⟨.int es.size, H2, I2.tok _, ⟨_, rfl⟩, by rw [hz]; exact q⟩
  · obtain rfl : v = Value.ref a := r
    have CA := cx.prg.cls k K hk
    obtain ⟨F, hF⟩ := cx.prg.lens k K g hk hlen
    obtain ⟨fd, ps, ok, bd, kp⟩ := (cx.prg.fns g F hF).ex
    have iso2 := iso
    rw [hD] at CA ok bd iso2 q
    exact iso_lenF (D := wdOf X D.ca D.xf) I2 iso2 (CA.len g hlen) ok bd cx.tk (cx.room.mono (by omega)) q
/-! ### built-ins of one argument -/
theorem bf_sum (hK : X.K = D.K) : BiFits D .sum (fun xs H Q => rSum X.K xs H Q ∨ rSumT X.K xs H Q) := by
  intro p z H v Q rp e k
  cases p <;> simp [bi1] at e
  · obtain ⟨ns, h1, rfl⟩ := e
    obtain ⟨a, xs, rfl, hs, rl⟩ := tupW rp
    rw [nums_rep h1 rl] at hs
    exact .inr ⟨a, ns, rfl, by rw [hK]; exact hs, k _ H (Grow.refl H) (.int _)⟩
  · obtain ⟨ns, h1, rfl⟩ := e
    obtain ⟨a, xs, rfl, hs, rl⟩ := seqW rp
    rw [nums_rep h1 rl] at hs
    exact .inl ⟨a, ns, rfl, by rw [hK]; exact hs, k _ H (Grow.refl H) (.int _)⟩
def biOf (x : Str) : Option Bi := if x = "abs" then some .abs else if x = "int" then some .int else if x = "all" then some .all else if x = "any" then some .any else if x = "sum" then some .sum else if x = "tuple" then some .tuple else if x = "list" then some .list else none
theorem snd_bi (cx : CxOk D T Γ nm an fa d G W X) {b : Bi} {x : Str} {a : Expr} {c : C} {p pos : Pos} (hx : biOf x = some b) (hg : G.sc.names.lookup x = some .globalImplicit) (hm : nm x = some .free) (ha : PE X a (tE D T Γ W c)) (hs : noStar a = true) : PE X (.Call (.Name x p) [a] [] pos) (tE D T Γ W (.bi b c)) := by
  have hK : X.K = D.K := by rw [cx.wd]; rfl
  have hc := cx.calm
  unfold biOf at hx
  split at hx
  · rename_i e; cases hx; subst e
    exact snd_biB cx call_abs bf_abs (by decide +kernel) hg hm (by decide +kernel) (by decide +kernel) ha hs
  split at hx
  · rename_i e; cases hx; subst e
    exact snd_biT cx call_int1 bf_int (by decide +kernel) hg hm (by decide +kernel) (by decide +kernel) ha hs
  split at hx
  · rename_i e; cases hx; subst e
    exact snd_biB cx (cr_all hc) (bf_all hK) (by decide +kernel) hg hm (by decide +kernel) (by decide +kernel) ha hs
  split at hx
  · rename_i e; cases hx; subst e
    exact snd_biB cx (cr_any hc) (bf_any hK) (by decide +kernel) hg hm (by decide +kernel) (by decide +kernel) ha hs
  split at hx
  · rename_i e; cases hx; subst e
    exact snd_biB cx ((cr_sum hc).or (cr_sumT hc)) (bf_sum hK) (by decide +kernel) hg hm (by decide +kernel) (by decide +kernel) ha hs
  split at hx
  · rename_i e; cases hx; subst e
    exact snd_biT cx call_tuple_of (bf_tuple hK) (by decide +kernel) hg hm (by decide +kernel) (by decide +kernel) ha hs
  split at hx
  · rename_i e; cases hx; subst e
    exact snd_biL cx call_list_of (bf_list hK) (by decide +kernel) hg hm (by decide +kernel) (by decide +kernel) ha hs
  cases hx
theorem rgV_rep {H : Hp} {n : Int} : RepL D H (rangePV n) (rgV 0 n) := by
  unfold rangePV rgV
  rw [Int.sub_zero]
  induction (List.range n.toNat) with
  | nil => exact .nil
  | cons i r ih => exact .cons (by show RepP D H (.int i) (.int (0 + i)); rw [Int.zero_add]; exact .int _) ih
theorem snd_rangeL (cx : CxOk D T Γ nm an fa d G W X) {a : Expr} {c : C} {p p2 pos pos2 : Pos} (hg : G.sc.names.lookup ("list" : Str) = some .globalImplicit) (hm : nm "list" = some .free) (hg2 : G.sc.names.lookup ("range" : Str) = some .globalImplicit) (hm2 : nm "range" = some .free) (ha : PE X a (tE D T Γ W c)) (hs : noStar a = true) :
    PE X (.Call (.Name "list" p) [.Call (.Name "range" p2) [a] [] pos2] [] pos) (tE D T Γ W (.bi .rangeL1 c)) := by
  refine pe_mono (pe_lockd (pe_listRg cx.calm (show X.env.scope.names.lookup ("list" : Str) = _ by rw [cx.sc]; exact hg) (cx.prg.gl _ _ hm) (prg_1 (show X.env.scope.names.lookup ("range" : Str) = _ by rw [cx.sc]; exact hg2) (cx.prg.gl _ _ hm2) (pe_see ha) (starEach_no hs)) rfl)) fun σ H Q q => ?_
  refine tRes.thn (ev := evV T Γ c) q fun x h1 m1 H1 ρ S1 R1 q v vl hv rv => ?_
  obtain ⟨z0, ez0, q2⟩ := Post.of q
  obtain ⟨z, ez, rfl⟩ := Option.map_eq_some_iff.mp ez0
  cases x <;> simp [bi1] at ez
  rename_i n
  obtain ⟨hn, rfl⟩ := ez
  rw [intW (view_rep S1 hv rv)]
  refine ⟨n, rfl, ⟨by omega, by omega, by omega, by omega, by omega⟩, fun q hq => ⟨q, _, rfl, upd_same, rfl, fun od => ?_⟩⟩
  rw [upd_upd]
  have g : Grow D H1 (upd H1 q (.frz od (.lst (rgV 0 n)))) := Grow.fresh hq
  exact Post.grow q2 g S1 (.ref q) (.p (.lst (.inl ⟨od, upd_same⟩) (rgV_rep)))
end
end Sw

end

section
/-! Targets, comprehensions. -/
namespace Sw
open PySem PyProof.Rows L2
section
variable {D : Wd} {T : Tab} {Γ : Calls} {W : WX} {X : Cx} {e : Expr} {nm : Str → Option Gk} {an : Nat → Str} {fa : Nat → Addr} {d : Nat} {G : Gx}
/-! ### targets -/
mutual
def tgNames : Tg → List Nat
  | .name i => [i]
  | .tup ts => tgsNames ts
def tgsNames : TgL → List Nat
  | .nil => []
  | .cons t r => tgNames t ++ tgsNames r
end
/-- nothing else than these slots changes -/
def Only (is : List Nat) (σ σ' : L2.St) : Prop := σ'.length = σ.length ∧ ∀ i, i ∉ is → σ'[i]? = σ[i]?
theorem Only.refl (is : List Nat) (σ : L2.St) : Only is σ σ := ⟨rfl, fun _ _ => rfl⟩
theorem Only.trans {is js : List Nat} {σ σ1 σ2 : L2.St} (a : Only is σ σ1) (b : Only js σ1 σ2) : Only (is ++ js) σ σ2 :=
  ⟨b.1.trans a.1, fun i h => (b.2 i fun z => h (List.mem_append_right _ z)).trans (a.2 i fun z => h (List.mem_append_left _ z))⟩
def tG (D : Wd) (t : Tg) : TG := fun v σ H Q => ∃ m ρ p ρ', RepEnv D m H ρ σ ∧ RepP D H p v ∧ setTg t p ρ = some ρ' ∧ ∀ σ', RepEnv D m H ρ' σ' → Only (tgNames t) σ σ' → Q σ' H
theorem RepEnv.set {m : Mp} {H : Hp} {ρ : Env} {σ : L2.St} {v : Val} {x : V} (r : RepEnv D m H ρ σ) (i : Nat) (rv : RepV D m H v x) : RepEnv D m H (ρ.set i (some v)) (σ.set i (some x)) := by
  refine ⟨by simp [r.1], fun j w h => ?_⟩
  by_cases hj : i = j
  · subst hj
    have hl : i < ρ.length := by
      have := (List.getElem?_eq_some_iff.mp h).1
      simpa using this
    rw [List.getElem?_set_self hl] at h
    cases h
    exact ⟨x, List.getElem?_set_self (by rw [← r.1]; exact hl), rv⟩
  · rw [List.getElem?_set_ne hj] at h
    obtain ⟨y, h1, h2⟩ := r.2 j w h
    exact ⟨y, by rw [List.getElem?_set_ne hj]; exact h1, h2⟩
/-- a name that may be stored -/
def storeC (G : Gx) (x : Str) : Option Nat := match G.sc.names.lookup x with
  | some .local => G.N.idxOf? x
  | some .cell => if G.fn x then G.N.idxOf? x else none
  | _ => none
theorem idxOf_ok {N : List Str} {x : Str} {i : Nat} (h : N.idxOf? x = some i) : N[i]? = some x := by
  rw [List.idxOf?, List.findIdx?_eq_some_iff_getElem] at h
  obtain ⟨h1, h2, _⟩ := h
  rw [List.getElem?_eq_getElem h1, beq_iff_eq.mp h2]
theorem storeC_ok {x : Str} {i : Nat} (h : storeC G x = some i) : G.N[i]? = some x ∧ Loc G.sc x ∧ (G.fn x = true ∨ G.sc.names.lookup x = some .local) := by
  unfold storeC at h
  split at h
  · rename_i q; exact ⟨idxOf_ok h, .inl q, .inr q⟩
  · rename_i q
    split at h
    · rename_i hf; exact ⟨idxOf_ok h, .inr q, .inl hf⟩
    · cases h
  · cases h
/-- without CxOk: what storing asks of the context -/
structure StOk (G : Gx) (X : Cx) : Prop where
  N : X.N = G.N
  nd : G.N.Nodup
  sc : X.env.scope = G.sc
  fn : X.fn = G.fn
  calm : X.calm = true
theorem CxOk.st (cx : CxOk D T Γ nm an fa d G W X) : StOk G X := ⟨cx.N, cx.nd, cx.sc, cx.fn, cx.calm⟩
theorem snd_tname (cx : StOk G X) {x : Str} {i : Nat} {pos : Pos} (h : storeC G x = some i) : PG X (.Name x pos) (tG D (.name i)) := by
  obtain ⟨h1, h2, h3⟩ := storeC_ok h
  have pg := pg_name (X := X) (i := i) (x := x) (pos := pos) (by rw [cx.N]; exact cx.nd) (by rw [cx.N]; exact h1) (by rw [cx.sc]; exact h2) (by rw [cx.fn, cx.sc]; exact h3)
  refine ⟨fun pins s σ H v u Q I r ⟨m, ρ, p, ρ', R, rp, es, k⟩ => pg.run pins s σ H v u Q I r ?_⟩
  cases es
  refine k _ (R.set i (.p rp)) ⟨by simp, fun j hj => ?_⟩
  rw [List.getElem?_set_ne (fun z => hj (by simp [tgNames, z]))]
theorem assignEach_no {t : Expr} {ts : List Expr} {env : PySem.Env} (h : noStar t = true) : assignEach (t :: ts) env = (false, assign t env) :: assignEach ts env := by
  cases t <;> first | rfl | cases h
def tGs (D : Wd) (ts : TgL) : TGs := fun vs σ H Q => ∃ m ρ ps ρ', RepEnv D m H ρ σ ∧ RepL D H ps vs ∧ setTgs ts ps ρ = some ρ' ∧ ∀ σ', RepEnv D m H ρ' σ' → Only (tgsNames ts) σ σ' → Q σ' H
theorem pgs_mono {es : List Expr} {t t' : TGs} (h : PGs X es t) (i : ∀ vs σ H Q, t' vs σ H Q → t vs σ H Q) : PGs X es t' := ⟨fun pins s σ H vs us Q I r q => h.run pins s σ H vs us Q I r (i vs σ H Q q)⟩
theorem snd_tsnil : PGs X [] (tGs D .nil) := pgs_mono pgs_nil fun vs σ H Q ⟨m, ρ, ps, ρ', R, rs, es, k⟩ => by
  cases rs with
  | nil => cases es; exact ⟨rfl, k σ R (Only.refl _ σ)⟩
  | cons _ _ => cases es
theorem snd_tscons {a : Expr} {r : List Expr} {t : Tg} {ts : TgL} (ha : PG X a (tG D t)) (hr : PGs X r (tGs D ts)) (hn : noStar a = true) : PGs X (a :: r) (tGs D (.cons t ts)) := by
  refine pgs_mono (pgs_cons ha hr (by rw [assignEach_no hn]; rfl)) fun vs σ H Q ⟨m, ρ, ps, ρ', R, rs, es, k⟩ => ?_
  cases rs with
  | nil => cases es
  | @cons p v ps vs rp rs =>
    simp only [setTgs] at es
    cases e1 : setTg t p ρ with
    | none => rw [e1] at es; cases es
    | some ρ1 =>
      rw [e1] at es
      exact ⟨v, vs, rfl, m, ρ, p, ρ1, R, rp, e1, fun σ1 R1 o1 => ⟨m, ρ1, ps, ρ', R1, rs, es, fun σ2 R2 o2 => k σ2 R2 (o1.trans o2)⟩⟩
def tgLen : TgL → Nat
  | .nil => 0
  | .cons _ r => tgLen r + 1
theorem setTgs_l : ∀ (ts : TgL) {ps : List PV} {ρ ρ' : Env}, setTgs ts ps ρ = some ρ' → ps.length = tgLen ts
  | .nil, ps, ρ, ρ', h => by
    cases ps with
    | nil => rfl
    | cons p r => simp [setTgs] at h
  | .cons t r, ps, ρ, ρ', h => by
    cases ps with
    | nil => simp [setTgs] at h
    | cons p q =>
      simp only [setTgs] at h
      split at h
      · rw [List.length_cons, setTgs_l r h]; rfl
      · cases h
theorem star_none {env : PySem.Env} : ∀ {es : List Expr}, noStars es = true → (assignEach es env).length = es.length ∧ (assignEach es env).findIdx? (·.1) = none
  | [], _ => ⟨rfl, rfl⟩
  | e :: r, h => by
    obtain ⟨h1, h2⟩ := Bool.and_eq_true_iff.mp (show (noStar e && noStars r) = true from h)
    obtain ⟨i1, i2⟩ := star_none (env := env) h2
    rw [assignEach_no h1]
    refine ⟨by simp [i1], ?_⟩
    rw [List.findIdx?_cons]
    simp [i2]
theorem snd_ttup (cx : StOk G X) (hK : X.K = D.K) {es : List Expr} {ts : TgL} {k : Nat} {pos : Pos} (h : PGs X es (tGs D ts)) (hs : noStars es = true) (hl : es.length = tgLen ts) : PG X (.Tuple es k pos) (tG D (.tup ts)) := by
  have pg := pg_tup (k := k) (pos := pos) (n := es.length) cx.calm h (star_none hs).1 (star_none hs).2
  refine ⟨fun pins s σ H v u Q I r ⟨m, ρ, p, ρ', R, rp, e, kk⟩ => pg.run pins s σ H v u Q I r ?_⟩
  cases p <;> simp only [setTg] at e <;> try cases e
  rename_i ps
  cases rp with
  | tup hq rs => exact ⟨_, _, rfl, by rw [hK]; exact hq, by rw [← rs.len, setTgs_l ts e, hl], m, ρ, ps, ρ', R, rs, e, kk⟩
end
end Sw

end

section
/-! List comprehensions. -/
namespace Sw
open PySem PyProof.Rows L2
section
variable {D : Wd} {T : Tab} {Γ : Calls} {W : WX} {X : Cx} {e : Expr} {nm : Str → Option Gk} {an : Nat → Str} {fa : Nat → Addr} {d : Nat} {G : Gx}
abbrev W0 : WX := fun _ _ _ _ => False
/-- the names within a comprehension's block -/
def blkG (G : Gx) (scope : Scope) : Gx := ⟨G.N, relS scope G.sc, fun x => scope.names.lookup x == some .cell⟩
theorem CxOk.blk (cx : CxOk D T Γ nm an fa d G W X) (s : Shared) (H : Hp) (scope : Scope) (C : Addr) (cl : List (Str × Addr)) (fp : List Addr) : CxOk D T Γ nm an fa d (blkG G scope) W0 (X.blk s H scope (compEnvC scope cl C X.env) fp) where
  wd := cx.wd
  N := cx.N
  nd := cx.nd
  sc := by show relS scope X.env.scope = relS scope G.sc; rw [cx.sc]
  fn := rfl
  calm := cx.calm
  tk := takes0
  po := PassesOwn.never
  room := cx.room
  prg := cx.prg
theorem wipe_of {is : List Nat} : ∀ {vs : List Nat} {σ σ' : L2.St}, Only is σ σ' → (∀ i ∈ is, i ∈ vs) → wipe σ' vs = wipe σ vs := fun {vs σ σ'} o h => by
  have out : ∀ (τ : L2.St) (vs : List Nat) (i : Nat), (wipe τ vs)[i]? = if i ∈ vs then (if i < τ.length then some none else none) else τ[i]? := fun τ vs i => by
    induction vs with
    | nil => simp [wipe]
    | cons v vs ih =>
      show ((wipe τ vs).set v none)[i]? = _
      by_cases hv : v = i
      · subst hv
        by_cases hl : v < τ.length
        · rw [List.getElem?_set_self (by rw [wipe_length]; exact hl)]
          simp [hl]
        · rw [List.getElem?_eq_none (by simp [wipe_length]; omega)]
          simp [hl]
      · rw [List.getElem?_set_ne hv, ih]
        by_cases hm : i ∈ vs
        · simp [hm]
        · have hn : ¬ i = v := fun z => hv z.symm
          simp [hm, hn]
  apply List.ext_getElem?
  intro i
  rw [out, out, o.1]
  by_cases hm : i ∈ vs
  · simp [hm]
  · simp only [hm, if_false]
    exact o.2 i fun z => hm (h i z)
theorem wipeE_get (ρ : Env) : ∀ (vs : List Nat) (i : Nat) (v : Val), (wipeE ρ vs)[i]? = some (some v) → ρ[i]? = some (some v) ∧ i ∉ vs
  | [], i, v, h => ⟨h, by simp⟩
  | j :: vs, i, v, h => by
    unfold wipeE at h
    by_cases hi : j = i
    · subst hi
      by_cases hl : j < (wipeE ρ vs).length
      · rw [List.getElem?_set_self hl] at h; cases h
      · rw [List.getElem?_eq_none (by simpa using hl)] at h; cases h
    · rw [List.getElem?_set_ne hi] at h
      obtain ⟨h1, h2⟩ := wipeE_get ρ vs i v h
      exact ⟨h1, by simp only [List.mem_cons, not_or]; exact ⟨fun z => hi z.symm, h2⟩⟩
theorem wipeE_len (ρ : Env) : ∀ vs : List Nat, (wipeE ρ vs).length = ρ.length
  | [] => rfl
  | v :: vs => by unfold wipeE; rw [List.length_set, wipeE_len ρ vs]
theorem RepEnv.wipe {m : Mp} {H : Hp} {ρ : Env} {σ : L2.St} (r : RepEnv D m H ρ σ) (vs : List Nat) : RepEnv D m H (wipeE ρ vs) (L2.wipe σ vs) := by
  refine ⟨by rw [wipeE_len, wipe_length]; exact r.1, fun i v h => ?_⟩
  obtain ⟨h1, h2⟩ := wipeE_get ρ vs i v h
  obtain ⟨x, h3, h4⟩ := r.2 i v h1
  exact ⟨x, by rw [wipe_out h2]; exact h3, h4⟩
/-- a test and a value, one turn -/
def lcF (T : Tab) (Γ : Calls) (test e : C) (ρ1 : Env) (h2 : Store) : Res (Option PV) := ((evE T Γ test ρ1 h2).bind asB).bind fun b h3 => match b with
  | true => (((evE T Γ e ρ1 h3).bind fz)).bind fun y h4 => .ok (some y) h4
  | false => .ok none h3
theorem RepV.extP {m : Mp} {H H' : Hp} (px : PExt H H') {v : Val} {x : V} (r : RepV D m H v x) : RepV D m H' v x := by
  cases r with
  | p h => exact .p (h.ext px)
  | loc h => exact .loc h
theorem repSl_extP {m : Mp} {H H' : Hp} (px : PExt H H') : ∀ {fs : List (Option Val)} {vs : List (Option V)}, RepSl D m H fs vs → RepSl D m H' fs vs
  | _, _, .nil => .nil
  | _, _, .none r => .none (repSl_extP px r)
  | _, _, .some h r => .some (h.extP px) (repSl_extP px r)
theorem RepEnv.extP {m : Mp} {H H' : Hp} (px : PExt H H') {ρ : Env} {σ : L2.St} (r : RepEnv D m H ρ σ) : RepEnv D m H' ρ σ := ⟨r.1, fun i v h => let ⟨x, h1, h2⟩ := r.2 i v h; ⟨x, h1, h2.extP px⟩⟩
/-- what is not of the store changes -/
theorem RepS.keepP {m : Mp} {H H' : Hp} {h : Store} (r : RepS D m H h) (px : PExt H H') (k : ∀ a, Has m a → H' a = H a) : RepS D m H' h := by
  refine ⟨r.len, r.inj, fun l o q h1 h2 => ?_, fun a ha => let ⟨u, z⟩ := r.trk a ha; ⟨u, by rw [k a ha]; exact z⟩⟩
  have k1 := k _ (Has.of h2).1
  have k2 := k _ (Has.of h2).2
  have R := r.at_ l o q h1 h2
  cases o with
  | lst ps => obtain ⟨xs, a, b⟩ := R; exact ⟨xs, k1.trans a, b.ext px⟩
  | dct kvs =>
    rcases R with ⟨ks, a, b⟩ | ⟨xs, a, b⟩
    · exact .inl ⟨ks, k1.trans a, b.ext px⟩
    · exact .inr ⟨xs, k1.trans a, b.ext px⟩
  | obj c fs =>
    obtain ⟨vs, a, n, ne, b⟩ := R
    refine ⟨vs, ?_, by unfold OwnD; rw [k2]; exact n, ne, repSl_extP px b⟩
    rcases a with ⟨a, a2⟩ | ⟨a, a2⟩
    · exact .inl ⟨k1.trans a, a2⟩
    · exact .inr ⟨k1.trans a, k2.trans a2⟩
  | fzn p => exact RepP.ext px R
/-- between two turns: the list made so far stands at a -/
def LcInv (D : Wd) (T : Tab) (Γ : Calls) (W : WX) (test e : C) (t : Tg) (ρw : Env) (σw : L2.St) (σ : L2.St) (m1 : Mp) (H1 : Hp) (a : Addr) (xs : List PV) (K : List PV → Store → Mp → Hp → Prop) (i : Nat) (H : Hp) : Prop :=
  ∃ m h acc vs, H a = some (.lst vs) ∧ RepL D H acc vs ∧ acc.length ≤ i ∧ RepS D m H h ∧ ¬ Has m a ∧ Ext m1 H1 m H ∧ RepEnv D m H ρw σw ∧ Post D W σ m1 H1 K (lcGo (lcF T Γ test e) t ρw (xs.drop i) acc h)
theorem Ext.at_out {m m' : Mp} {H H' : Hp} {a : Addr} {o : HO} (e : Ext m H m' H') (h : H a = some o) (n : ¬ Has m a) : H' a = some o ∧ ¬ Has m' a := by
  refine ⟨e.out a o h n, fun z => (e.new a z).elim n fun w => ?_⟩
  rw [h] at w
  cases w
/-- what was not there at the entry changes -/
theorem Ext.grown {m1 m : Mp} {H1 H : Hp} {a : Addr} {o u : HO} (e : Ext m1 H1 m H) (n1 : H1 a = none) (h : H a = some o) (hs : Still o = false) : Ext m1 H1 m (upd H a u) := by
  have px : PExt H (upd H a u) := PExt.upd_mut h hs
  refine ⟨e.pre, e.px.trans px, fun b o' z nb => ?_, e.new, fun b o' z => ?_⟩
  · rw [upd_ne (ne_of_none z n1)]; exact e.out b o' z nb
  · by_cases hb : b = a
    · subst hb; exact ⟨_, upd_same⟩
    · rw [upd_ne hb]; exact e.there b o' z
theorem lc_turn {test e : C} {t : Tg} {own : List Nat} {ρw : Env} {σ σw : L2.St} {m1 : Mp} {H1 : Hp} {a : Addr} {xs : List PV} {K : List PV → Store → Mp → Hp → Prop} (hw : σw = wipe σ own) (ht : ∀ i ∈ tgNames t, i ∈ own) (n1 : H1 a = none) (hle : xs.length ≤ sizeMax) {i : Nat} {x : V} {H H' : Hp} (hi : i < xs.length)
    (p : LcInv D T Γ W test e t ρw σw σ m1 H1 a xs K i H) (g : Grow D H H') (hx : ∃ p, xs[i]? = some p ∧ RepP D H' p x) :
    tG D t x (wipe σ own) H' fun σ2 H2 => wipe σ2 own = wipe σ own ∧ tB1 D T Γ W0 test σ2 H2 fun b H3 =>
      if b = true then tP D T Γ W0 e σ2 H3 fun y H4 => ∃ acc, H4 a = some (.lst acc) ∧ acc.length < sizeLine ∧ LcInv D T Γ W test e t ρw σw σ m1 H1 a xs K (i + 1) (upd H4 a (.lst (acc ++ [y]))) else LcInv D T Γ W test e t ρw σw σ m1 H1 a xs K (i + 1) H3 := by
  obtain ⟨m, h, acc, vs, ha, ra, la, S, nh, ex, R, po⟩ := p
  obtain ⟨q, hq, rq⟩ := hx
  have gm := g m
  obtain ⟨ha', _⟩ := Ext.at_out gm.1 ha nh
  have hd : xs.drop i = q :: xs.drop (i + 1) := by
    rw [List.drop_eq_getElem_cons hi]
    congr 1
    rw [List.getElem?_eq_getElem hi] at hq
    exact Option.some.inj hq
  rw [hd] at po
  simp only [lcGo] at po
  cases es : setTg t q ρw with
  | none => rw [es] at po; exact False.elim po
  | some ρ1 =>
    rw [es] at po
    simp only at po
    subst hw
    refine ⟨m, ρw, q, ρ1, R.ext gm.1, rq, es, fun σ2 R2 o2 => ⟨(wipe_of o2 ht).trans (wipe_of (is := own) ⟨wipe_length σ own, fun i hi => wipe_out hi⟩ fun i h => h), ?_⟩⟩
    refine ⟨m, h, ρ1, gm.2 h S, R2, ?_⟩
    cases eb : evB T Γ test ρ1 h with
    | bad =>
      have : lcF T Γ test e ρ1 h = .bad := by show ((evB T Γ test ρ1 h).bind _) = _; rw [eb]; rfl
      rw [this] at po; exact False.elim po
    | exc z h3 =>
      have : lcF T Γ test e ρ1 h = .exc z h3 := by show ((evB T Γ test ρ1 h).bind _) = _; rw [eb]; rfl
      rw [this] at po; exact False.elim po
    | ok b h3 =>
      intro m2 H3 e3 S3
      obtain ⟨ha3, nh3⟩ := Ext.at_out e3 ha' nh
      have R0 : RepEnv D m2 H3 ρw (wipe σ own) := (R.ext gm.1).ext e3
      cases b with
      | false =>
        have : lcF T Γ test e ρ1 h = .ok none h3 := by show ((evB T Γ test ρ1 h).bind _) = _; rw [eb]; rfl
        rw [this] at po
        rw [if_neg Bool.false_ne_true]
        exact ⟨m2, h3, acc, vs, ha3, (ra.ext gm.1.px).ext e3.px, by omega, S3, nh3, (ex.trans gm.1).trans e3, R0, po⟩
      | true =>
        rw [if_pos rfl]
        refine ⟨m2, h3, ρ1, S3, R2.ext e3, ?_⟩
        cases ee : evP T Γ e ρ1 h3 with
        | bad =>
          have : lcF T Γ test e ρ1 h = .bad := by show ((evB T Γ test ρ1 h).bind _) = _; rw [eb]; show ((evP T Γ e ρ1 h3).bind _) = _; rw [ee]; rfl
          rw [this] at po; exact False.elim po
        | exc z h4 =>
          have : lcF T Γ test e ρ1 h = .exc z h4 := by show ((evB T Γ test ρ1 h).bind _) = _; rw [eb]; show ((evP T Γ e ρ1 h3).bind _) = _; rw [ee]; rfl
          rw [this] at po; exact False.elim po
        | ok y h4 =>
          have : lcF T Γ test e ρ1 h = .ok (some y) h4 := by show ((evB T Γ test ρ1 h).bind _) = _; rw [eb]; show ((evP T Γ e ρ1 h3).bind _) = _; rw [ee]; rfl
          rw [this] at po
          intro m3 H4 e4 S4 yv ry
          obtain ⟨ha4, nh4⟩ := Ext.at_out e4 ha3 nh3
          have px : PExt H4 (upd H4 a (.lst (vs ++ [yv]))) := PExt.upd_mut ha4 rfl
          have ra4 := ((ra.ext gm.1.px).ext e3.px).ext e4.px
          have hl : vs.length < sizeLine := by
            rw [← ra.len, ← sizeMax_eq]
            omega
          refine ⟨vs, ha4, hl, m3, h4, acc ++ [y], vs ++ [yv], upd_same, (ra4.app (.cons ry .nil)).ext px, by simp; omega, S4.keepP px fun b hb => upd_ne fun z => nh4 (z ▸ hb), nh4, Ext.grown (((ex.trans gm.1).trans e3).trans e4) n1 ha4 rfl, (R0.ext e4).extP px, po⟩
/-- what the loop comes to -/
theorem lc_reads {it : I} {test e : C} {t : Tg} {own : List Nat} (ht : ∀ i ∈ tgNames t, i ∈ own) {σ : L2.St} {H : Hp} {Q : VK} {β : Type} {K : β → Store → Mp → Hp → Prop} {fin : List PV → List PV → Store → Res β}
    (hQ : ∀ xs ys h m1 H1 m H' a vs, xs.length ≤ sizeMax → H1 a = none → H' a = some (.lst vs) → RepL D H' ys vs → ¬ Has m a → Ext m1 H1 m H' → RepS D m H' h → Post D W σ m1 H1 K (fin xs ys h) → Q (.ref a) H')
    (hz : ∀ xs ys h, ¬ xs.length ≤ sizeMax → fin xs ys h = .bad)
    (p : tRes D W (fun ρ h => (evI T Γ it ρ h).bind fun xs h1 => (lcGo (lcF T Γ test e) t (wipeE ρ own) xs [] h1).bind (fin xs)) K σ H) : tLc (tI D T Γ W it) (tG D t) (tB1 D T Γ W0 test) (tP D T Γ W0 e) own σ H Q := by
  refine tRes.thn (ev := evI T Γ it) p fun xs h1 m1 H1 ρ S1 R1 q J wk a na => ?_
  by_cases hle : xs.length ≤ sizeMax
  · have px : PExt H1 (upd H1 a (.lst [])) := (Ext.fresh (m := m1) na).px
    have nh : ¬ Has m1 a := fun z => by
      obtain ⟨u, hu⟩ := S1.trk a z
      rw [na] at hu; cases hu
    refine lc_it wk (LcInv D T Γ W test e t (wipeE ρ own) (wipe σ own) σ m1 H1 a xs fun ys h' m' H' => Post D W σ m1 H1 K (fin xs ys h')) ⟨m1, h1, [], [], upd_same, .nil, Nat.zero_le _, S1.fresh na, nh, Ext.fresh na, (R1.wipe own).extP px, ?_⟩ (fun i H' hi ⟨m, h, acc, vs, ha, ra, la, S, nh, ex, R, po⟩ => ex.px) (fun i x H2 H3 hi pv ⟨g, hx⟩ => lc_turn rfl ht na hle hi pv g hx) fun H' pv => ?_
    · have q2 := Post.bind q
      simp only [List.drop_zero]
      generalize lcGo (lcF T Γ test e) t (wipeE ρ own) xs [] h1 = r at q q2
      cases r with
      | bad => exact q
      | ok ys h' => exact fun m' H' e' s' => by simpa using q
      | exc z h' => exact q
    · obtain ⟨m, h, acc, vs, ha, ra, la, S, nh, ex, R, po⟩ := pv
      rw [List.drop_length] at po
      exact hQ xs acc h m1 H1 m H' a vs hle na ha ra nh ex S (po m H' ex S)
  · exfalso
    have : ∀ r : Res (List PV), Post D W σ m1 H1 K (r.bind (fin xs)) → (∃ z h, r = .exc z h) ∨ False := fun r hr => by
      cases r with
      | bad => exact .inr hr
      | ok ys h' => rw [Res.bind_ok, hz xs ys h' hle] at hr; exact .inr hr
      | exc z h' => exact .inl ⟨z, h', rfl⟩
    rcases this _ q with ⟨z, h, hr⟩ | hr
    · have never : ∀ (l acc : List PV) (h0 : Store), lcGo (lcF T Γ test e) t (wipeE ρ own) l acc h0 ≠ .exc z h := fun l => by
        induction l with
        | nil => intro acc h0 hh; cases hh
        | cons y l ih =>
          intro acc h0 hh
          simp only [lcGo] at hh
          split at hh
          · cases hh
          · split at hh
            · exact ih _ _ hh
            · exact ih _ _ hh
            · cases hh
      exact never _ _ _ hr
    · exact hr
end
end Sw

end

section
/-! List comprehensions as values. -/
namespace Sw
open PySem PyProof.Rows L2
section
variable {D : Wd} {T : Tab} {Γ : Calls} {W : WX} {X : Cx} {e : Expr} {nm : Str → Option Gk} {an : Nat → Str} {fa : Nat → Addr} {d : Nat} {G : Gx}
def isSetE : Expr → Bool
  | .Set _ _ _ => true
  | _ => false
theorem unfolded {iter : Expr} {env : PySem.Env} (h : isSetE iter = false) : ∀ x, foldedSetIterable iter env x = pure x := fun x => by
  cases iter <;> first | rfl | cases h
theorem pts_mono {ifs : List Expr} {t t' : TT} (h : PTs X ifs t) (i : ∀ σ H Q, t' σ H Q → t σ H Q) : PTs X ifs t' := ⟨fun pins s σ H Q I q => h.run pins s σ H Q I (i σ H Q q)⟩
theorem snd_tests0 : PTs X [] (tB1 D T Γ W (.pv (.bl true))) := pts_mono pts_nil fun σ H Q ⟨m, h, ρ, S, R, p⟩ => Post.ok p S
/-- the parts of a comprehension, within its block -/
structure LcOk (D : Wd) (T : Tab) (Γ : Calls) (W : WX) (X : Cx) (G : Gx) (tg iter : Expr) (ifs : List Expr) (scope : Scope) (own : List (Str × Nat)) (it : I) (t : Tg) (test : C) : Prop where
  hi : PI X tg iter (tI D T Γ W it)
  ok : BlkOk X.N X.env.scope scope own
  hg : ∀ (s : Shared) (H : Hp) (C : Addr) (cl : List (Str × Addr)) (fp : List Addr), PG (X.blk s H scope (compEnvC scope cl C X.env) fp) tg (tG D t)
  ht : ∀ (s : Shared) (H : Hp) (C : Addr) (cl : List (Str × Addr)) (fp : List Addr), PTs (X.blk s H scope (compEnvC scope cl C X.env) fp) ifs (tB1 D T Γ W0 test)
  hs : ∀ x, foldedSetIterable iter X.env x = pure x
  own : ∀ i ∈ tgNames t, i ∈ own.map (·.2)
abbrev lcFin (xs ys : List PV) (h2 : Store) : Res Val := if xs.length ≤ sizeMax then .ok (.p (.lst ys)) h2 else .bad
abbrev lcFinN (xs ys : List PV) (h2 : Store) : Res Val := if xs.length ≤ sizeMax then .ok (.loc h2.length) (h2 ++ [.lst ys]) else .bad
/-- what is wanted of a new list that is to be frozen -/
def LockQ (Q : VK) : VK := fun v H1 => ∃ p u, v = .ref p ∧ H1 p = some u ∧ Still u = false ∧ ∀ od, Q v (upd H1 p (.frz od u))
theorem lc_lock {it : I} {test e : C} {t : Tg} {own : List Nat} (ht : ∀ i ∈ tgNames t, i ∈ own) {σ : L2.St} {H : Hp} {Q Q2 : VK} {K : Val → Store → Mp → Hp → Prop} (hK : ∀ a h' m' H', K a h' m' H' → ∀ x, RepV D m' H' a x → Q x H') (h2 : ∀ v H1, LockQ Q v H1 → Q2 v H1)
    (p : tRes D W (evE T Γ (.lc it t own test e)) K σ H) : tLc (tI D T Γ W it) (tG D t) (tB1 D T Γ W0 test) (tP D T Γ W0 e) own σ H Q2 := by
  refine lc_reads (fin := lcFin) ht (fun xs ys h m1 H1 m H' a vs hle n1 ha ra nh ex S po => ?_) (fun xs ys h hn => by simp [lcFin, hn]) p
  simp only [lcFin, hle, if_true] at po
  refine h2 _ _ ⟨a, _, rfl, ha, rfl, fun od => ?_⟩
  have px : PExt H' (upd H' a (.frz od (.lst vs))) := PExt.upd_mut ha rfl
  exact hK _ _ _ _ (po m _ (Ext.grown ex n1 ha rfl) (S.keepP px fun b hb => upd_ne fun z => nh (z ▸ hb))) _ (.p (.lst (.inl ⟨od, upd_same⟩) (ra.ext px)))
/-- a list that was made on the way becomes a place of the store -/
theorem RepS.adopt {m : Mp} {H : Hp} {h : Store} {a : Addr} {u : HO} {o : EO} (r : RepS D m H h) (ha : H a = some u) (nh : ¬ Has m a) (new : RepE D (m ++ [(a, a)]) H (a, a) o) : RepS D (m ++ [(a, a)]) H (h ++ [o]) := by
  have ne : ∀ b, Has m b → b ≠ a := fun b hb z => nh (z ▸ hb)
  have pre : ∀ (l : Nat) q, m[l]? = some q → (m ++ [(a, a)])[l]? = some q := fun l q z => by
    rw [List.getElem?_append_left (List.getElem?_eq_some_iff.mp z).1]
    exact z
  have ex : Ext m H (m ++ [(a, a)]) H → True := fun _ => trivial
  have lt : ∀ {l : Nat} {q : Addr × Addr}, (m ++ [(a, a)])[l]? = some q → m[l]? = some q ∨ (l = m.length ∧ q = (a, a)) := fun {l q} z => by
    by_cases hl : l < m.length
    · rw [List.getElem?_append_left hl] at z
      exact .inl z
    · rw [List.getElem?_append_right (Nat.le_of_not_lt hl)] at z
      cases k : l - m.length with
      | zero =>
        rw [k] at z
        simp at z
        exact .inr ⟨by omega, z.symm⟩
      | succ i => rw [k] at z; simp at z
  have vext : ∀ {v : Val} {x : V}, RepV D m H v x → RepV D (m ++ [(a, a)]) H v x := fun {v x} z => by
    cases z with
    | p h => exact .p h
    | loc h => exact .loc (pre _ _ h)
  have slext : ∀ {fs : List (Option Val)} {vs : List (Option V)}, RepSl D m H fs vs → RepSl D (m ++ [(a, a)]) H fs vs := fun {fs vs} z => by
    induction z with
    | nil => exact .nil
    | none _ ih => exact .none ih
    | some h _ ih => exact .some (vext h) ih
  refine ⟨by simp [r.len], fun l k q s h1 h2 n => ?_, fun l x q h1 h2 => ?_, fun b hb => ?_⟩
  · rcases lt h1 with h1 | ⟨l1, rfl⟩ <;> rcases lt h2 with h2 | ⟨l2, rfl⟩
    · exact r.inj l k q s h1 h2 n
    · exact ⟨ne _ (Has.of h1).1, ne _ (Has.of h1).1, ne _ (Has.of h1).2, ne _ (Has.of h1).2⟩
    · exact ⟨(ne _ (Has.of h2).1).symm, (ne _ (Has.of h2).2).symm, (ne _ (Has.of h2).1).symm, (ne _ (Has.of h2).2).symm⟩
    · exact absurd (l1.trans l2.symm) n
  · rcases lt h2 with h2 | ⟨l1, rfl⟩
    · have hl : l < h.length := by rw [← r.len]; exact (List.getElem?_eq_some_iff.mp h2).1
      rw [List.getElem?_append_left hl] at h1
      have R := r.at_ l x q h1 h2
      cases x with
      | lst ps => exact R
      | dct kvs => exact R
      | obj c fs => obtain ⟨vs, z1, z2, z3, z4⟩ := R; exact ⟨vs, z1, z2, z3, slext z4⟩
      | fzn p => exact R
    · rw [l1, r.len, List.getElem?_append_right (Nat.le_refl _)] at h1
      simp at h1
      subst h1
      exact new
  · obtain ⟨q, hq, z⟩ := hb
    rcases List.mem_append.mp hq with hq | hq
    · exact r.trk b ⟨q, hq, z⟩
    · have e : q = (a, a) := by simpa using hq
      subst e
      refine ⟨u, ?_⟩
      rcases z with z | z <;> (rw [z]; exact ha)
theorem Ext.adopt {m1 m : Mp} {H1 H : Hp} {a : Addr} (e : Ext m1 H1 m H) (n1 : H1 a = none) : Ext m1 H1 (m ++ [(a, a)]) H := by
  refine ⟨fun l q z => ?_, e.px, e.out, fun b ⟨q, hq, z⟩ => ?_, e.there⟩
  · have := e.pre l q z
    rw [List.getElem?_append_left (List.getElem?_eq_some_iff.mp this).1]
    exact this
  · rcases List.mem_append.mp hq with hq | hq
    · exact e.new b ⟨q, hq, z⟩
    · have eq : q = (a, a) := by simpa using hq
      subst eq
      refine .inr ?_
      rcases z with z | z <;> (rw [z]; exact n1)
theorem lc_new {it : I} {test e : C} {t : Tg} {own : List Nat} (ht : ∀ i ∈ tgNames t, i ∈ own) {σ : L2.St} {H : Hp} {Q : VK} {K : Val → Store → Mp → Hp → Prop} (hK : ∀ a h' m' H', K a h' m' H' → ∀ x, RepV D m' H' a x → Q x H')
    (p : tRes D W (evE T Γ (.lcN it t own test e)) K σ H) : tLc (tI D T Γ W it) (tG D t) (tB1 D T Γ W0 test) (tP D T Γ W0 e) own σ H Q := by
  refine lc_reads (fin := lcFinN) ht (fun xs ys h m1 H1 m H' a vs hle n1 ha ra nh ex S po => ?_) (fun xs ys h hn => by simp [lcFinN, hn]) p
  simp only [lcFinN, hle, if_true] at po
  refine hK _ _ _ _ (po (m ++ [(a, a)]) H' (ex.adopt n1) (S.adopt ha nh ⟨vs, ha, ra⟩)) _ (RepV.loc (q := (a, a)) ?_)
  rw [← S.len]
  simp
theorem snd_lc (cx : CxOk D T Γ nm an fa d G W X) {elt tg iter : Expr} {ifs : List Expr} {scope : Scope} {own : List (Str × Nat)} {pos : Pos} {it : I} {t : Tg} {test c : C} (L : LcOk D T Γ W X G tg iter ifs scope own it t test)
    (he : ∀ (s : Shared) (H : Hp) (C : Addr) (cl : List (Str × Addr)) (fp : List Addr), PE (X.blk s H scope (compEnvC scope cl C X.env) fp) elt (tE D T Γ W0 c)) : PE X (.ListComp elt [⟨tg, iter, ifs, 0⟩] scope pos) (tE D T Γ W (.lc it t (own.map (·.2)) test c)) :=
  pe_mono (pe_lockd (pe_lc cx.calm (by rw [cx.N]; exact cx.nd) L.hi L.ok L.hg L.ht (fun s H C cl fp => pe_frz (he s H C cl fp)) L.hs)) fun σ H Q p => lc_lock L.own (fun _ _ _ _ z => z) (fun _ _ z => z) p
theorem snd_lcN (cx : CxOk D T Γ nm an fa d G W X) {elt tg iter : Expr} {ifs : List Expr} {scope : Scope} {own : List (Str × Nat)} {pos : Pos} {it : I} {t : Tg} {test c : C} (L : LcOk D T Γ W X G tg iter ifs scope own it t test)
    (he : ∀ (s : Shared) (H : Hp) (C : Addr) (cl : List (Str × Addr)) (fp : List Addr), PE (X.blk s H scope (compEnvC scope cl C X.env) fp) elt (tE D T Γ W0 c)) : PE X (.ListComp elt [⟨tg, iter, ifs, 0⟩] scope pos) (tE D T Γ W (.lcN it t (own.map (·.2)) test c)) :=
  pe_mono (pe_lc cx.calm (by rw [cx.N]; exact cx.nd) L.hi L.ok L.hg L.ht (fun s H C cl fp => pe_frz (he s H C cl fp)) L.hs) fun σ H Q p => lc_new L.own (fun _ _ _ _ z => z) p
end
end Sw

end

section
/-! Dict comprehensions, keys numbers or texts. -/
namespace Sw
open PySem PyProof.Rows L2
theorem nodup_putK {ks : List (Key × V)} {k : Key} {v : V} (h : (ks.map (·.1)).Nodup) : ((putK ks k v).map (·.1)).Nodup := by
  cases q : valV ks k with
  | none => exact nd_putK v h q
  | some x =>
    have e : (ks.any fun kv => decide (kv.1 = k)) = true := by rw [valV_any, q]; rfl
    unfold putK
    rw [if_pos e]
    have : (ks.map fun kv => if kv.1 = k then (kv.1, v) else kv).map (·.1) = ks.map (·.1) := by
      rw [List.map_map]
      apply List.map_congr_left
      intro p _
      simp only [Function.comp]
      split <;> rfl
    rw [this]
    exact h
theorem dPut_len (k v : PV) : ∀ kvs : List (PV × PV), (dPut kvs k v).length ≤ kvs.length + 1
  | [] => by simp [dPut]
  | p :: r => by
    obtain ⟨j, w⟩ := p
    unfold dPut
    split
    · simp
    · have := dPut_len k v r
      simp
      omega
section
variable {D : Wd} {T : Tab} {Γ : Calls} {W : WX} {X : Cx} {e : Expr} {nm : Str → Option Gk} {an : Nat → Str} {fa : Nat → Addr} {d : Nat} {G : Gx}
/-- a comprehension over what is walked -/
theorem dc_it {J : It} {n : Nat} {Gd : Hp → Prop} {Y : Nat → Hp → V → Hp → Prop} (w : Walk J n Gd Y) {g : TG} {tt : TT} {tk tv : TE} {vs : List Nat} {σ : L2.St} {H1 : Hp} {a : Addr} {Qd : Hp → Prop} (Pv : Nat → Hp → Prop) (h0 : Pv 0 (upd H1 a (.dK []))) (hG : ∀ i H, i ≤ n → Pv i H → Gd H)
    (hs : ∀ i x H H', i < n → Pv i H → Y i H x H' → g x (wipe σ vs) H' fun σ2 H2 => wipe σ2 vs = wipe σ vs ∧ tt σ2 H2 fun b H3 =>
      if b = true then tk σ2 H3 fun y H4 => tv σ2 H4 fun z H5 => ∃ kvs k, y = kV k ∧ H5 a = some (.dK kvs) ∧ kvs.length < sizeLine ∧ Pv (i + 1) (upd H5 a (.dK (putK kvs k z))) else Pv (i + 1) H3) (hd : ∀ H, Pv n H → Qd H) :
    ∃ W : Nat → Nat → Hp → Prop, (∃ m, W 0 m (upd H1 a (.dK []))) ∧ ∀ i m H, W i m H →
      (J.stop i H ∧ Qd H) ∨ (J.go i H ∧ ∃ Nx : Hp → Prop, (∀ H', Nx H' → ∃ m', m' < m ∧ W (i + 1) m' H') ∧ ∀ x H', J.yld i H x H' → g x (wipe σ vs) H' fun σ2 H2 => wipe σ2 vs = wipe σ vs ∧ tt σ2 H2 fun b H3 =>
        if b = true then tk σ2 H3 fun y H4 => tv σ2 H4 fun z H5 => ∃ kvs k, y = kV k ∧ H5 a = some (.dK kvs) ∧ kvs.length < sizeLine ∧ Nx (upd H5 a (.dK (putK kvs k z))) else Nx H3) := by
  refine ⟨fun i m H => m = n - i ∧ i ≤ n ∧ Pv i H, ⟨n, rfl, Nat.zero_le n, h0⟩, fun i m H ⟨em, hi, p⟩ => ?_⟩
  subst em
  have q := hG i H hi p
  rcases Nat.lt_or_ge i n with hlt | hge
  · exact .inr ⟨w.goes i H hlt q, Pv (i + 1), fun H' p' => ⟨n - (i + 1), by omega, rfl, hlt, p'⟩, fun x H' y => hs i x H H' hlt p (w.yields i H x H' hlt q y)⟩
  · obtain rfl : i = n := by omega
    exact .inl ⟨w.stops H q, hd H p⟩
def dcF (T : Tab) (Γ : Calls) (test k e : C) (ρ1 : Env) (h2 : Store) : Res (Option (PV × PV)) := ((evE T Γ test ρ1 h2).bind asB).bind fun b h3 => match b with
  | true => (((evE T Γ k ρ1 h3).bind fz)).bind fun x h4 => (((evE T Γ e ρ1 h4).bind fz)).bind fun y h5 => .ok (some (x, y)) h5
  | false => .ok none h3
def DcInv (D : Wd) (T : Tab) (Γ : Calls) (W : WX) (test k e : C) (t : Tg) (ρw : Env) (σw : L2.St) (σ : L2.St) (m1 : Mp) (H1 : Hp) (a : Addr) (xs : List PV) (K : List (PV × PV) → Store → Mp → Hp → Prop) (i : Nat) (H : Hp) : Prop :=
  ∃ m h acc ks, H a = some (.dK ks) ∧ RepK D H acc ks ∧ (ks.map (·.1)).Nodup ∧ acc.length ≤ i ∧ RepS D m H h ∧ ¬ Has m a ∧ Ext m1 H1 m H ∧ RepEnv D m H ρw σw ∧ Post D W σ m1 H1 K (dcGo (dcF T Γ test k e) t ρw (xs.drop i) acc h)
theorem flatK_ok {p : PV} (h : isFlatK p = true) : ∃ k, flatKey p = some k := by
  cases p <;> first | exact ⟨_, rfl⟩ | cases h
theorem dc_turn {test k e : C} {t : Tg} {own : List Nat} {ρw : Env} {σ σw : L2.St} {m1 : Mp} {H1 : Hp} {a : Addr} {xs : List PV} {K : List (PV × PV) → Store → Mp → Hp → Prop} (hw : σw = wipe σ own) (ht : ∀ i ∈ tgNames t, i ∈ own) (n1 : H1 a = none) (hle : xs.length ≤ sizeMax) {i : Nat} {x : V} {H H' : Hp} (hi : i < xs.length)
    (p : DcInv D T Γ W test k e t ρw σw σ m1 H1 a xs K i H) (g : Grow D H H') (hx : ∃ p, xs[i]? = some p ∧ RepP D H' p x) :
    tG D t x (wipe σ own) H' fun σ2 H2 => wipe σ2 own = wipe σ own ∧ tB1 D T Γ W0 test σ2 H2 fun b H3 =>
      if b = true then tP D T Γ W0 k σ2 H3 fun y H4 => tP D T Γ W0 e σ2 H4 fun z H5 => ∃ kvs kk, y = kV kk ∧ H5 a = some (.dK kvs) ∧ kvs.length < sizeLine ∧ DcInv D T Γ W test k e t ρw σw σ m1 H1 a xs K (i + 1) (upd H5 a (.dK (putK kvs kk z))) else DcInv D T Γ W test k e t ρw σw σ m1 H1 a xs K (i + 1) H3 := by
  obtain ⟨m, h, acc, ks, ha, ra, nd, la, S, nh, ex, R, po⟩ := p
  obtain ⟨q, hq, rq⟩ := hx
  have gm := g m
  obtain ⟨ha', _⟩ := Ext.at_out gm.1 ha nh
  have hd : xs.drop i = q :: xs.drop (i + 1) := by
    rw [List.drop_eq_getElem_cons hi]
    congr 1
    rw [List.getElem?_eq_getElem hi] at hq
    exact Option.some.inj hq
  rw [hd] at po
  simp only [dcGo] at po
  cases es : setTg t q ρw with
  | none => rw [es] at po; exact False.elim po
  | some ρ1 =>
    rw [es] at po
    simp only at po
    subst hw
    refine ⟨m, ρw, q, ρ1, R.ext gm.1, rq, es, fun σ2 R2 o2 => ⟨(wipe_of o2 ht).trans (wipe_of (is := own) ⟨wipe_length σ own, fun i hi => wipe_out hi⟩ fun i h => h), ?_⟩⟩
    refine ⟨m, h, ρ1, gm.2 h S, R2, ?_⟩
    cases eb : evB T Γ test ρ1 h with
    | bad =>
      have : dcF T Γ test k e ρ1 h = .bad := by show ((evB T Γ test ρ1 h).bind _) = _; rw [eb]; rfl
      rw [this] at po; exact False.elim po
    | exc z h3 =>
      have : dcF T Γ test k e ρ1 h = .exc z h3 := by show ((evB T Γ test ρ1 h).bind _) = _; rw [eb]; rfl
      rw [this] at po; exact False.elim po
    | ok b h3 =>
      intro m2 H3 e3 S3
      obtain ⟨ha3, nh3⟩ := Ext.at_out e3 ha' nh
      have R0 : RepEnv D m2 H3 ρw (wipe σ own) := (R.ext gm.1).ext e3
      cases b with
      | false =>
        have : dcF T Γ test k e ρ1 h = .ok none h3 := by show ((evB T Γ test ρ1 h).bind _) = _; rw [eb]; rfl
        rw [this] at po
        rw [if_neg Bool.false_ne_true]
        exact ⟨m2, h3, acc, ks, ha3, (ra.ext gm.1.px).ext e3.px, nd, by omega, S3, nh3, (ex.trans gm.1).trans e3, R0, po⟩
      | true =>
        rw [if_pos rfl]
        refine ⟨m2, h3, ρ1, S3, R2.ext e3, ?_⟩
        cases ek : evP T Γ k ρ1 h3 with
        | bad =>
          have : dcF T Γ test k e ρ1 h = .bad := by show ((evB T Γ test ρ1 h).bind _) = _; rw [eb]; show ((evP T Γ k ρ1 h3).bind _) = _; rw [ek]; rfl
          rw [this] at po; exact False.elim po
        | exc z h4 =>
          have : dcF T Γ test k e ρ1 h = .exc z h4 := by show ((evB T Γ test ρ1 h).bind _) = _; rw [eb]; show ((evP T Γ k ρ1 h3).bind _) = _; rw [ek]; rfl
          rw [this] at po; exact False.elim po
        | ok kp h4 =>
          intro m3 H4 e4 S4 kv rk
          obtain ⟨ha4, nh4⟩ := Ext.at_out e4 ha3 nh3
          refine ⟨m3, h4, ρ1, S4, (R2.ext e3).ext e4, ?_⟩
          cases ee : evP T Γ e ρ1 h4 with
          | bad =>
            have : dcF T Γ test k e ρ1 h = .bad := by show ((evB T Γ test ρ1 h).bind _) = _; rw [eb]; show ((evP T Γ k ρ1 h3).bind _) = _; rw [ek]; show ((evP T Γ e ρ1 h4).bind _) = _; rw [ee]; rfl
            rw [this] at po; exact False.elim po
          | exc z h5 =>
            have : dcF T Γ test k e ρ1 h = .exc z h5 := by show ((evB T Γ test ρ1 h).bind _) = _; rw [eb]; show ((evP T Γ k ρ1 h3).bind _) = _; rw [ek]; show ((evP T Γ e ρ1 h4).bind _) = _; rw [ee]; rfl
            rw [this] at po; exact False.elim po
          | ok y h5 =>
            have : dcF T Γ test k e ρ1 h = .ok (some (kp, y)) h5 := by show ((evB T Γ test ρ1 h).bind _) = _; rw [eb]; show ((evP T Γ k ρ1 h3).bind _) = _; rw [ek]; show ((evP T Γ e ρ1 h4).bind _) = _; rw [ee]; rfl
            rw [this] at po
            simp only at po
            by_cases hf : isFlatK kp = true
            · rw [if_pos hf] at po
              obtain ⟨kk, hkk⟩ := flatK_ok hf
              intro m4 H5 e5 S5 yv ry
              obtain ⟨ha5, nh5⟩ := Ext.at_out e5 ha4 nh4
              have px : PExt H5 (upd H5 a (.dK (putK ks kk yv))) := PExt.upd_mut ha5 rfl
              have ra5 := (((ra.ext gm.1.px).ext e3.px).ext e4.px).ext e5.px
              have hl : ks.length < sizeLine := by
                rw [← ra.len, ← sizeMax_eq]
                omega
              have dl := dPut_len kp y acc
              refine ⟨ks, kk, flatV hkk rk, ha5, hl, m4, h5, dPut acc kp y, putK ks kk yv, upd_same, RepK.put hkk (ry.ext px) (ra5.ext px) nd, nodup_putK nd, by omega, S5.keepP px fun b hb => upd_ne fun z => nh5 (z ▸ hb), nh5, Ext.grown ((((ex.trans gm.1).trans e3).trans e4).trans e5) n1 ha5 rfl, ((R0.ext e4).ext e5).extP px, po⟩
            · rw [if_neg hf] at po
              exact False.elim po
theorem dc_reads {it : I} {test k e : C} {t : Tg} {own : List Nat} (ht : ∀ i ∈ tgNames t, i ∈ own) {σ : L2.St} {H : Hp} {Q : VK} {β : Type} {K : β → Store → Mp → Hp → Prop} {fin : List PV → List (PV × PV) → Store → Res β}
    (hQ : ∀ xs ys h m1 H1 m H' a ks, xs.length ≤ sizeMax → H1 a = none → H' a = some (.dK ks) → RepK D H' ys ks → ¬ Has m a → Ext m1 H1 m H' → RepS D m H' h → Post D W σ m1 H1 K (fin xs ys h) → Q (.ref a) H')
    (hz : ∀ xs ys h, ¬ xs.length ≤ sizeMax → fin xs ys h = .bad)
    (p : tRes D W (fun ρ h => (evI T Γ it ρ h).bind fun xs h1 => (dcGo (dcF T Γ test k e) t (wipeE ρ own) xs [] h1).bind (fin xs)) K σ H) : tDc (tI D T Γ W it) (tG D t) (tB1 D T Γ W0 test) (tP D T Γ W0 k) (tP D T Γ W0 e) own σ H Q := by
  refine tRes.thn (ev := evI T Γ it) p fun xs h1 m1 H1 ρ S1 R1 q J wk a na => ?_
  by_cases hle : xs.length ≤ sizeMax
  · have px : PExt H1 (upd H1 a (.dK [])) := (Ext.fresh (m := m1) na).px
    have nh : ¬ Has m1 a := fun z => by
      obtain ⟨u, hu⟩ := S1.trk a z
      rw [na] at hu; cases hu
    refine dc_it wk (DcInv D T Γ W test k e t (wipeE ρ own) (wipe σ own) σ m1 H1 a xs fun ys h' m' H' => Post D W σ m1 H1 K (fin xs ys h')) ⟨m1, h1, [], [], upd_same, .nil, List.nodup_nil, Nat.zero_le _, S1.fresh na, nh, Ext.fresh na, (R1.wipe own).extP px, ?_⟩ (fun i H' hi ⟨m, h, acc, vs, ha, ra, nd, la, S, nh, ex, R, po⟩ => ex.px) (fun i x H2 H3 hi pv ⟨g, hx⟩ => dc_turn rfl ht na hle hi pv g hx) fun H' pv => ?_
    · have q2 := Post.bind q
      simp only [List.drop_zero]
      generalize dcGo (dcF T Γ test k e) t (wipeE ρ own) xs [] h1 = r at q q2
      cases r with
      | bad => exact q
      | ok ys h' => exact fun m' H' e' s' => by simpa using q
      | exc z h' => exact q
    · obtain ⟨m, h, acc, vs, ha, ra, nd, la, S, nh, ex, R, po⟩ := pv
      rw [List.drop_length] at po
      exact hQ xs acc h m1 H1 m H' a vs hle na ha ra nh ex S (po m H' ex S)
  · exfalso
    have fin' : ∀ r : Res (List (PV × PV)), Post D W σ m1 H1 K (r.bind (fin xs)) → (∃ z h, r = .exc z h) ∨ False := fun r hr => by
      cases r with
      | bad => exact .inr hr
      | ok ys h' => rw [Res.bind_ok, hz xs ys h' hle] at hr; exact .inr hr
      | exc z h' => exact .inl ⟨z, h', rfl⟩
    rcases fin' _ q with ⟨z, h, hr⟩ | hr
    · have never : ∀ (l : List PV) (acc : List (PV × PV)) (h0 : Store), dcGo (dcF T Γ test k e) t (wipeE ρ own) l acc h0 ≠ .exc z h := fun l => by
        induction l with
        | nil => intro acc h0 hh; cases hh
        | cons y l ih =>
          intro acc h0 hh
          simp only [dcGo] at hh
          split at hh
          · cases hh
          · split at hh
            · split at hh
              · exact ih _ _ hh
              · cases hh
            · exact ih _ _ hh
            · cases hh
      exact never _ _ _ hr
    · exact hr
abbrev dcFin (xs : List PV) (ys : List (PV × PV)) (h2 : Store) : Res Val := if xs.length ≤ sizeMax then .ok (.p (.dct ys)) h2 else .bad
abbrev dcFinN (xs : List PV) (ys : List (PV × PV)) (h2 : Store) : Res Val := if xs.length ≤ sizeMax then .ok (.loc h2.length) (h2 ++ [.dct ys]) else .bad
theorem dc_lock {it : I} {test k e : C} {t : Tg} {own : List Nat} (ht : ∀ i ∈ tgNames t, i ∈ own) {σ : L2.St} {H : Hp} {Q Q2 : VK} {K : Val → Store → Mp → Hp → Prop} (hK : ∀ a h' m' H', K a h' m' H' → ∀ x, RepV D m' H' a x → Q x H') (h2 : ∀ v H1, LockQ Q v H1 → Q2 v H1)
    (p : tRes D W (evE T Γ (.dc it t own test k e)) K σ H) : tDc (tI D T Γ W it) (tG D t) (tB1 D T Γ W0 test) (tP D T Γ W0 k) (tP D T Γ W0 e) own σ H Q2 := by
  refine dc_reads (fin := dcFin) ht (fun xs ys h m1 H1 m H' a vs hle n1 ha ra nh ex S po => ?_) (fun xs ys h hn => by simp [dcFin, hn]) p
  simp only [dcFin, hle, if_true] at po
  refine h2 _ _ ⟨a, _, rfl, ha, rfl, fun od => ?_⟩
  have px : PExt H' (upd H' a (.frz od (.dK vs))) := PExt.upd_mut ha rfl
  exact hK _ _ _ _ (po m _ (Ext.grown ex n1 ha rfl) (S.keepP px fun b hb => upd_ne fun z => nh (z ▸ hb))) _ (.p (.dctK upd_same (ra.ext px)))
theorem snd_dc (cx : CxOk D T Γ nm an fa d G W X) {kx elt tg iter : Expr} {ifs : List Expr} {scope : Scope} {own : List (Str × Nat)} {pos : Pos} {it : I} {t : Tg} {test c ck : C} (L : LcOk D T Γ W X G tg iter ifs scope own it t test)
    (hk : ∀ (s : Shared) (H : Hp) (C : Addr) (cl : List (Str × Addr)) (fp : List Addr), PE (X.blk s H scope (compEnvC scope cl C X.env) fp) kx (tE D T Γ W0 ck))
    (he : ∀ (s : Shared) (H : Hp) (C : Addr) (cl : List (Str × Addr)) (fp : List Addr), PE (X.blk s H scope (compEnvC scope cl C X.env) fp) elt (tE D T Γ W0 c)) : PE X (.DictComp kx elt [⟨tg, iter, ifs, 0⟩] scope pos) (tE D T Γ W (.dc it t (own.map (·.2)) test ck c)) :=
  pe_mono (pe_lockd (pe_dc cx.calm (by rw [cx.N]; exact cx.nd) L.hi L.ok L.hg L.ht (fun s H C cl fp => pe_frz (hk s H C cl fp)) (fun s H C cl fp => pe_frz (he s H C cl fp)) L.hs)) fun σ H Q p => dc_lock L.own (fun _ _ _ _ z => z) (fun _ _ z => z) p
end
end Sw

end

section
/-! Statements. -/
namespace Sw
open PySem PyProof.Rows L2
section
variable (D : Wd) (T : Tab) (Γ : Calls) (W : WX)
/-- what is wanted behind a statement's code -/
def PostS (En : Ends) (m : Mp) (H : Hp) : RS → Prop
  | .bad => False
  | .nx ρ' h' => ∀ m' H' σ', Ext m H m' H' → RepS D m' H' h' → RepEnv D m' H' ρ' σ' → En.nx σ' H'
  | .rt v h' => ∀ m' H' x, Ext m H m' H' → RepS D m' H' h' → RepV D m' H' v x → En.rt x H'
  | .bk ρ' h' => ∀ m' H' σ', Ext m H m' H' → RepS D m' H' h' → RepEnv D m' H' ρ' σ' → En.bk σ' H'
  | .ct ρ' h' => ∀ m' H' σ', Ext m H m' H' → RepS D m' H' h' → RepEnv D m' H' ρ' σ' → En.ct σ' H'
  | .exc x ρ' h' => ∀ m' H' σ' cls d, Ext m H m' H' → RepS D m' H' h' → RepEnv D m' H' ρ' σ' → RepX D H' x cls d → W cls d σ' H'
def tS (c : S) : TS := fun En σ H => ∃ m h ρ, RepS D m H h ∧ RepEnv D m H ρ σ ∧ PostS D W En m H (evS T Γ c ρ h)
end
section
variable {D : Wd} {T : Tab} {Γ : Calls} {W : WX} {X : Cx} {e : Expr} {nm : Str → Option Gk} {an : Nat → Str} {fa : Nat → Addr} {d : Nat} {G : Gx}
theorem PostS.after {En : Ends} {m m1 : Mp} {H H1 : Hp} {r : RS} (p : PostS D W En m H r) (e : Ext m H m1 H1) : PostS D W En m1 H1 r := by
  cases r with
  | bad => exact p
  | nx ρ h => exact fun m' H' σ' e1 s R => p m' H' σ' (e.trans e1) s R
  | rt v h => exact fun m' H' x e1 s R => p m' H' x (e.trans e1) s R
  | bk ρ h => exact fun m' H' σ' e1 s R => p m' H' σ' (e.trans e1) s R
  | ct ρ h => exact fun m' H' σ' e1 s R => p m' H' σ' (e.trans e1) s R
  | exc x ρ h => exact fun m' H' σ' cls dd e1 s R => p m' H' σ' cls dd (e.trans e1) s R
theorem PostS.thn {α : Type} {En : Ends} {m : Mp} {H : Hp} {ρ : Env} {σ : L2.St} {r : Res α} {f : α → Store → RS} (R : RepEnv D m H ρ σ) (p : PostS D W En m H (r.thn ρ f)) : Post D W σ m H (fun a h1 m1 H1 => PostS D W En m1 H1 (f a h1)) r := by
  cases r with
  | bad => exact p
  | ok a h => exact fun m' H' e1 s => PostS.after (r := f a h) p e1
  | exc x h => exact fun m' H' cls dd e1 s rx => p m' H' σ cls dd e1 s (R.ext e1) rx
/-- the first part of a statement -/
theorem tS.thn {α : Type} {En : Ends} {σ : L2.St} {H : Hp} {ev : Env → Store → Res α} {f : Env → α → Store → RS} {K' : α → Store → Mp → Hp → Prop} (p : ∃ m h ρ, RepS D m H h ∧ RepEnv D m H ρ σ ∧ PostS D W En m H ((ev ρ h).thn ρ (f ρ)))
    (k : ∀ a h1 m1 H1 ρ, RepS D m1 H1 h1 → RepEnv D m1 H1 ρ σ → PostS D W En m1 H1 (f ρ a h1) → K' a h1 m1 H1) : tRes D W ev K' σ H := by
  obtain ⟨m, h, ρ, S, R, p⟩ := p
  exact ⟨m, h, ρ, S, R, (p.thn R).mono fun a h1 m1 H1 e s q => k a h1 m1 H1 ρ s (R.ext e) q⟩
theorem PostS.nx {En : Ends} {m : Mp} {H : Hp} {ρ : Env} {h : Store} {σ : L2.St} (p : PostS D W En m H (.nx ρ h)) (S : RepS D m H h) (R : RepEnv D m H ρ σ) : En.nx σ H := p m H σ (Ext.refl m H) S R
theorem ps_mono {st : Stmt} {t t' : TS} (h : PS X st t) (i : ∀ En σ H, t' En σ H → t En σ H) : PS X st t' := ⟨fun pins s σ H En I q => h.run pins s σ H En I (i En σ H q)⟩
theorem pss_mono {st : List Stmt} {t t' : TS} (h : PSs X st t) (i : ∀ En σ H, t' En σ H → t En σ H) : PSs X st t' := ⟨fun pins s σ H En I q => h.run pins s σ H En I (i En σ H q)⟩
theorem snd_snil : PSs X [] (tS D T Γ W .pass) := pss_mono pss_nil fun En σ H ⟨m, h, ρ, S, R, p⟩ => PostS.nx p S R
theorem PostS.seq {En : Ends} {m : Mp} {H : Hp} {r : RS} {b : S} (p : PostS D W En m H (r.seq (evS T Γ b))) : PostS D W { En with nx := tS D T Γ W b En } m H r := by
  cases r with
  | bad => exact p
  | nx ρ h => exact fun m' H' σ' e1 s R => ⟨m', h, ρ, s, R, PostS.after (r := evS T Γ b ρ h) p e1⟩
  | rt v h => exact p
  | bk ρ h => exact p
  | ct ρ h => exact p
  | exc x ρ h => exact p
theorem snd_scons {st : Stmt} {rest : List Stmt} {a b : S} (h1 : PS X st (tS D T Γ W a)) (h2 : PSs X rest (tS D T Γ W b)) : PSs X (st :: rest) (tS D T Γ W (.seq a b)) :=
  pss_mono (pss_cons h1 h2) fun En σ H ⟨m, h, ρ, S, R, p⟩ => ⟨m, h, ρ, S, R, PostS.seq p⟩
theorem snd_spass {pos : Pos} : PS X (.Pass pos) (tS D T Γ W .pass) := ps_mono ps_pass fun En σ H ⟨m, h, ρ, S, R, p⟩ => PostS.nx p S R
theorem snd_never {st : Stmt} : PS X st (tS D T Γ W .never) := ⟨fun pins s σ H En I ⟨m, h, ρ, S, R, p⟩ => False.elim p⟩
/-- not a comprehension -/
def noComp : Expr → Bool
  | .ListComp _ _ _ _ => false
  | .SetComp _ _ _ _ => false
  | .DictComp _ _ _ _ _ => false
  | _ => true
theorem noComp_sw {e : Expr} {tg : Option Expr} {l : Nat} {env : PySem.Env} (h : noComp e = true) : swapsWith e tg l env = pure false := by
  cases e <;> first | rfl | cases h
/-! ### assignments -/
theorem snd_set (cx : CxOk D T Γ nm an fa d G W X) {x : Str} {i : Nat} {c : C} {pos' pos : Pos} (hx : storeC G x = some i) (he : PE X e (tE D T Γ W c)) (hs : swapsWith e (some (.Name x pos')) pos.line X.env = pure false) : PS X (.Assign [.Name x pos'] e pos) (tS D T Γ W (.set i c)) := by
  obtain ⟨h1, h2, h3⟩ := storeC_ok hx
  refine ps_mono (ps_set (i := i) (by rw [cx.N]; exact cx.nd) (by rw [cx.N]; exact h1) (by rw [cx.sc]; exact h2) he hs (by rw [cx.fn, cx.sc]; exact h3)) fun En σ H p => ?_
  refine tS.thn (ev := evE T Γ c) p fun v h1 m1 H1 ρ S1 R1 q y ry => ?_
  exact q.nx S1 (R1.set i ry)
theorem set_reads {i : Nat} {c : C} {En : Ends} {σ : L2.St} {H : Hp} (p : tS D T Γ W (.set i c) En σ H) : tRes D W (evE T Γ c) (fun v _ m1 H1 => ∀ y, RepV D m1 H1 v y → En.nx (σ.set i (some y)) H1) σ H := by
  obtain ⟨m, h, ρ, S, R, p⟩ := p
  exact ⟨m, h, ρ, S, R, (PostS.thn (f := fun v h1 => .nx (ρ.set i (some v)) h1) R p).mono fun v h1 m1 H1 e s q y ry => q.nx s ((R.ext e).set i ry)⟩
/-- frozen behind a statement -/
theorem ps_lockd {st : Stmt} {t : TS} (h : PS X st t) : PS X st (fun En σ H => t { En with nx := fun σ' H' => ∃ p u, H' p = some u ∧ Still u = false ∧ ∀ od, En.nx σ' (upd H' p (.frz od u)) } σ H) := by
  refine ⟨fun pins s σ H En I q => L2.thn (h.run pins s σ H _ I q) fun f s1 hq => ?_⟩
  cases f with
  | next =>
    obtain ⟨σ', H', I', p, u, hp, hs, k⟩ := hq
    obtain ⟨od, I2⟩ := Inv.frozen I' hp hs
    exact ⟨σ', _, I2, k od⟩
  | ret v => exact hq
  | brk => exact hq
  | cont => exact hq
theorem sw_comp {elt : Expr} {gs : List Comprehension} {scope : Scope} {pos py : Pos} {y : Str} {l : Nat} (cx : CxOk D T Γ nm an fa d G W X) (hk : G.sc.kind = .function) (hy : G.sc.names.lookup y = some .local) (hl : (py.line == pos.line) = true)
    (ha : (scope.names.any fun p => p.1 == y && (p.2 == .local || p.2 == .cell)) = false) : swapsWith (.ListComp elt gs scope pos) (some (.Name y py)) l X.env = pure true :=
  sw_true (by rw [cx.sc]; exact hk) (by rw [cx.sc]; exact hy) hl ha
/-- x = [..] -/
theorem snd_setLc (cx : CxOk D T Γ nm an fa d G W X) {x : Str} {i : Nat} {elt tg iter : Expr} {ifs : List Expr} {scope : Scope} {own : List (Str × Nat)} {pos py spos : Pos} {it : I} {t : Tg} {test c : C} (hx : storeC G x = some i) (hy : G.sc.names.lookup x = some .local)
    (hsw : swapsWith (.ListComp elt [⟨tg, iter, ifs, 0⟩] scope pos) (some (.Name x py)) spos.line X.env = pure true) (L : LcOk D T Γ W X G tg iter ifs scope own it t test)
    (he : ∀ (s : Shared) (H : Hp) (C : Addr) (cl : List (Str × Addr)) (fp : List Addr), PE (X.blk s H scope (compEnvC scope cl C X.env) fp) elt (tE D T Γ W0 c)) :
    PS X (.Assign [.Name x py] (.ListComp elt [⟨tg, iter, ifs, 0⟩] scope pos) spos) (tS D T Γ W (.set i (.lc it t (own.map (·.2)) test c))) := by
  obtain ⟨h1, h2, h3⟩ := storeC_ok hx
  refine ps_mono (ps_lockd (ps_setLc (i := i) cx.calm (by rw [cx.N]; exact cx.nd) (by rw [cx.N]; exact h1) (by rw [cx.sc]; exact hy) hsw L.hi L.ok L.hg L.ht (fun s H C cl fp => pe_frz (he s H C cl fp)) L.hs)) fun En σ H p => ?_
  exact lc_lock (Q := fun y H1 => En.nx (σ.set i (some y)) H1) L.own (fun _ _ _ _ z => z) (fun v H1 ⟨p, u, _, h1, h2, h3⟩ => ⟨p, u, h1, h2, h3⟩) (set_reads p)
/-- x = [..], to be changed -/
theorem snd_setLcN (cx : CxOk D T Γ nm an fa d G W X) {x : Str} {i : Nat} {elt tg iter : Expr} {ifs : List Expr} {scope : Scope} {own : List (Str × Nat)} {pos py spos : Pos} {it : I} {t : Tg} {test c : C} (hx : storeC G x = some i) (hy : G.sc.names.lookup x = some .local)
    (hsw : swapsWith (.ListComp elt [⟨tg, iter, ifs, 0⟩] scope pos) (some (.Name x py)) spos.line X.env = pure true) (L : LcOk D T Γ W X G tg iter ifs scope own it t test)
    (he : ∀ (s : Shared) (H : Hp) (C : Addr) (cl : List (Str × Addr)) (fp : List Addr), PE (X.blk s H scope (compEnvC scope cl C X.env) fp) elt (tE D T Γ W0 c)) :
    PS X (.Assign [.Name x py] (.ListComp elt [⟨tg, iter, ifs, 0⟩] scope pos) spos) (tS D T Γ W (.set i (.lcN it t (own.map (·.2)) test c))) := by
  obtain ⟨h1, h2, h3⟩ := storeC_ok hx
  refine ps_mono (ps_setLc (i := i) cx.calm (by rw [cx.N]; exact cx.nd) (by rw [cx.N]; exact h1) (by rw [cx.sc]; exact hy) hsw L.hi L.ok L.hg L.ht (fun s H C cl fp => pe_frz (he s H C cl fp)) L.hs) fun En σ H p => ?_
  exact lc_new (Q := fun y H1 => En.nx (σ.set i (some y)) H1) L.own (fun _ _ _ _ z => z) (set_reads p)
/-- x = {..} by a comprehension -/
theorem ps_setDc {i : Nat} {y : Str} {py : Pos} {kx vx tg iter : Expr} {ifs : List Expr} {scope : Scope} {own : List (Str × Nat)} {pos spos : Pos} {wi : TI} {g : TG} {tt : TT} {tk tv : TE} (hc : X.calm = true) (hN : X.N.Nodup) (hy : X.N[i]? = some y) (hyl : X.env.scope.names.lookup y = some .local)
    (hsw : swapsWith (.DictComp kx vx [⟨tg, iter, ifs, 0⟩] scope pos) (some (.Name y py)) spos.line X.env = pure true) (hi : PI X tg iter wi) (ok : BlkOk X.N X.env.scope scope own)
    (hg : ∀ (s : Shared) (H : Hp) (C : Addr) (cl : List (Str × Addr)) (fp : List Addr), PG (X.blk s H scope (compEnvC scope cl C X.env) fp) tg g) (ht : ∀ (s : Shared) (H : Hp) (C : Addr) (cl : List (Str × Addr)) (fp : List Addr), PTs (X.blk s H scope (compEnvC scope cl C X.env) fp) ifs tt)
    (hk : ∀ (s : Shared) (H : Hp) (C : Addr) (cl : List (Str × Addr)) (fp : List Addr), PE (X.blk s H scope (compEnvC scope cl C X.env) fp) kx tk) (he : ∀ (s : Shared) (H : Hp) (C : Addr) (cl : List (Str × Addr)) (fp : List Addr), PE (X.blk s H scope (compEnvC scope cl C X.env) fp) vx tv) (hs : ∀ x, foldedSetIterable iter X.env x = pure x) :
    PS X (.Assign [.Name y py] (.DictComp kx vx [⟨tg, iter, ifs, 0⟩] scope pos) spos) (tAsg (tDc wi g tt tk tv (own.map (·.2))) (gName i)) := by
  refine ⟨fun pins s σ H En I hq => ?_⟩
  rw [exec_Assign_Name_used _ _ _ _ hsw]
  refine wpAny_bind (wpAny_standAt (wpAny_bind ?_))
  show wpAny _ X.A (do let _ ← comprehension (.DictComp kx vx [⟨tg, iter, ifs, 0⟩] scope pos) scope X.env (firstIterPos [⟨tg, iter, ifs, 0⟩] pos) newDict false (eval iter X.env) (some (assign (.Name y py) X.env))) _ _ s
  have hq2 : tDc wi g tt tk tv (own.map (·.2)) σ H (fun x H1 => gName i x σ H1 En.nx) := hq
  refine wpAny_bind (L2.thn (dc_core (Qf := fun _ s' => SP X pins En .next s') hc hN I hi ok hg ht hk he hs hq2 fun d0 C0 s' m H' I' q hn f => ?_) fun _ s' z => wpAny_pure (wpAny_pure z))
  show wpAny _ _ (assign (.Name y py) X.env (.ref d0)) _ _ _
  refine wpAny_assign_Name (store_ok2 (v := V.ref d0) I' hN hy (.inl hyl) rfl (fun s2 I2 ⟨a, sb, ha⟩ => ?_) (.inr hyl))
  obtain ⟨f0, f1, f2, f3, f4, f5⟩ := f
  have hne : C0 ≠ a := by
    rcases ha with z | z
    · rw [z]; exact f1
    · exact fun e => f4 y a z e.symm
  exact ⟨m, hn.sameBut sb hne, fun h3 sb3 => ⟨_, H', I2.turned (t' := s2.toks) (fun b o hb e => (sb3.2 b hb).trans e) f0 f1 f3 f4 f5, q⟩⟩
theorem snd_setDc (cx : CxOk D T Γ nm an fa d G W X) {x : Str} {i : Nat} {kx elt tg iter : Expr} {ifs : List Expr} {scope : Scope} {own : List (Str × Nat)} {pos py spos : Pos} {it : I} {t : Tg} {test c ck : C} (hx : storeC G x = some i) (hy : G.sc.names.lookup x = some .local)
    (hsw : swapsWith (.DictComp kx elt [⟨tg, iter, ifs, 0⟩] scope pos) (some (.Name x py)) spos.line X.env = pure true) (L : LcOk D T Γ W X G tg iter ifs scope own it t test)
    (hk : ∀ (s : Shared) (H : Hp) (C : Addr) (cl : List (Str × Addr)) (fp : List Addr), PE (X.blk s H scope (compEnvC scope cl C X.env) fp) kx (tE D T Γ W0 ck))
    (he : ∀ (s : Shared) (H : Hp) (C : Addr) (cl : List (Str × Addr)) (fp : List Addr), PE (X.blk s H scope (compEnvC scope cl C X.env) fp) elt (tE D T Γ W0 c)) :
    PS X (.Assign [.Name x py] (.DictComp kx elt [⟨tg, iter, ifs, 0⟩] scope pos) spos) (tS D T Γ W (.set i (.dc it t (own.map (·.2)) test ck c))) := by
  obtain ⟨h1, h2, h3⟩ := storeC_ok hx
  refine ps_mono (ps_lockd (ps_setDc (i := i) cx.calm (by rw [cx.N]; exact cx.nd) (by rw [cx.N]; exact h1) (by rw [cx.sc]; exact hy) hsw L.hi L.ok L.hg L.ht (fun s H C cl fp => pe_frz (hk s H C cl fp)) (fun s H C cl fp => pe_frz (he s H C cl fp)) L.hs)) fun En σ H p => ?_
  exact dc_lock (Q := fun y H1 => En.nx (σ.set i (some y)) H1) L.own (fun _ _ _ _ z => z) (fun v H1 ⟨p, u, _, h1, h2, h3⟩ => ⟨p, u, h1, h2, h3⟩) (set_reads p)
end
end Sw

end

section
/-! More statements. -/
namespace Sw
open PySem PyProof.Rows L2
/-! ### several names at once -/
def isStarE : Expr → Bool
  | .Starred .. => true
  | _ => false
def swNames (sc : Scope) (line : Nat) (ts : List Expr) : List Str := ts.filterMap fun
  | .Name id pos => if sc.names.lookup id == some .local && pos.line == line then some id else none
  | _ => none
/-- how the stores of a tuple are ordered -/
def swB (sc : Scope) (ts vs : List Expr) : Option (Option (List Str)) :=
  if (!(ts.length == 2 || ts.length == 3) || vs.length != ts.length) = true then some none
  else if (vs.any isStarE) = true then some none
  else if ((swNames sc ((ts.head?.map (·.pos.line)).getD 0) ts).length != ts.length || (swNames sc ((ts.head?.map (·.pos.line)).getD 0) ts).eraseDups.length != (swNames sc ((ts.head?.map (·.pos.line)).getD 0) ts).length) = true then some none
  else if (vs.all (foldedForSure 8)) = true then some none
  else if (vs.all (constantsAlone 8)) = true then none
  else some (some (swNames sc ((ts.head?.map (·.pos.line)).getD 0) ts))
theorem swB_ok {env : PySem.Env} {ts vs : List Expr} {k k2 : Nat} {p p2 : Pos} {r : Option (List Str)} (hk : env.scope.kind = .function) (h : swB env.scope ts vs = some r) : swappedStores [.Tuple ts k p] (.Tuple vs k2 p2) env = pure r := by
  have hb : env.blockKind = .function := by unfold Env.blockKind; rw [hk]; rfl
  unfold swappedStores
  simp only [hb]
  unfold swB at h
  split at h
  · rename_i c
    cases h
    have c2 : (!(ts.length == 2 || ts.length == 3) || vs.length != ts.length || (ScopeKind.function != ScopeKind.function)) = true := by rw [c]; rfl
    rw [if_pos c2]
  · rename_i c
    have c2 : ¬ (!(ts.length == 2 || ts.length == 3) || vs.length != ts.length || (ScopeKind.function != ScopeKind.function)) = true := by
      intro z
      apply c
      cases q : (!(ts.length == 2 || ts.length == 3) || vs.length != ts.length) with
      | true => rfl
      | false => rw [q] at z; cases z
    rw [if_neg c2]
    split at h
    · rename_i c; cases h; exact if_pos c
    · rename_i c
      refine (if_neg c).trans ?_
      split at h
      · rename_i c; cases h; exact if_pos c
      · rename_i c
        refine (if_neg c).trans ?_
        split at h
        · rename_i c; cases h; exact if_pos c
        · rename_i c
          refine (if_neg c).trans ?_
          split at h
          · cases h
          · rename_i c
            cases h
            exact if_neg c
section
variable {D : Wd} {T : Tab} {Γ : Calls} {W : WX} {X : Cx} {e : Expr} {nm : Str → Option Gk} {an : Nat → Str} {fa : Nat → Addr} {d : Nat} {G : Gx}
def gNames : List Nat → TGs
  | [] => gNil
  | i :: r => gCons (gName i) (gNames r)
/-- names, as a tuple's targets -/
def storesC (G : Gx) : List Expr → Option (List Nat)
  | [] => some []
  | .Name x _ :: r => match storeC G x, storesC G r with
    | some i, some is => some (i :: is)
    | _, _ => none
  | _ => none
theorem storesC_ok (cx : StOk G X) : ∀ {ts : List Expr} {is : List Nat}, storesC G ts = some is → PGs X ts (gNames is) ∧ noStars ts = true ∧ is.length = ts.length
  | [], is, h => by cases h; exact ⟨pgs_nil, rfl, rfl⟩
  | t :: r, is, h => by
    cases t <;> first | (simp [storesC] at h; done) | skip
    rename_i x pos
    simp only [storesC] at h
    split at h
    · rename_i i js hi hj
      cases h
      obtain ⟨p, s, l⟩ := storesC_ok cx hj
      obtain ⟨h1, h2, h3⟩ := storeC_ok hi
      refine ⟨pgs_cons (pg_name (by rw [cx.N]; exact cx.nd) (by rw [cx.N]; exact h1) (by rw [cx.sc]; exact h2) (by rw [cx.fn, cx.sc]; exact h3)) p rfl, s, by simp [l]⟩
    · cases h
theorem gNames_all {m : Mp} {Q : L2.St → Hp → Prop} {H : Hp} : ∀ {is : List Nat} {ws : List Val} {vs : List V} {ρ ρ' : Env} {σ : L2.St}, RepVs D m H ws vs → RepEnv D m H ρ σ → setAll is ws ρ = some ρ' → (∀ σ', RepEnv D m H ρ' σ' → Q σ' H) → gNames is vs σ H Q
  | [], ws, vs, ρ, ρ', σ, rv, R, h, k => by
    cases ws with
    | nil => cases rv; cases h; exact ⟨rfl, k σ R⟩
    | cons w ws => cases h
  | i :: is, ws, vs, ρ, ρ', σ, rv, R, h, k => by
    cases ws with
    | nil => cases h
    | cons w ws =>
      cases rv with
      | cons r1 r2 => exact ⟨_, _, rfl, gNames_all r2 (R.set i r1) h k⟩
theorem par_reads {is : List Nat} {es : CL} {En : Ends} {σ : L2.St} {H : Hp} {K' : List Val → Store → Mp → Hp → Prop} (p : tS D T Γ W (.par is es) En σ H)
    (k : ∀ ws h1 m1 H1 ρ ρ', RepS D m1 H1 h1 → RepEnv D m1 H1 ρ σ → setAll is ws ρ = some ρ' → PostS D W En m1 H1 (.nx ρ' h1) → K' ws h1 m1 H1) : tRes D W (evVs T Γ es) K' σ H := by
  obtain ⟨m, h, ρ, S, R, p⟩ := p
  refine ⟨m, h, ρ, S, R, (PostS.thn R p).mono fun ws h1 m1 H1 e s q => ?_⟩
  cases hs : setAll is ws ρ with
  | none => rw [hs] at q; exact False.elim q
  | some ρ' => rw [hs] at q; exact k ws h1 m1 H1 ρ ρ' s (R.ext e) hs q
theorem RepVs.len {m : Mp} {H : Hp} : ∀ {ws : List Val} {vs : List V}, RepVs D m H ws vs → ws.length = vs.length
  | _, _, .nil => rfl
  | _, _, .cons _ r => by simp [RepVs.len r]
theorem setAll_len : ∀ {is : List Nat} {ws : List Val} {ρ ρ' : Env}, setAll is ws ρ = some ρ' → ws.length = is.length
  | [], [], _, _, _ => rfl
  | [], _ :: _, _, _, h => by cases h
  | _ :: _, [], _, _, h => by cases h
  | i :: is, w :: ws, ρ, ρ', h => by
    have := setAll_len (is := is) (ws := ws) h
    simp [this]
theorem snd_par (cx : CxOk D T Γ nm an fa d G W X) {ts vs : List Expr} {is : List Nat} {as : CL} {k k2 : Nat} {p p2 pos : Pos} (hk : G.sc.kind = .function) (ht : storesC G ts = some is) (hw : swB G.sc ts vs = some none) (ha : PA X vs (tVs D T Γ W as)) (hz : is.length ≤ 1000) :
    PS X (.Assign [.Tuple ts k p] (.Tuple vs k2 p2) pos) (tS D T Γ W (.par is as)) := by
  obtain ⟨hpg, hst, hl⟩ := storesC_ok cx.st ht
  have pg := pg_tup (k := k) (pos := p) (n := ts.length) cx.calm hpg (star_none hst).1 (star_none hst).2
  have sw : swappedStores [.Tuple ts k p] (.Tuple vs k2 p2) X.env = pure none := swB_ok (by rw [cx.sc]; exact hk) (by rw [cx.sc]; exact hw)
  refine ps_mono (ps_asg (pe_tup ha) pg rfl sw rfl) fun En σ H pp => ?_
  refine par_reads pp fun ws h1 m1 H1 ρ ρ' S1 R1 hs q xs rx => ?_
  have hlen : xs.length = is.length := by rw [← rx.len, setAll_len hs]
  refine ⟨by rw [hlen]; have := sizeLine_eq; omega, fun a na => ?_⟩
  have ex := Ext.fresh (m := m1) (u := .tup xs) na
  refine ⟨a, xs, rfl, .inl (.inl upd_same), by rw [hlen, hl], gNames_all (m := m1) (rx.ext ex) (R1.ext ex) hs fun σ' R' => ?_⟩
  exact q m1 _ σ' ex (S1.fresh na) R'
theorem setAll2 {i j : Nat} {v w : Val} {ρ : Env} : setAll [i, j] [v, w] ρ = some ((ρ.set i (some v)).set j (some w)) := rfl
theorem snd_par2 (cx : CxOk D T Γ nm an fa d G W X) {x y : Str} {a b : Expr} {i j : Nat} {as : CL} {k k2 : Nat} {px py p p2 pos : Pos} (hk : G.sc.kind = .function) (hx : storeC G x = some i) (hy : storeC G y = some j) (hij : i ≠ j) (hxl : G.sc.names.lookup x = some .local) (hyl : G.sc.names.lookup y = some .local)
    (hw : swB G.sc [.Name x px, .Name y py] [a, b] = some (some [x, y])) (ha : PA X [a, b] (tVs D T Γ W as)) : PS X (.Assign [.Tuple [.Name x px, .Name y py] k p] (.Tuple [a, b] k2 p2) pos) (tS D T Γ W (.par [i, j] as)) := by
  have sw := swB_ok (env := X.env) (k := k) (p := p) (k2 := k2) (p2 := p2) (by rw [cx.sc]; exact hk) (by rw [cx.sc]; exact hw)
  refine ps_mono (ps_par (i := i) (j := j) cx.calm (by rw [cx.N]; exact cx.nd) (by rw [cx.N]; exact (storeC_ok hx).1) (by rw [cx.N]; exact (storeC_ok hy).1) hij (by rw [cx.sc]; exact hxl) (by rw [cx.sc]; exact hyl) ha sw rfl) fun En σ H pp => ?_
  refine par_reads pp fun ws h1 m1 H1 ρ ρ' S1 R1 hs q xs rx => ?_
  match ws, rx, hs with
  | [], _, hs => cases hs
  | [_], _, hs => cases hs
  | _ :: _ :: _ :: _, _, hs => cases hs
  | [v, w], .cons r1 (.cons r2 .nil), hs =>
    cases hs
    exact ⟨_, _, rfl, q.nx S1 ((R1.set i r1).set j r2)⟩
theorem snd_par3 (cx : CxOk D T Γ nm an fa d G W X) {x y z : Str} {a b c : Expr} {i j l : Nat} {as : CL} {k k2 : Nat} {px py pz p p2 pos : Pos} (hk : G.sc.kind = .function) (hx : storeC G x = some i) (hy : storeC G y = some j) (hz : storeC G z = some l) (hij : i ≠ j) (hil : i ≠ l) (hjl : j ≠ l)
    (hxl : G.sc.names.lookup x = some .local) (hyl : G.sc.names.lookup y = some .local) (hzl : G.sc.names.lookup z = some .local)
    (hw : swB G.sc [.Name x px, .Name y py, .Name z pz] [a, b, c] = some (some [x, y, z])) (ha : PA X [a, b, c] (tVs D T Γ W as)) : PS X (.Assign [.Tuple [.Name x px, .Name y py, .Name z pz] k p] (.Tuple [a, b, c] k2 p2) pos) (tS D T Γ W (.par [i, j, l] as)) := by
  have sw := swB_ok (env := X.env) (k := k) (p := p) (k2 := k2) (p2 := p2) (by rw [cx.sc]; exact hk) (by rw [cx.sc]; exact hw)
  refine ps_mono (ps_par3 (i := i) (j := j) (l := l) cx.calm (by rw [cx.N]; exact cx.nd) (by rw [cx.N]; exact (storeC_ok hx).1) (by rw [cx.N]; exact (storeC_ok hy).1) (by rw [cx.N]; exact (storeC_ok hz).1) hij hil hjl (by rw [cx.sc]; exact hxl) (by rw [cx.sc]; exact hyl) (by rw [cx.sc]; exact hzl) ha sw rfl) fun En σ H pp => ?_
  refine par_reads pp fun ws h1 m1 H1 ρ ρ' S1 R1 hs q xs rx => ?_
  match ws, rx, hs with
  | [], _, hs => cases hs
  | [_], _, hs => cases hs
  | [_, _], _, hs => cases hs
  | _ :: _ :: _ :: _ :: _, _, hs => cases hs
  | [u, v, w], .cons r1 (.cons r2 (.cons r3 .nil)), hs =>
    cases hs
    exact ⟨_, _, _, rfl, q.nx S1 (((R1.set i r1).set j r2).set l r3)⟩
/-- (a, b) = e -/
def noTup : Expr → Bool
  | .Tuple _ _ _ => false
  | _ => true
theorem noTup_sw {ts : List Expr} {v : Expr} {k : Nat} {p : Pos} {env : PySem.Env} (h : noTup v = true) : swappedStores [.Tuple ts k p] v env = pure none := by
  cases v <;> first | rfl | cases h
theorem snd_unpack (cx : CxOk D T Γ nm an fa d G W X) {ts : List Expr} {v : Expr} {t : Tg} {c : C} {k : Nat} {p pos : Pos} (ht : PG X (.Tuple ts k p) (tG D t)) (he : PE X v (tE D T Γ W c)) (h1 : noTup v = true) : PS X (.Assign [.Tuple ts k p] v pos) (tS D T Γ W (.unpack t c)) := by
  refine ps_mono (ps_asg (pe_frz he) ht (by cases v <;> rfl) (noTup_sw h1) rfl) fun En σ H pp => ?_
  refine tS.thn (ev := evP T Γ c) pp fun x h1 m1 H1 ρ S1 R1 q y ry => ?_
  cases es : setTg t x ρ with
  | none => simp only [es] at q; exact False.elim q
  | some ρ' =>
    simp only [es] at q
    exact ⟨m1, ρ, x, ρ', R1, ry, es, fun σ' R' _ => q.nx S1 R'⟩
end
end Sw

end

section
/-! Stores, tests, loops. -/
namespace Sw
open PySem PyProof.Rows L2
section
variable {D : Wd} {T : Tab} {Γ : Calls} {W : WX} {X : Cx} {e : Expr} {nm : Str → Option Gk} {an : Nat → Str} {fa : Nat → Addr} {d : Nat} {G : Gx}
theorem snd_expr (cx : CxOk D T Γ nm an fa d G W X) {c : C} {pos : Pos} (he : PE X e (tE D T Γ W c)) (hs : noComp e = true) : PS X (.Expr e pos) (tS D T Γ W (.expr c)) := by
  refine ps_mono (ps_expr he (noComp_sw hs)) fun En σ H p => ?_
  refine tS.thn (ev := evE T Γ c) p fun v h1 m1 H1 ρ S1 R1 q y ry => ?_
  exact q.nx S1 R1
theorem snd_ret (cx : CxOk D T Γ nm an fa d G W X) {c : C} {pos : Pos} (he : PE X e (tE D T Γ W c)) : PS X (.Return (some e) pos) (tS D T Γ W (.retV c)) := by
  refine ps_mono (ps_ret he) fun En σ H p => ?_
  refine tS.thn (ev := evE T Γ c) p fun v h1 m1 H1 ρ S1 R1 q y ry => ?_
  exact q m1 H1 y (Ext.refl m1 H1) S1 ry
theorem snd_if (cx : CxOk D T Γ nm an fa d G W X) {t : Expr} {a b : List Stmt} {c : C} {ca cb : S} {pos : Pos} (ht : PT X t (tB1 D T Γ W c)) (ha : PSs X a (tS D T Γ W ca)) (hb : PSs X b (tS D T Γ W cb)) : PS X (.If t a b pos) (tS D T Γ W (.ite c ca cb)) := by
  refine ps_mono (ps_if ht ha hb) fun En σ H p => ?_
  refine tS.thn (ev := evB T Γ c) p fun v h1 m1 H1 ρ S1 R1 q => ?_
  cases v with
  | true => rw [if_pos rfl]; exact ⟨m1, h1, ρ, S1, R1, q⟩
  | false => rw [if_neg Bool.false_ne_true]; exact ⟨m1, h1, ρ, S1, R1, q⟩
/-! ### loops -/
theorem PostS.turn {En : Ends} {m : Mp} {H : Hp} {r : RS} {f : Env → Store → RS} {N : L2.St → Hp → Prop} (p : PostS D W En m H (r.turn f)) (hN : ∀ ρ h m' H' σ', Ext m H m' H' → RepS D m' H' h → RepEnv D m' H' ρ σ' → PostS D W En m' H' (f ρ h) → N σ' H') : PostS D W { En with nx := N, ct := N, bk := En.nx } m H r := by
  cases r with
  | bad => exact p
  | nx ρ h => exact fun m' H' σ' e1 s R => hN ρ h m' H' σ' e1 s R (PostS.after (r := f ρ h) p e1)
  | rt v h => exact p
  | bk ρ h => exact p
  | ct ρ h => exact fun m' H' σ' e1 s R => hN ρ h m' H' σ' e1 s R (PostS.after (r := f ρ h) p e1)
  | exc x ρ h => exact p
theorem snd_for (cx : CxOk D T Γ nm an fa d G W X) {tg iter : Expr} {body : List Stmt} {it : I} {t : Tg} {b : S} {pos : Pos} (hi : PI X tg iter (tI D T Γ W it)) (hg : PG X tg (tG D t)) (hb : PSs X body (tS D T Γ W b)) (hs : isSetE iter = false) : PS X (.For tg iter body [] pos) (tS D T Γ W (.for_ it t b)) := by
  refine ps_mono (ps_for cx.po cx.calm hi hg hb (unfolded hs)) fun En σ H p => ?_
  refine tS.thn (ev := evI T Γ it) p fun xs h1 m1 H1 ρ S1 R1 q J wk => ?_
  refine for_it wk (fun i σ' H' => ∃ m h ρ', RepS D m H' h ∧ RepEnv D m H' ρ' σ' ∧ PExt H1 H' ∧ PostS D W En m H' (forGo (evS T Γ b) t (xs.drop i) ρ' h)) ⟨m1, h1, ρ, S1, R1, PExt.refl H1, q⟩ (fun i σ' H' hi ⟨m, h, ρ', S, R, px, po⟩ => px) (fun i x σ' H2 H3 hi ⟨m, h, ρ', S, R, px, po⟩ ⟨g, v, hv, rv⟩ => ?_) fun σ' H' ⟨m, h, ρ', S, R, px, po⟩ => ?_
  · have hd : xs.drop i = v :: xs.drop (i + 1) := by
      rw [List.drop_eq_getElem_cons hi]
      congr 1
      rw [List.getElem?_eq_getElem hi] at hv
      exact Option.some.inj hv
    rw [hd] at po
    simp only [forGo] at po
    cases es : setTg t v ρ' with
    | none => rw [es] at po; exact False.elim po
    | some ρ1 =>
      rw [es] at po
      simp only at po
      have gm := g m
      refine ⟨m, ρ', v, ρ1, R.ext gm.1, rv, es, fun σ2 R2 _ => ⟨m, h, ρ1, gm.2 h S, R2, PostS.turn (PostS.after po gm.1) fun ρ2 h2 m2 H4 σ4 e4 S4 R4 po4 => ⟨m2, h2, ρ2, S4, R4, (px.trans gm.1.px).trans e4.px, po4⟩⟩⟩
  · rw [List.drop_length] at po
    exact PostS.nx po S R
theorem snd_while (cx : CxOk D T Γ nm an fa d G W X) {t : Expr} {body : List Stmt} {c : C} {b : S} {pos : Pos} (ht : PT X t (tB1 D T Γ W c)) (hb : PSs X body (tS D T Γ W b)) : PS X (.While t body [] pos) (tS D T Γ W (.while_ c b)) := by
  refine ps_mono (ps_while cx.po ht hb) fun En σ H ⟨m, h, ρ, S, R, p⟩ => ?_
  refine ⟨fun n σ' H' => ∃ m h ρ', RepS D m H' h ∧ RepEnv D m H' ρ' σ' ∧ PostS D W En m H' (whileGo (evB T Γ c) (evS T Γ b) n ρ' h), ⟨Γ.fuel, m, h, ρ, S, R, p⟩, fun n σ' H' ⟨m, h, ρ', S, R, p⟩ => ?_⟩
  cases n with
  | zero => exact False.elim p
  | succ n =>
    refine ⟨m, h, ρ', S, R, (PostS.thn R p).mono fun v h1 m1 H1 e1 S1 q => ?_⟩
    cases v with
    | true =>
      rw [if_pos rfl]
      refine ⟨fun σ2 H2 => ∃ m h ρ2, RepS D m H2 h ∧ RepEnv D m H2 ρ2 σ2 ∧ PostS D W En m H2 (whileGo (evB T Γ c) (evS T Γ b) n ρ2 h), fun σ2 H2 z => ⟨n, Nat.lt_succ_self n, z⟩, m1, h1, ρ', S1, R.ext e1, ?_⟩
      exact PostS.turn q fun ρ2 h2 m2 H4 σ4 e4 S4 R4 po4 => ⟨m2, h2, ρ2, S4, R4, po4⟩
    | false =>
      rw [if_neg Bool.false_ne_true]
      exact PostS.nx q S1 (R.ext e1)
/-! ### stores -/
theorem snd_aug (cx : CxOk D T Γ nm an fa d G W X) {x : Str} {i : Nat} {c : C} {pos' pos : Pos} (hx : storeC G x = some i) (he : PE X e (tE D T Γ W c)) : PS X (.AugAssign (.Name x pos') .Add e pos) (tS D T Γ W (.aug i .add c)) := by
  obtain ⟨h1, h2, h3⟩ := storeC_ok hx
  refine ps_mono (ps_aug (i := i) (by rw [cx.N]; exact cx.nd) (by rw [cx.N]; exact h1) (by rw [cx.sc]; exact h2) (pe_frz he) ip_add (by rw [cx.fn, cx.sc]; exact h3)) fun En σ H ⟨m, h, ρ, S, R, p⟩ => ?_
  simp only [evS] at p
  cases hv : ρ[i]? with
  | none => rw [hv] at p; exact False.elim p
  | some ov =>
    rw [hv] at p
    cases ov with
    | none => exact False.elim p
    | some v =>
      cases v with
      | loc l => exact False.elim p
      | p pv =>
        cases pv <;> try exact False.elim p
        rename_i n
        simp only at p
        obtain ⟨y, hy, ry⟩ := R.2 i _ hv
        cases ry with
        | p ry =>
          cases ry
          refine ⟨_, hy, m, h, ρ, S, R, (PostS.thn R p).mono fun z h1 m1 H1 e1 S1 q w rw_ => ?_⟩
          cases z <;> try exact False.elim q
          cases rw_
          exact ⟨_, _, rfl, rfl, q.nx S1 ((R.ext e1).set i (.p (.int _)))⟩
theorem pset_or {t t' : TSet} (h : PSet X t) (h' : PSet X t') : PSet X (fun o i v H Q => t o i v H Q ∨ t' o i v H Q) := by
  intro pins s σ H o i v ov iv u Q I ro ri rv q
  rcases q with q | q
  · exact h pins s σ H o i v ov iv u Q I ro ri rv q
  · exact h' pins s σ H o i v ov iv u Q I ro ri rv q
/-- a list of the store is changed -/
theorem write_at {m : Mp} {H : Hp} {h : Store} {l : Nat} {q : Addr × Addr} {u u' : HO} {o : EO} (S : RepS D m H h) (hq : m[l]? = some q) (hu : H q.1 = some u) (hs : Still u = false) (new : PExt H (upd H q.1 u') → RepE D m (upd H q.1 u') q o) : Ext m H m (upd H q.1 u') ∧ RepS D m (upd H q.1 u') (h.set l o) := by
  have px : PExt H (upd H q.1 u') := PExt.upd_mut hu hs
  have k : ∀ a, a ≠ q.1 → a ≠ q.2 → upd H q.1 u' a = H a := fun a n _ => upd_ne n
  have t2 : ∃ v, upd H q.1 u' q.2 = some v := by
    by_cases z : q.2 = q.1
    · rw [z]; exact ⟨_, upd_same⟩
    · rw [upd_ne z]; exact S.trk _ (Has.of hq).2
  have ex := Ext.write S hq px k ⟨_, upd_same⟩ t2
  exact ⟨ex, S.write hq ex k (new px)⟩
theorem snd_iset (cx : CxOk D T Γ nm an fa d G W X) {o i : Expr} {co ci c : C} {spos pos : Pos} (ho : PE X o (tE D T Γ W co)) (hi : PE X i (tE D T Γ W ci)) (he : PE X e (tE D T Γ W c)) (hix : plainIxE i = true) (hc : noComp e = true) : PS X (.Assign [.Subscript o i spos] e pos) (tS D T Γ W (.iset co ci c)) := by
  have hD := cx.wd
  have pg : PG X (.Subscript o i spos) (gSub (tE D T Γ W co) (tP D T Γ W ci) _) := pg_sub (pos := spos) ho (pe_frz hi) (pset_or set_list (set_dictP (ca := D.ca) (xf := D.xf) cx.room.units)) (by intro v; cases i <;> first | rfl | cases hix)
  refine ps_mono (ps_asg (pe_frz he) pg (show swapsWith e (some (.Subscript o i spos)) pos.line X.env = pure false from noComp_sw hc) (by cases e <;> rfl) rfl) fun En σ H p => ?_
  refine tS.thn (ev := evP T Γ c) p fun v h1 m1 H1 ρ S1 R1 q vv rv => ?_
  refine ⟨m1, h1, ρ, S1, R1, (PostS.thn R1 q).mono fun x h2 m2 H2 e2 S2 q2 xv rx => ?_⟩
  refine ⟨m2, h2, ρ, S2, R1.ext e2, (PostS.thn (R1.ext e2) q2).mono fun y h3 m3 H3 e3 S3 q3 yv ry => ?_⟩
  have rx3 := rx.ext e3
  have rv3 := (rv.ext e2.px).ext e3.px
  have R3 := (R1.ext e2).ext e3
  cases x with
  | p pv => exact False.elim q3
  | loc l =>
    simp only at q3
    cases hl : h3[l]? with
    | none => rw [hl] at q3; exact False.elim q3
    | some eo =>
      rw [hl] at q3
      cases rx3 with
      | @loc _ qa hq =>
        have R := S3.at_ l eo qa hl hq
        cases eo with
        | lst ps =>
          cases y <;> try exact False.elim q3
          rename_i n
          simp only at q3
          obtain ⟨xs, ha, ra⟩ := R
          cases hj : ixN ps.length n with
          | none => rw [hj] at q3; exact False.elim q3
          | some j =>
            rw [hj] at q3
            cases ry
            refine .inl ⟨qa.1, xs, n, j, rfl, rfl, ha, by rw [← ra.len]; exact hj, ?_⟩
            obtain ⟨ex, S4⟩ := write_at (o := .lst (ps.set j v)) (u' := .lst (xs.set j vv)) S3 hq ha rfl fun px => ⟨_, upd_same, (RepL.setAt rv3 j ra).ext px⟩
            exact q3 m3 _ _ ex S4 (R3.ext ex)
        | dct kvs =>
          simp only at q3
          split at q3
          · rename_i hf
            obtain ⟨hf1, hf2⟩ := Bool.and_eq_true_iff.mp hf
            refine .inr ?_
            rw [← hD]
            refine ⟨qa.1, kvs, y, v, rfl, R, ry, rv3, hf1, by rw [← sizeMax_eq]; exact of_decide_eq_true hf2, fun u hu md => ?_⟩
            have hm : ∃ w, H3 qa.1 = some w ∧ Still w = false := by
              rcases R with ⟨ks, z, _⟩ | ⟨xs, z, _⟩
              · exact ⟨_, z, rfl⟩
              · exact ⟨_, z, rfl⟩
            obtain ⟨w, hw, hsw⟩ := hm
            obtain ⟨ex, S4⟩ := write_at (o := .dct (dPut kvs y v)) (u' := u) S3 hq hw hsw fun px => md
            exact q3 m3 _ _ ex S4 (R3.ext ex)
          · exact False.elim q3
        | obj c fs => exact False.elim q3
        | fzn p => exact False.elim q3
theorem snd_append (cx : CxOk D T Γ nm an fa d G W X) {o : Expr} {co c : C} {apos cpos pos : Pos} (ho : PE X o (tE D T Γ W co)) (he : PE X e (tE D T Γ W c)) (hb : plainBase o = true) (hp : (apos.endLine == cpos.line) = true) (hs : noStar e = true) :
    PS X (.Expr (.Call (.Attribute o "append" apos) [e] [] cpos) pos) (tS D T Γ W (.append co c)) := by
  have hK : X.K = D.K := by rw [cx.wd]; rfl
  refine ps_mono (ps_expr (pe_bm PySem.F.plainAttrs_list PySem.F.slot_list_append PySem.F.type_list_append mt_append ho (pa_cons (pe_frz he) pa_nil (starEach_no hs)) (base_plain hb) (by rw [starEach_no hs]; rfl) hp (starEach_no hs) rfl) rfl) fun En σ H p => ?_
  refine tS.thn (ev := evE T Γ co) p fun x h1 m1 H1 ρ S1 R1 q xv rx => ?_
  by_cases hlst : isLst h1 x = true
  · rw [if_pos hlst] at q
    cases x with
    | p pv => cases hlst
    | loc l =>
      simp only [isLst] at hlst
      split at hlst
      · rename_i ps0 hl0
        cases rx with
        | @loc _ qa hq =>
          obtain ⟨xs0, ha0, ra0⟩ := S1.at_ l _ qa hl0 hq
          refine ⟨.inl ⟨rfl, xs0, SqL.of ha0⟩, m1, h1, ρ, S1, R1, (PostS.thn R1 q).mono fun v h2 m2 H2 e2 S2 q2 vv rv => ?_⟩
          simp only at q2
          cases hl : h2[l]? with
          | none => rw [hl] at q2; exact False.elim q2
          | some eo =>
            rw [hl] at q2
            cases eo <;> try exact False.elim q2
            rename_i ps
            simp only at q2
            have hq2 := e2.pre _ _ hq
            obtain ⟨xs, ha, ra⟩ := S2.at_ l _ qa hl hq2
            split at q2
            · rename_i hz
              refine ⟨qa.1, xs, vv, rfl, rfl, ha, by rw [← ra.len, ← sizeMax_eq]; exact hz, ?_⟩
              obtain ⟨ex, S4⟩ := write_at (o := .lst (ps ++ [v])) (u' := .lst (xs ++ [vv])) S2 hq2 ha rfl fun px => ⟨_, upd_same, (ra.app (.cons rv .nil)).ext px⟩
              exact q2 m2 _ _ ex S4 ((R1.ext e2).ext ex)
            · exact False.elim q2
      · cases hlst
  · rw [if_neg hlst] at q
    exact False.elim q
theorem repSl_len {m : Mp} {H : Hp} : ∀ {fs : List (Option Val)} {vs : List (Option V)}, RepSl D m H fs vs → fs.length = vs.length
  | _, _, .nil => rfl
  | _, _, .none r => by simp [repSl_len r]
  | _, _, .some _ r => by simp [repSl_len r]
theorem repSl_pad {m : Mp} {H : Hp} : ∀ (n : Nat), RepSl D m H (List.replicate n Option.none) (List.replicate n Option.none)
  | 0 => .nil
  | n + 1 => .none (repSl_pad n)
theorem repSl_app {m : Mp} {H : Hp} {gs : List (Option Val)} {ws : List (Option V)} (r2 : RepSl D m H gs ws) : ∀ {fs : List (Option Val)} {vs : List (Option V)}, RepSl D m H fs vs → RepSl D m H (fs ++ gs) (vs ++ ws)
  | _, _, .nil => r2
  | _, _, .none r => .none (repSl_app r2 r)
  | _, _, .some h r => .some h (repSl_app r2 r)
theorem repSl_set {m : Mp} {H : Hp} {v : Val} {x : V} (rv : RepV D m H v x) : ∀ {fs : List (Option Val)} {vs : List (Option V)} (i : Nat), RepSl D m H fs vs → RepSl D m H (fs.set i (Option.some v)) (vs.set i (Option.some x))
  | _, _, _, .nil => .nil
  | _, _, 0, .none r => .some rv r
  | _, _, 0, .some _ r => .some rv r
  | _, _, i + 1, .none r => .none (repSl_set rv i r)
  | _, _, i + 1, .some h r => .some h (repSl_set rv i r)
theorem repSl_put {m : Mp} {H : Hp} {v : Val} {x : V} {fs : List (Option Val)} {vs : List (Option V)} (rv : RepV D m H v x) (i : Nat) (r : RepSl D m H fs vs) : RepSl D m H (putSl fs i v) (SlX.putS i x vs) := by
  unfold putSl SlX.putS
  rw [repSl_len r]
  exact repSl_set rv i (repSl_app (repSl_pad _) r)
/-- o.f = e -/
theorem snd_fset (cx : CxOk D T Γ nm an fa d G W X) {o : Expr} {co c : C} {f : Nat} {x : Str} {apos pos : Pos} (hx : an f = x) (ho : PE X o (tE D T Γ W co)) (he : PE X e (tE D T Γ W c)) : PS X (.Assign [.Attribute o x apos] e pos) (tS D T Γ W (.fset co f c)) := by
  subst hx
  have hD := cx.wd
  refine ps_mono (SlX.ps_sl ho he (by cases e <;> rfl)) fun En σ H p => ?_
  refine tS.thn (ev := evE T Γ c) p fun v h1 m1 H1 ρ S1 R1 q vv rv => ?_
  refine ⟨m1, h1, ρ, S1, R1, (PostS.thn R1 q).mono fun x h2 m2 H2 e2 S2 q2 xv rx => ?_⟩
  cases x with
  | p pv => exact False.elim q2
  | loc l =>
    simp only at q2
    cases hl : h2[l]? with
    | none => rw [hl] at q2; exact False.elim q2
    | some eo =>
      rw [hl] at q2
      cases eo <;> try exact False.elim q2
      rename_i k fs
      simp only at q2
      cases ht : T.at k f with
      | none => rw [ht] at q2; exact False.elim q2
      | some A =>
        rw [ht] at q2
        cases A <;> try exact False.elim q2
        rename_i i
        simp only at q2
        obtain ⟨K, hK, hlk⟩ := at_cls ht
        have CA := cx.prg.cls k K hK
        obtain ⟨pp, sl⟩ := CA.slot f i hlk
        cases rx with
        | @loc _ qa hq =>
          obtain ⟨vs, slt, n2, ne, rsl⟩ := S2.at_ l _ qa hl hq
          have sl2 := sl
          have sc2 := CA.sc
          have slt2 := slt
          rw [hD] at sl2 sc2 slt2
          refine ⟨qa.1, _, qa.2, pp, vs, i, rfl, slt2, sc2, sl2, ?_⟩
          have hd : ∀ b, (∃ xs, H2 b = some (.tup xs)) ∨ (∃ o u, H2 b = some (.frz o u)) → b ≠ qa.1 ∧ b ≠ qa.2 := fun b hb => by
            refine ⟨fun z => ?_, fun z => ?_⟩
            · have h1 : (∃ C dx, H2 qa.1 = some (.ins C dx [])) ∨ ∃ C dx vs, H2 qa.1 = some (SlX.SlO qa.1 C dx vs) := by
                rcases slt with ⟨z1, _⟩ | ⟨z1, _⟩
                · exact .inl ⟨_, _, z1⟩
                · exact .inr ⟨_, _, _, z1⟩
              subst z
              rcases hb with ⟨xs, hb⟩ | ⟨o, u, hb⟩ <;> rcases h1 with ⟨C, dx, h1⟩ | ⟨C, dx, vs, h1⟩ <;> (rw [hb] at h1; cases h1)
            · subst z
              rcases hb with ⟨xs, hb⟩ | ⟨o, u, hb⟩ <;> rcases n2 with n2 | n2 <;> (rw [hb] at n2; cases n2)
          have kp : ∀ b, b ≠ qa.1 → b ≠ qa.2 → SlX.slH H2 qa.1 (D.ca k) qa.2 (SlX.putS i vv vs) b = H2 b := fun b z1 z2 => SlX.slH_ne z1 z2
          have px : PExt H2 (SlX.slH H2 qa.1 (D.ca k) qa.2 (SlX.putS i vv vs)) := ⟨fun b xs z => by obtain ⟨z1, z2⟩ := hd b (.inl ⟨xs, z⟩); rw [kp b z1 z2]; exact z, fun b o u z => by obtain ⟨z1, z2⟩ := hd b (.inr ⟨o, u, z⟩); rw [kp b z1 z2]; exact z⟩
          have new : SlX.Slt (SlX.slH H2 qa.1 (D.ca k) qa.2 (SlX.putS i vv vs)) qa.1 (D.ca k) qa.2 (SlX.putS i vv vs) := SlX.slH_slt ne
          have at2 : SlX.slH H2 qa.1 (D.ca k) qa.2 (SlX.putS i vv vs) qa.2 = some (.xd []) := by unfold SlX.slH; rw [upd_ne ne, upd_same]
          have ex := Ext.write S2 hq px kp ⟨_, by unfold SlX.slH; exact upd_same⟩ ⟨_, at2⟩
          have S4 := S2.write hq ex kp (o := .obj k (putSl fs i v)) ⟨_, new, .inr at2, ne, repSl_put ((rv.ext e2).ext ex) i (RepSl.ext ex rsl)⟩
          have fin := q2 m2 _ σ ex S4 ((R1.ext e2).ext ex)
          rw [hD] at fin
          exact fin
end
end Sw

end

section
/-! Defs: from their bodies to their promises; the whole program, by the depth of calls. -/
namespace Sw
open PySem PyProof.Rows L2
section
variable {D : Wd} {T : Tab} {Γ : Calls} {W : WX} {X : Cx} {e : Expr} {nm : Str → Option Gk} {an : Nat → Str} {fa : Nat → Addr} {d : Nat} {G : Gx} {mg : Str → Option Value} {base : Heap}
/-- a def of the text, as it stands -/
structure DefAt (D : Wd) (F : Fn) (f : Addr) (N ps : List Str) (st : Stmt) : Prop where
  ex : ∃ x qual fd, Fun D.K x qual st f fd ∧ Binds D.K fd ps []
  sc : FnScope N ps (defScope st)
  pl : ps.length = F.params
  nl : N.length = F.names
theorem startE_rep {m : Mp} {H : Hp} {F : Fn} {N : List Str} {ws : List Val} {vs : List V} (r : RepVs D m H ws vs) (h : N.length = F.names) : RepEnv D m H (startE F ws) (start N vs) := by
  have hl := r.len
  refine ⟨by simp [startE, L2.start, hl, h], fun i v hi => ?_⟩
  unfold startE at hi
  by_cases hlt : i < (ws.map some).length
  · rw [List.getElem?_append_left hlt, List.getElem?_map] at hi
    cases hw : ws[i]? with
    | none => rw [hw] at hi; cases hi
    | some w =>
      rw [hw] at hi
      cases hi
      have get : ∀ {ws : List Val} {vs : List V} {i : Nat} {w : Val}, RepVs D m H ws vs → ws[i]? = some w → ∃ x, vs[i]? = some x ∧ RepV D m H w x := fun {ws vs i w} r => by
        induction r generalizing i with
        | nil => intro z; simp at z
        | cons r1 r2 ih =>
          intro z
          cases i with
          | zero => simp at z; subst z; exact ⟨_, rfl, r1⟩
          | succ i => simp at z; obtain ⟨x, h1, h2⟩ := ih z; exact ⟨x, by simpa using h1, h2⟩
      obtain ⟨x, h1, h2⟩ := get r hw
      refine ⟨x, ?_, h2⟩
      unfold L2.start
      have : i < (vs.map some).length := by simpa [← hl] using hlt
      rw [List.getElem?_append_left this, List.getElem?_map, h1]
      rfl
  · rw [List.getElem?_append_right (Nat.le_of_not_lt hlt), List.getElem?_replicate] at hi
    split at hi
    · cases hi
    · cases hi
/-- a def keeps its promise: the function object is known -/
theorem fn_okF {F : Fn} {f : Addr} {N ps : List Str} {st : Stmt} {x qual : Str} {fd : FuncData} (Fu : Fun D.K x qual st f fd) (sc : FnScope N ps (defScope st)) (pl : ps.length = F.params) (nl : N.length = F.names) (prg : PrgOk D T Γ nm an fa mg base d)
    (body : ∀ X W, CxOk D T Γ nm an fa d ⟨N, defScope st, fun _ => true⟩ W X → PSs X (defBody st) (tS D T Γ W F.body)) : FnOk D.P D.w D.K mg base (CX D.P D.w) (d + 3) f fd ps (spS D (runF T Γ F)) := by
  have len : ∀ vs H Q E, spS D (runF T Γ F) vs H Q E → vs.length = ps.length := fun vs H Q E ⟨m, h, ws, S, rs, z⟩ => by
    unfold runF at z
    by_cases hl : ws.length = F.params
    · rw [← rs.len, hl, pl]
    · rw [if_neg hl] at z; exact False.elim z
  refine Fu.okX sc len fun cdv Ar outer s H vs Q E hr hsp => ?_
  refine ⟨tS D T Γ (fun cls dd _ H => E cls dd H) F.body, body _ _ ?_, ?_⟩
  · exact { wd := rfl, N := rfl, nd := sc.nd, sc := rfl, fn := rfl, calm := rfl, tk := takes_of rfl rfl rfl rfl, po := passes_of rfl, room := hr, prg := prg }
  · obtain ⟨m, h, ws, S, rs, z⟩ := hsp
    refine ⟨m, h, startE F ws, S, startE_rep rs nl, ?_⟩
    unfold runF at z
    by_cases hl : ws.length = F.params
    · rw [if_pos hl] at z
      generalize evS T Γ F.body (startE F ws) h = r at z ⊢
      cases r with
      | bad => exact z
      | nx ρ h1 => exact fun m' H' σ' e1 S1 R1 => z m' H' .non e1 S1 (.p .non)
      | rt v h1 => exact fun m' H' x e1 S1 rv => z m' H' x e1 S1 rv
      | bk ρ h1 => exact False.elim z
      | ct ρ h1 => exact False.elim z
      | exc x ρ h1 => exact fun m' H' σ' cls dd e1 S1 R1 rx => z m' H' cls dd e1 S1 rx
    · rw [if_neg hl] at z; exact False.elim z
theorem fn_ok {F : Fn} {f : Addr} {N ps : List Str} {st : Stmt} (A : DefAt D F f N ps st) (prg : PrgOk D T Γ nm an fa mg base d)
    (body : ∀ X W, CxOk D T Γ nm an fa d ⟨N, defScope st, fun _ => true⟩ W X → PSs X (defBody st) (tS D T Γ W F.body)) : FnAt D mg base (d + 3) f (spS D (runF T Γ F)) := by
  obtain ⟨x, qual, fd, Fu, bd⟩ := A.ex
  exact ⟨fd, ps, fn_okF Fu A.sc A.pl A.nl prg body, bd, Fu.kp⟩
/-- what is known of the program but the defs -/
structure PrgSt (D : Wd) (T : Tab) (nm : Str → Option Gk) (an : Nat → Str) (fa : Nat → Addr) (mg : Str → Option Value) : Prop where
  gl : ∀ x k, nm x = some k → GlIs D fa mg x k
  inits : ∀ (c : Nat) k, T.cls[c]? = some k → ∃ F, T.fns[k.init]? = some F
  cls : ∀ (c : Nat) k, T.cls[c]? = some k → ClsAt D fa an c k
  isiT : ∀ (c : Nat) k, T.cls[c]? = some k → ∀ n ∈ ["NoneType", "bool", "int", "str", "tuple", "list"], PySem.W.kitOne D.K (.type n) (.ref (D.ca c)) = some false ∧ PySem.W.kitOne D.K (.ref (D.ca c)) (.type n) = some false
  isiC : ∀ (c c' : Nat) k k', T.cls[c]? = some k → T.cls[c']? = some k' → PySem.W.kitOne D.K (.ref (D.ca c)) (.ref (D.ca c')) = some (c' == c)
  lens : ∀ (c : Nat) k g, T.cls[c]? = some k → k.len = some g → ∃ F, T.fns[g]? = some F
  ats : ∀ (c : Nat) k f g, T.cls[c]? = some k → (k.ats.lookup f = some (.meth g) ∨ k.ats.lookup f = some (.prop g)) → ∃ F, T.fns[g]? = some F
/-- every def of the table stands in the text, and its body is its code -/
structure BodyOk (D : Wd) (T : Tab) (nm : Str → Option Gk) (an : Nat → Str) (fa : Nat → Addr) (mg : Str → Option Value) (i : Nat) (F : Fn) : Prop where
  ex : ∃ N ps st, DefAt D F (fa i) N ps st ∧ ∀ (Γ : Calls) (d : Nat) X W, CxOk D T Γ nm an fa d ⟨N, defScope st, fun _ => true⟩ W X → PSs X (defBody st) (tS D T Γ W F.body)
theorem prg_ok (P : PrgSt D T nm an fa mg) (B : ∀ (i : Nat) F, T.fns[i]? = some F → BodyOk D T nm an fa mg i F) (fuel : Nat) : ∀ n, PrgOk D T (calls T fuel n) nm an fa mg base (3 * n)
  | 0 => by
    refine ⟨P.gl, fun i F hF => ?_, P.inits, P.cls, P.isiT, P.isiC, fun _ _ _ _ => rfl, P.lens, P.ats⟩
    obtain ⟨N, ps, st, A, _⟩ := (B i F hF).ex
    obtain ⟨x, qual, fd, Fu, bd⟩ := A.ex
    refine ⟨fd, ps, ⟨fun vs H Q E ⟨m, h, ws, S, rs, z⟩ => False.elim z, fun Ar outer s H args us vs Q E hr e0 hb rv ⟨m, h, ws, S, rs, z⟩ => False.elim z⟩, bd, Fu.kp⟩
  | n + 1 => by
    have ih := prg_ok P B fuel n
    refine ⟨P.gl, fun i F hF => ?_, P.inits, P.cls, P.isiT, P.isiC, fun i hi vs h => ?_, P.lens, P.ats⟩
    · obtain ⟨N, ps, st, A, body⟩ := (B i F hF).ex
      have := fn_ok A ih (fun X W cx => body _ _ X W cx)
      have e : (calls T fuel (n + 1)).run i = runF T (calls T fuel n) F := by
        funext vs h
        show (match T.fns[i]? with | some F => runF T (calls T fuel n) F vs h | none => .bad) = _
        rw [hF]
      rw [e]
      exact this
    · show (match T.fns[i]? with | some F => runF T (calls T fuel n) F vs h | none => .bad) = _
      rw [hi]
end
end Sw

end

section
/-! From the text to the code: expressions. -/
namespace Sw
open PySem PyProof.Rows L2
/-- what is known of the text beforehand: the module's names, the attributes' names, how many defs and classes; which are called with the store -/
structure Tb where
  names : List (Str × Gk)
  attrs : List Str
  nF : Nat
  nC : Nat
  sF : List Nat
  sM : List Nat
  sC : List Nat
def gd {α : Type} (b : Bool) (o : Option α) : Option α := if b then o else none
theorem gd_some {α : Type} {b : Bool} {o : Option α} {x : α} : gd b o = some x ↔ b = true ∧ o = some x := by
  unfold gd
  cases b <;> simp
def Gk.isFree : Option Gk → Bool
  | some .free => true
  | _ => false
theorem isFree_ok {k : Option Gk} (h : Gk.isFree k = true) : k = some .free := by
  cases k with
  | none => cases h
  | some k => cases k <;> first | rfl | cases h
def isGlo : Option NameKind → Bool
  | some .globalImplicit => true
  | _ => false
theorem isGlo_ok {k : Option NameKind} (h : isGlo k = true) : k = some .globalImplicit := by
  cases k with
  | none => cases h
  | some k => cases k <;> first | rfl | cases h
def isLoc : Option NameKind → Bool
  | some .local => true
  | _ => false
theorem isLoc_ok {k : Option NameKind} (h : isLoc k = true) : k = some .local := by
  cases k with
  | none => cases h
  | some k => cases k <;> first | rfl | cases h
/-- a built-in's name, not bound by the module -/
def freeN (tb : Tb) (G : Gx) (x : Str) : Bool := isGlo (G.sc.names.lookup x) && Gk.isFree (tb.names.lookup x)
def cConst : Const → Option PV
  | .int i => some (.int i)
  | .bool b => some (.bl b)
  | .none => some .non
  | .str s => some (.str s)
  | _ => none
def cOp : Operator → Option Op
  | .Add => some .add
  | .Sub => some .sub
  | .Mult => some .mul
  | .FloorDiv => some .fdiv
  | .Mod => some .mod
  | _ => none
def cCmp : CmpOp → Cmp
  | .Eq => .eq
  | .NotEq => .ne
  | .Lt => .lt
  | .LtE => .le
  | .Gt => .gt
  | .GtE => .ge
  | .In => .in_
  | .NotIn => .notin
  | .Is => .is_
  | .IsNot => .isnot
theorem cOp_ok {o : Operator} {p : Op} (h : cOp o = some p) : opO p = o := by
  cases o <;> simp [cOp] at h <;> subst h <;> rfl
theorem cCmp_ok (o : CmpOp) : cmpO (cCmp o) = o := by cases o <;> rfl
def cL (f : Expr → Option C) : List Expr → Option CL
  | [] => some .nil
  | e :: r => gd (noStar e) ((f e).bind fun c => (cL f r).bind fun cs => some (.cons c cs))
def cBool (f : Expr → Option C) (op : BoolOp) : List Expr → Option C
  | [] => none
  | [a] => f a
  | a :: r => (f a).bind fun ca => (cBool f op r).bind fun cb => some (match op with
    | .And => .and ca cb
    | .Or => .or ca cb)
def cTg (G : Gx) : Nat → Expr → Option Tg
  | 0, _ => none
  | n + 1, e => match e with
    | .Name x _ => (storeC G x).map .name
    | .Tuple es _ _ => (go n es).map .tup
    | _ => none
where go (n : Nat) : List Expr → Option TgL
  | [] => some .nil
  | e :: r => gd (noStar e) ((cTg G n e).bind fun t => (go n r).bind fun ts => some (.cons t ts))
def cI (tb : Tb) (f : Expr → Option C) (G : Gx) (tg iter : Expr) : Option I := match iter with
  | .Call (.Name x _) [a] [] _ => if x = "range" then gd (freeN tb G x && noStar a) ((f a).map .range) else if x = "enumerate" then gd (freeN tb G x && noStar a && isTupE tg) ((f a).map .enum) else (f iter).map .val
  | .Call (.Name x _) [a, b] [] _ => if x = "range" then gd (freeN tb G x && noStar a && noStar b) ((f a).bind fun ca => (f b).map (.range2 ca)) else if x = "zip" then gd (freeN tb G x && noStar a && noStar b && isTupE tg) ((f a).bind fun ca => (f b).map (.zip ca)) else (f iter).map .val
  | .Call (.Attribute a m apos) [] [] cpos => if m = "items" then gd (plainBase a && (apos.endLine == cpos.line) && isTupE tg) ((f a).map .items) else if m = "values" then gd (plainBase a && (apos.endLine == cpos.line)) ((f a).map .values) else (f iter).map .val
  | _ => (f iter).map .val
/-- the names that a comprehension binds, with their places -/
def ownOf (G : Gx) (scope : Scope) : List (Str × Nat) := scope.names.filterMap fun p => match p.2 with
  | .local => (G.N.idxOf? p.1).map fun i => (p.1, i)
  | .cell => (G.N.idxOf? p.1).map fun i => (p.1, i)
  | _ => none
def cTest (f : Expr → Option C) : List Expr → Option C
  | [] => some (.pv (.bl true))
  | [t] => f t
  | _ => none
/-- what is said of a comprehension's block beforehand -/
def blkB (G : Gx) (scope : Scope) (iter : Expr) (t : Tg) : Bool := blkC G.N G.sc scope (ownOf G scope) && !isSetE iter && (tgNames t).all fun i => ((ownOf G scope).map (·.2)).contains i
/-- iterator, target, test -/
def cHead (tb : Tb) (f : Gx → Expr → Option C) (G : Gx) (tg iter : Expr) (ifs : List Expr) (scope : Scope) : Option (I × Tg × C) :=
  (cI tb (f G) G tg iter).bind fun it => (cTg (blkG G scope) 4 tg).bind fun t => gd (blkB G scope iter t) ((cTest (f (blkG G scope)) ifs).map fun test => (it, t, test))
def cLc (tb : Tb) (f : Gx → Expr → Option C) (mk : I → Tg → List Nat → C → C → C) (G : Gx) (elt tg iter : Expr) (ifs : List Expr) (scope : Scope) : Option C :=
  (cHead tb f G tg iter ifs scope).bind fun q => (f (blkG G scope) elt).map fun c => mk q.1 q.2.1 ((ownOf G scope).map (·.2)) q.2.2 c
def cDc (tb : Tb) (f : Gx → Expr → Option C) (G : Gx) (k elt tg iter : Expr) (ifs : List Expr) (scope : Scope) : Option C :=
  (cHead tb f G tg iter ifs scope).bind fun q => (f (blkG G scope) k).bind fun ck => (f (blkG G scope) elt).map fun c => .dc q.1 q.2.1 ((ownOf G scope).map (·.2)) q.2.2 ck c
/-- a call by a name -/
def cCall (tb : Tb) (f : Expr → Option C) (G : Gx) (x : Str) (es : List Expr) : Option C :=
  gd (isGlo (G.sc.names.lookup x) && !(x == ("__debug__" : Str))) (match tb.names.lookup x with
    | some (.fn i) => gd (decide (i < tb.nF)) ((cL f es).map fun as => if tb.sF.contains i then .callS i as else .call i as)
    | some (.cls c) => gd (decide (c < tb.nC) && !es.isEmpty) ((cL f es).map fun as => if tb.sC.contains c then .makeS c as else .make c as)
    | some .free => (match es with
      | [a] => if x = "len" then gd (noStar a) ((f a).map .len) else match a with
        | .Call (.Name y _) [b] [] _ => if x = "list" ∧ y = "range" then gd (freeN tb G y && noStar b) ((f b).map (.bi .rangeL1)) else gd (noStar a) ((biOf x).bind fun bi => (f a).map (.bi bi))
        | _ => gd (noStar a) ((biOf x).bind fun bi => (f a).map (.bi bi))
      | [a, .Name t _] => if x = "isinstance" then gd (noStar a && isGlo (G.sc.names.lookup t)) (match tb.names.lookup t with
          | some .free => (tyOfName t).bind fun ty => (f a).map (.isi ty)
          | some (.cls c) => gd (decide (c < tb.nC) && !(t == ("__debug__" : Str))) ((f a).map (.isi (.cls c)))
          | _ => none) else none
      | _ => none)
    | _ => none)
def cE (tb : Tb) : Nat → Gx → Expr → Option C
  | 0, _, _ => none
  | n + 1, G, e => match e with
    | .Constant c _ _ => (cConst c).map .pv
    | .Name x _ => match nameC G x with
      | some i => some (.var i)
      | none => gd (isGlo (G.sc.names.lookup x) && !(x == ("__debug__" : Str))) (match tb.names.lookup x with
        | some (.cst p) => some (.pv p)
        | _ => none)
    | .Tuple es _ _ => (cL (cE tb n G) es).map .tup
    | .List es _ => (cL (cE tb n G) es).map .lst
    | .Dict [] [] _ => some .newD
    | .BinOp a op b _ => (cOp op).bind fun o => (cE tb n G a).bind fun ca => (cE tb n G b).map (.op o ca)
    | .UnaryOp .USub a _ => (cE tb n G a).map .neg
    | .UnaryOp .Not a _ => (cE tb n G a).map .not
    | .BoolOp op es _ => cBool (cE tb n G) op es
    | .Compare a [o] [b] _ => gd (noSet b) ((cE tb n G a).bind fun ca => (cE tb n G b).map (.cmp (cCmp o) ca))
    | .Compare a [o, q] [b, c] _ => gd (noSet c) ((cE tb n G a).bind fun ca => (cE tb n G b).bind fun cb => (cE tb n G c).map (.chain (cCmp o) (cCmp q) ca cb))
    | .IfExp t a b _ => (cE tb n G t).bind fun ct => (cE tb n G a).bind fun ca => (cE tb n G b).map (.ite ct ca)
    | .Call (.Name x _) es [] _ => cCall tb (cE tb n G) G x es
    | .Call (.Attribute o m apos) es [] pos => gd (plainBase o && (apos.endLine == pos.line) && decide (es.length < 30)) ((tb.attrs.idxOf? m).bind fun k => (cE tb n G o).bind fun co => (cL (cE tb n G) es).map fun as => if tb.sM.contains k then .methS co k as else .meth co k as)
    | .Attribute o f _ => gd (plainBase o) ((tb.attrs.idxOf? f).bind fun k => (cE tb n G o).map fun co => .fld co k)
    | .Subscript a i _ => gd (plainIxE i) ((cE tb n G a).bind fun ca => (cE tb n G i).map (.idx ca))
    | .ListComp elt [⟨tg, iter, ifs, 0⟩] scope _ => cLc tb (cE tb n) .lc G elt tg iter ifs scope
    | .DictComp k elt [⟨tg, iter, ifs, 0⟩] scope _ => cDc tb (cE tb n) G k elt tg iter ifs scope
    | _ => none
end Sw

end

section
/-! The code of an expression is what the text does. -/
namespace Sw
open PySem PyProof.Rows L2
section
variable {D : Wd} {T : Tab} {Γ : Calls} {W : WX} {X : Cx} {e : Expr} {nm : Str → Option Gk} {an : Nat → Str} {fa : Nat → Addr} {d : Nat} {G : Gx} {tb : Tb}
structure TbOk (tb : Tb) (T : Tab) (nm : Str → Option Gk) (an : Nat → Str) : Prop where
  nm : ∀ x, nm x = tb.names.lookup x
  an : ∀ x k, tb.attrs.idxOf? x = some k → an k = x
  nF : ∀ i, i < tb.nF → ∃ F, T.fns[i]? = some F
  nC : ∀ i, i < tb.nC → ∃ K, T.cls[i]? = some K
structure ExOk (D : Wd) (T : Tab) (Γ : Calls) (W : WX) (X : Cx) (e : Expr) (c : C) : Prop where
  val : PE X e (tE D T Γ W c)
  test : PT X e (tB1 D T Γ W c)
def plainT : Expr → Bool
  | .UnaryOp .Not _ _ => false
  | .BoolOp _ _ _ => false
  | .IfExp _ _ _ _ => false
  | .Compare _ _ _ _ => false
  | _ => true
theorem ExOk.of {c : C} (h : PE X e (tE D T Γ W c)) (hp : plainT e = true) : ExOk D T Γ W X e c := ⟨h, pt_of h fun wh => by
  cases e <;> first | rfl | (cases hp; done) | skip
  rename_i op a p
  cases op <;> first | rfl | cases hp⟩
theorem gl_of (tk : TbOk tb T nm an) {x : Str} (h : freeN tb G x = true) : G.sc.names.lookup x = some .globalImplicit ∧ nm x = some .free := by
  obtain ⟨h1, h2⟩ := Bool.and_eq_true_iff.mp h
  exact ⟨isGlo_ok h1, by rw [tk.nm]; exact isFree_ok h2⟩
theorem cL_ok {f : Expr → Option C} (cx : CxOk D T Γ nm an fa d G W X) (h : ∀ e c, f e = some c → ExOk D T Γ W X e c) : ∀ {es : List Expr} {as : CL}, cL f es = some as → PA X es (tL D T Γ W as) ∧ PA X es (tVs D T Γ W as) ∧ noStars es = true
  | [], as, hh => by cases hh; exact ⟨snd_nil cx, snd_nilS cx, rfl⟩
  | e :: r, as, hh => by
    simp only [cL, gd_some, Option.bind_eq_some_iff, Option.some.injEq] at hh
    obtain ⟨hn, c, h1, cs, h2, rfl⟩ := hh
    obtain ⟨a, b, s⟩ := cL_ok cx h h2
    exact ⟨snd_cons cx (h e c h1).val a hn, snd_consS cx (h e c h1).val b hn, by simp [noStars, hn, s]⟩
theorem cL_nil {f : Expr → Option C} {as : CL} (h : cL f [] = some as) : as = .nil := by cases h; rfl
theorem argL_ok {f : Expr → Option C} (cx : CxOk D T Γ nm an fa d G W X) (h : ∀ e c, f e = some c → ExOk D T Γ W X e c) {es : List Expr} {as : CL} (hh : cL f es = some as) : ArgR X es (tL D T Γ W as) ∧ ArgR X es (tVs D T Γ W as) ∧ noStars es = true := by
  obtain ⟨a, b, s⟩ := cL_ok cx h hh
  refine ⟨argr_any (fun σ H Q e p => ?_) a s, argr_any (fun σ H Q e p => ?_) b s, s⟩
  · subst e
    cases cL_nil hh
    obtain ⟨m, h0, ρ, S, R, p⟩ := p
    exact Post.ok p S [] .nil
  · subst e
    cases cL_nil hh
    obtain ⟨m, h0, ρ, S, R, p⟩ := p
    exact Post.ok p S [] .nil
theorem cBool_ok {f : Expr → Option C} (cx : CxOk D T Γ nm an fa d G W X) (h : ∀ e c, f e = some c → ExOk D T Γ W X e c) {op : BoolOp} {pos : Pos} : ∀ {es : List Expr} {c : C}, cBool f op es = some c → BoolOk X (.BoolOp op es pos) (tE D T Γ W c) (tB1 D T Γ W c)
  | [], c, hh => by cases hh
  | [a], c, hh => snd_one cx (h a c hh).val (h a c hh).test
  | a :: b :: r, c, hh => by
    simp only [cBool, Option.bind_eq_some_iff, Option.some.injEq] at hh
    obtain ⟨ca, h1, cb, h2, h3⟩ := hh
    have ih := cBool_ok cx h (op := op) (pos := pos) (es := b :: r) h2
    cases op with
    | And => subst h3; exact snd_and cx (h a ca h1).val (h a ca h1).test ih
    | Or => subst h3; exact snd_or cx (h a ca h1).val (h a ca h1).test ih
mutual
theorem cTg_ok (cx : StOk G X) (hK : X.K = D.K) : ∀ (n : Nat) {e : Expr} {t : Tg}, cTg G n e = some t → PG X e (tG D t)
  | 0, e, t, h => by simp [cTg] at h
  | n + 1, e, t, h => by
    cases e <;> simp only [cTg] at h <;> first | (cases h; done) | skip
    · rename_i x pos
      obtain ⟨i, h1, rfl⟩ := Option.map_eq_some_iff.mp h
      exact snd_tname cx h1
    · rename_i es k pos
      obtain ⟨ts, h1, rfl⟩ := Option.map_eq_some_iff.mp h
      obtain ⟨a, b, c⟩ := cTgs_ok cx hK n h1
      exact snd_ttup cx hK a b c
theorem cTgs_ok (cx : StOk G X) (hK : X.K = D.K) : ∀ (n : Nat) {es : List Expr} {ts : TgL}, cTg.go G n es = some ts → PGs X es (tGs D ts) ∧ noStars es = true ∧ es.length = tgLen ts
  | n, [], ts, h => by cases h; exact ⟨snd_tsnil, rfl, rfl⟩
  | n, e :: r, ts, h => by
    simp only [cTg.go, gd_some, Option.bind_eq_some_iff, Option.some.injEq] at h
    obtain ⟨hn, t, h1, rs, h2, rfl⟩ := h
    obtain ⟨a, b, c⟩ := cTgs_ok cx hK n h2
    exact ⟨snd_tscons (cTg_ok cx hK n h1) a hn, by simp [noStars, hn, b], by simp [tgLen, c]⟩
end
theorem cI_ok {f : Expr → Option C} (cx : CxOk D T Γ nm an fa d G W X) (tk : TbOk tb T nm an) (h : ∀ e c, f e = some c → ExOk D T Γ W X e c) {tg iter : Expr} {it : I} (hh : cI tb f G tg iter = some it) : PI X tg iter (tI D T Γ W it) := by
  have fall : (f iter).map I.val = some it → PI X tg iter (tI D T Γ W it) := fun q => by
    obtain ⟨c, h1, rfl⟩ := Option.map_eq_some_iff.mp q
    exact snd_ival cx (h _ _ h1).val
  unfold cI at hh
  split at hh
  · rename_i x p a p2
    split at hh
    · rename_i ex; subst ex
      simp only [gd_some, Option.map_eq_some_iff, Bool.and_eq_true] at hh
      obtain ⟨⟨h1, h2⟩, c, h3, rfl⟩ := hh
      obtain ⟨g1, g2⟩ := gl_of tk h1
      exact snd_irange cx g1 g2 (h _ _ h3).val h2
    · split at hh
      · rename_i ex; subst ex
        simp only [gd_some, Option.map_eq_some_iff, Bool.and_eq_true] at hh
        obtain ⟨⟨⟨h1, h2⟩, h4⟩, c, h3, rfl⟩ := hh
        obtain ⟨g1, g2⟩ := gl_of tk h1
        exact snd_ienum cx g1 g2 h4 (h _ _ h3).val h2
      · exact fall hh
  · rename_i x p a b p2
    split at hh
    · rename_i ex; subst ex
      simp only [gd_some, Option.map_eq_some_iff, Bool.and_eq_true, Option.bind_eq_some_iff] at hh
      obtain ⟨⟨⟨h1, h2⟩, h4⟩, c, h3, c2, h5, rfl⟩ := hh
      obtain ⟨g1, g2⟩ := gl_of tk h1
      exact snd_irange2 cx g1 g2 (h _ _ h3).val (h _ _ h5).val h2 h4
    · split at hh
      · rename_i ex; subst ex
        simp only [gd_some, Option.map_eq_some_iff, Bool.and_eq_true, Option.bind_eq_some_iff] at hh
        obtain ⟨⟨⟨⟨h1, h2⟩, h4⟩, h6⟩, c, h3, c2, h5, rfl⟩ := hh
        obtain ⟨g1, g2⟩ := gl_of tk h1
        exact snd_izip cx g1 g2 h6 (h _ _ h3).val (h _ _ h5).val h2 h4
      · exact fall hh
  · rename_i a m apos cpos
    split at hh
    · rename_i ex; subst ex
      simp only [gd_some, Option.map_eq_some_iff, Bool.and_eq_true] at hh
      obtain ⟨⟨⟨h1, h2⟩, h4⟩, c, h3, rfl⟩ := hh
      exact snd_iitems cx h1 h2 h4 (h _ _ h3).val
    · split at hh
      · rename_i ex; subst ex
        simp only [gd_some, Option.map_eq_some_iff, Bool.and_eq_true] at hh
        obtain ⟨⟨h1, h2⟩, c, h3, rfl⟩ := hh
        exact snd_ivalues cx h1 h2 (h _ _ h3).val
      · exact fall hh
  · exact fall hh
theorem cTest_ok {f : Expr → Option C} (h : ∀ e c, f e = some c → ExOk D T Γ W X e c) {ifs : List Expr} {c : C} (hh : cTest f ifs = some c) : PTs X ifs (tB1 D T Γ W c) := by
  match ifs, hh with
  | [], hh => cases hh; exact snd_tests0
  | [t], hh => exact pts_one (h t c hh).test
/-- a comprehension's head -/
theorem cHead_ok {f : Gx → Expr → Option C} (cx : CxOk D T Γ nm an fa d G W X) (tk : TbOk tb T nm an) (h : ∀ G W X e c, CxOk D T Γ nm an fa d G W X → f G e = some c → ExOk D T Γ W X e c) {tg iter : Expr} {ifs : List Expr} {scope : Scope} {q : I × Tg × C} (hh : cHead tb f G tg iter ifs scope = some q) :
    LcOk D T Γ W X G tg iter ifs scope (ownOf G scope) q.1 q.2.1 q.2.2 := by
  simp only [cHead, Option.bind_eq_some_iff, gd_some, Option.map_eq_some_iff] at hh
  obtain ⟨it, h1, t, h2, h3, test, h4, rfl⟩ := hh
  simp only [blkB, Bool.and_eq_true, Bool.not_eq_true', List.all_eq_true, List.contains_iff_mem] at h3
  obtain ⟨⟨b1, b2⟩, b3⟩ := h3
  have hK : X.K = D.K := by rw [cx.wd]; rfl
  exact ⟨cI_ok cx tk (fun e c z => h _ _ _ e c cx z) h1, blkOk_by (by rw [cx.N, cx.sc]; exact b1), fun s H C cl fp => cTg_ok (cx.blk s H scope C cl fp).st hK 4 h2, fun s H C cl fp => cTest_ok (fun e c z => h _ _ _ e c (cx.blk s H scope C cl fp) z) h4, unfolded b2, b3⟩
theorem pt_ifx {t a b : Expr} {tt ta tb : TT} {pos : Pos} (h1 : PT X t tt) (h2 : PT X a ta) (h3 : PT X b tb) : PT X (.IfExp t a b pos) (fun σ H Q => tt σ H fun c H1 => if c = true then ta σ H1 Q else tb σ H1 Q) := by
  refine ⟨fun pins s σ H Q I q => isTrue_IfExp (L2.thn (h1.run pins s σ H _ I q) fun c s1 ⟨H1, I1, q1⟩ => ?_)⟩
  cases c with
  | true => exact h2.run pins s1 σ H1 Q I1 q1
  | false => exact h3.run pins s1 σ H1 Q I1 q1
theorem snd_ifx (cx : CxOk D T Γ nm an fa d G W X) {t a b : Expr} {ct ca cb : C} {pos : Pos} (ht : ExOk D T Γ W X t ct) (ha : ExOk D T Γ W X a ca) (hb : ExOk D T Γ W X b cb) : ExOk D T Γ W X (.IfExp t a b pos) (.ite ct ca cb) := by
  refine ⟨snd_ite cx ht.test ha.val hb.val, pt_mono (pt_ifx ht.test ha.test hb.test) fun σ H Q p => ?_⟩
  obtain ⟨m, h, ρ, S, R, p⟩ := p
  simp only [evE, evB, Res.bind_assoc] at p
  refine ⟨m, h, ρ, S, R, (Post.bind (r := evB T Γ ct ρ h) (by simpa only [evB, Res.bind_assoc] using p)).mono fun b h1 m1 H1 e1 S1 q => ?_⟩
  cases b with
  | true => exact ⟨m1, h1, ρ, S1, R.ext e1, q⟩
  | false => exact ⟨m1, h1, ρ, S1, R.ext e1, q⟩
/-! ### an instance in the store -/
theorem Ext.placeO {m : Mp} {H : Hp} {x dx : Addr} {C : Addr} (nx : H x = none) (nd : H dx = none) : Ext m H (m ++ [(x, dx)]) (upd (upd H dx (.own x)) x (.ins C dx [])) where
  pre := fun l q e => by
    rw [List.getElem?_append_left (List.getElem?_eq_some_iff.mp e).1]
    exact e
  px := ⟨fun a xs z => by rw [upd_ne (ne_of_none z nx), upd_ne (ne_of_none z nd)]; exact z, fun a o u z => by rw [upd_ne (ne_of_none z nx), upd_ne (ne_of_none z nd)]; exact z⟩
  out := fun a o z _ => by rw [upd_ne (ne_of_none z nx), upd_ne (ne_of_none z nd)]; exact z
  new := fun a ⟨q, hq, z⟩ => by
    rcases List.mem_append.mp hq with hq | hq
    · exact .inl ⟨q, hq, z⟩
    · have e : q = (x, dx) := by simpa using hq
      subst e
      refine .inr ?_
      rcases z with z | z <;> rw [z] <;> assumption
  there := fun a o z => ⟨o, by rw [upd_ne (ne_of_none z nx), upd_ne (ne_of_none z nd)]; exact z⟩
theorem RepS.placeO {m : Mp} {H : Hp} {h : Store} {x dx : Addr} {c : Nat} (r : RepS D m H h) (nx : H x = none) (nd : H dx = none) (ne : dx ≠ x) : RepS D (m ++ [(x, dx)]) (upd (upd H dx (.own x)) x (.ins (D.ca c) dx [])) (h ++ [.obj c []]) := by
  have ex := Ext.placeO (m := m) (C := D.ca c) nx nd
  have nh : ∀ a, Has m a → a ≠ x ∧ a ≠ dx := fun a ha => let ⟨v, z⟩ := r.trk a ha; ⟨ne_of_none z nx, ne_of_none z nd⟩
  have k : ∀ a, Has m a → upd (upd H dx (.own x)) x (.ins (D.ca c) dx []) a = H a := fun a ha => by rw [upd_ne (nh a ha).1, upd_ne (nh a ha).2]
  have lt : ∀ {l : Nat} {q : Addr × Addr}, (m ++ [(x, dx)])[l]? = some q → m[l]? = some q ∨ (l = m.length ∧ q = (x, dx)) := fun {l q} z => by
    by_cases hl : l < m.length
    · rw [List.getElem?_append_left hl] at z
      exact .inl z
    · rw [List.getElem?_append_right (Nat.le_of_not_lt hl)] at z
      cases kk : l - m.length with
      | zero =>
        rw [kk] at z
        simp at z
        exact .inr ⟨by omega, z.symm⟩
      | succ i => rw [kk] at z; simp at z
  have at1 : upd (upd H dx (.own x)) x (.ins (D.ca c) dx []) x = some (.ins (D.ca c) dx []) := upd_same
  have at2 : upd (upd H dx (.own x)) x (.ins (D.ca c) dx []) dx = some (.own x) := by rw [upd_ne ne]; exact upd_same
  refine ⟨by simp [r.len], fun l j q s h1 h2 n => ?_, fun l o q h1 h2 => ?_, fun a ha => ?_⟩
  · rcases lt h1 with h1 | ⟨l1, rfl⟩ <;> rcases lt h2 with h2 | ⟨l2, rfl⟩
    · exact r.inj l j q s h1 h2 n
    · exact ⟨(nh _ (Has.of h1).1).1, (nh _ (Has.of h1).1).2, (nh _ (Has.of h1).2).1, (nh _ (Has.of h1).2).2⟩
    · exact ⟨(nh _ (Has.of h2).1).1.symm, (nh _ (Has.of h2).2).1.symm, (nh _ (Has.of h2).1).2.symm, (nh _ (Has.of h2).2).2.symm⟩
    · exact absurd (l1.trans l2.symm) n
  · rcases lt h2 with h2 | ⟨l1, rfl⟩
    · have hl : l < h.length := by rw [← r.len]; exact (List.getElem?_eq_some_iff.mp h2).1
      rw [List.getElem?_append_left hl] at h1
      exact (r.at_ l o q h1 h2).stay ex (k _ (Has.of h2).1) (k _ (Has.of h2).2)
    · rw [l1, r.len, List.getElem?_append_right (Nat.le_refl _)] at h1
      simp at h1
      subst h1
      exact ⟨[], .inl ⟨at1, rfl⟩, .inl at2, ne, .nil⟩
  · obtain ⟨q, hq, z⟩ := ha
    rcases List.mem_append.mp hq with hq | hq
    · have ha : Has m a := ⟨q, hq, z⟩
      obtain ⟨v, hv⟩ := r.trk a ha
      exact ⟨v, by rw [k a ha]; exact hv⟩
    · have e : q = (x, dx) := by simpa using hq
      subst e
      rcases z with z | z
      · exact ⟨_, by rw [z]; exact at1⟩
      · exact ⟨_, by rw [z]; exact at2⟩
theorem snd_makeS (cx : CxOk D T Γ nm an fa d G W X) {x : Str} {c : Nat} {K : Cls} {es : List Expr} {as : CL} {p pos : Pos} (hg : G.sc.names.lookup x = some .globalImplicit) (hd : (x == ("__debug__" : Str)) = false) (hn : nm x = some (.cls c)) (hC : T.cls[c]? = some K)
    (ha : PA X (e :: es) (tVs D T Γ W as)) (hs : noStars (e :: es) = true) : PE X (.Call (.Name x p) (e :: es) [] pos) (tE D T Γ W (.makeS c as)) := by
  obtain ⟨F, hF⟩ := cx.prg.inits c K hC
  obtain ⟨fd, ps, ok, b, kp⟩ := (cx.prg.fns _ F hF).ex
  have M := (cx.prg.cls c K hC).mkr
  have hD := cx.wd
  have hm : X.mg x = some (.ref (D.ca c)) := cx.prg.gl x _ hn
  rw [hD] at ok b M
  refine pe_mono (pe_makeS (E := WE W) M ok (cx.room.mono (by omega)) (show X.env.scope.names.lookup x = _ by rw [cx.sc]; exact hg) (by rw [hm, hD]; rfl) b (passAt cx.tk) ha hd hs) fun σ H Q pp => ?_
  refine tRes.thn (ev := evVs T Γ as) pp fun ws h1 m1 H1 ρ S1 R1 q vs rs => ?_
  intro y dy ny ndy ne
  rw [← hD]
  have ex := Ext.placeO (m := m1) (C := D.ca c) ny ndy
  have hl : (m1 ++ [(y, dy)])[h1.length]? = some (y, dy) := by rw [← S1.len]; simp
  refine ⟨m1 ++ [(y, dy)], h1 ++ [.obj c []], .loc h1.length :: ws, S1.placeO ny ndy ne, .cons (RepV.loc (q := (y, dy)) hl) (rs.ext ex), ?_⟩
  have hK : T.initOf c = K.init := by unfold Tab.initOf; rw [hC]
  rw [hK] at q
  generalize Γ.run K.init (.loc h1.length :: ws) (h1 ++ [.obj c []]) = z at q ⊢
  cases z with
  | bad => exact q
  | ok v h' =>
    intro m' H' z e' S' rv
    simp only [Res.bind_ok] at q
    by_cases hv : isNonV v = true
    · rw [if_pos hv] at q
      have hv := isNonV_ok hv
      subst hv
      refine ⟨by cases rv with | p rv => cases rv; rfl, ?_⟩
      exact q m' H' (ex.trans e') S' _ (RepV.loc (q := (y, dy)) (e'.pre _ _ hl))
    · rw [if_neg hv] at q
      exact False.elim q
  | exc x h' => exact fun m' H' cls dd e' S' rx => q m' H' cls dd (ex.trans e') S' rx
theorem nd_of {x : Str} (h : (!(x == ("__debug__" : Str))) = true) : (x == ("__debug__" : Str)) = false := by
  cases q : (x == ("__debug__" : Str)) with
  | false => rfl
  | true => rw [q] at h; cases h
theorem cCall_ok {f : Expr → Option C} (cx : CxOk D T Γ nm an fa d G W X) (tk : TbOk tb T nm an) (h : ∀ e c, f e = some c → ExOk D T Γ W X e c) {x : Str} {es : List Expr} {c : C} {p pos : Pos} (hh : cCall tb f G x es = some c) : PE X (.Call (.Name x p) es [] pos) (tE D T Γ W c) := by
  simp only [cCall, gd_some, Bool.and_eq_true] at hh
  obtain ⟨⟨hg, hd⟩, hh⟩ := hh
  have hg := isGlo_ok hg
  have hd := nd_of hd
  split at hh
  · rename_i i hl
    simp only [gd_some, decide_eq_true_eq, Option.map_eq_some_iff] at hh
    obtain ⟨hi, as, ha, hc⟩ := hh
    obtain ⟨F, hF⟩ := tk.nF i hi
    have hn : nm x = some (.fn i) := by rw [tk.nm]; exact hl
    obtain ⟨a1, a2, a3⟩ := cL_ok cx h ha
    obtain ⟨b1, b2, _⟩ := argL_ok cx h ha
    split at hc
    · subst hc
      exact snd_callS cx hg hd hn hF b2
    · subst hc
      cases es with
      | nil => cases cL_nil ha; exact snd_call0 cx hg hd hn hF
      | cons e es => exact snd_call cx hg hd hn hF a1 a3
  · rename_i k hl
    simp only [gd_some, Bool.and_eq_true, decide_eq_true_eq, Option.map_eq_some_iff] at hh
    obtain ⟨⟨hi, hne⟩, as, ha, hc⟩ := hh
    obtain ⟨K, hK⟩ := tk.nC k hi
    have hn : nm x = some (.cls k) := by rw [tk.nm]; exact hl
    obtain ⟨a1, a2, a3⟩ := cL_ok cx h ha
    cases es with
    | nil => cases hne
    | cons e es =>
      split at hc
      · subst hc; exact snd_makeS cx hg hd hn hK a2 a3
      · subst hc; exact snd_make cx hg hd hn hK a1 a3
  · rename_i hl
    have hm : nm x = some .free := by rw [tk.nm]; exact hl
    split at hh
    · rename_i a
      split at hh
      · rename_i ex; subst ex
        simp only [gd_some, Option.map_eq_some_iff] at hh
        obtain ⟨h1, ca, h2, rfl⟩ := hh
        exact snd_len cx hg hm (h _ _ h2).val h1
      · have plain : gd (noStar a) ((biOf x).bind fun bi => (f a).map (C.bi bi)) = some c → PE X (.Call (.Name x p) [a] [] pos) (tE D T Γ W c) := fun hh => by
          simp only [gd_some, Option.map_eq_some_iff, Option.bind_eq_some_iff] at hh
          obtain ⟨h1, bi, h2, ca, h3, rfl⟩ := hh
          exact snd_bi cx h2 hg hm (h _ _ h3).val h1
        split at hh
        · rename_i y _ b _
          split at hh
          · rename_i ex
            obtain ⟨rfl, rfl⟩ := ex
            simp only [gd_some, Bool.and_eq_true, Option.map_eq_some_iff] at hh
            obtain ⟨⟨h1, h2⟩, cb, h3, rfl⟩ := hh
            obtain ⟨g1, g2⟩ := gl_of tk h1
            exact snd_rangeL cx hg hm g1 g2 (h _ _ h3).val h2
          · exact plain hh
        · exact plain hh
    · rename_i a t _ 
      split at hh
      · rename_i ex; subst ex
        simp only [gd_some, Bool.and_eq_true] at hh
        obtain ⟨⟨h1, h2⟩, hh⟩ := hh
        have h2 := isGlo_ok h2
        split at hh
        · rename_i ht
          simp only [Option.bind_eq_some_iff, Option.map_eq_some_iff] at hh
          obtain ⟨ty, h3, ca, h4, rfl⟩ := hh
          exact snd_isi cx hg hm (h _ _ h4).val h3 h2 (by rw [tk.nm]; exact ht) h1
        · rename_i k ht
          simp only [gd_some, Bool.and_eq_true, decide_eq_true_eq, Option.map_eq_some_iff] at hh
          obtain ⟨⟨h3, h5⟩, ca, h4, rfl⟩ := hh
          obtain ⟨K, hK⟩ := tk.nC k h3
          exact snd_isiC cx hg hm (h _ _ h4).val (by rw [tk.nm]; exact ht) hK h2 (nd_of h5) h1
        · cases hh
      · cases hh
    · cases hh
  · cases hh
theorem cE_ok (tk : TbOk tb T nm an) : ∀ (n : Nat) (G : Gx) (W : WX) (X : Cx) (e : Expr) (c : C), CxOk D T Γ nm an fa d G W X → cE tb n G e = some c → ExOk D T Γ W X e c
  | 0, G, W, X, e, c, cx, hh => by cases hh
  | n + 1, G, W, X, e, c, cx, hh => by
    have ih := cE_ok tk n
    have ihG : ∀ e c, cE tb n G e = some c → ExOk D T Γ W X e c := fun e c z => ih G W X e c cx z
    unfold cE at hh
    split at hh
    · rename_i cc j pos
      obtain ⟨p, h1, rfl⟩ := Option.map_eq_some_iff.mp hh
      refine ExOk.of ?_ rfl
      cases cc <;> simp [cConst] at h1 <;> subst h1
      · exact snd_pv cx pe_non fun H => .non
      · exact snd_pv cx pe_bl fun H => .bl _
      · exact snd_pv cx pe_int fun H => .int _
      · exact snd_pv cx pe_str fun H => .str _
    · rename_i x pos
      split at hh
      · rename_i i hi
        cases hh
        exact ExOk.of (snd_var cx hi) rfl
      · simp only [gd_some, Bool.and_eq_true] at hh
        obtain ⟨⟨h1, h2⟩, hh⟩ := hh
        split at hh
        · rename_i p hp
          cases hh
          exact ExOk.of (snd_glob cx (isGlo_ok h1) (by rw [tk.nm]; exact hp) (nd_of h2)) rfl
        · cases hh
    · obtain ⟨as, h1, rfl⟩ := Option.map_eq_some_iff.mp hh
      exact ExOk.of (snd_tup cx (cL_ok cx ihG h1).1) rfl
    · obtain ⟨as, h1, rfl⟩ := Option.map_eq_some_iff.mp hh
      exact ExOk.of (snd_lst cx (cL_ok cx ihG h1).1) rfl
    · cases hh
      exact ExOk.of (snd_newD cx) rfl
    · rename_i a op b pos
      simp only [Option.bind_eq_some_iff, Option.map_eq_some_iff] at hh
      obtain ⟨o, h1, ca, h2, cb, h3, rfl⟩ := hh
      rw [← cOp_ok h1]
      exact ExOk.of (snd_op cx o (ihG _ _ h2).val (ihG _ _ h3).val) rfl
    · obtain ⟨ca, h1, rfl⟩ := Option.map_eq_some_iff.mp hh
      exact ExOk.of (snd_neg cx (ihG _ _ h1).val) rfl
    · obtain ⟨ca, h1, rfl⟩ := Option.map_eq_some_iff.mp hh
      obtain ⟨a, b⟩ := snd_not cx (ihG _ _ h1).val (ihG _ _ h1).test
      exact ⟨a, b⟩
    · have b := cBool_ok cx ihG (pos := by assumption) hh
      exact ⟨b.val, b.test.pt⟩
    · rename_i a o b pos
      simp only [gd_some, Option.bind_eq_some_iff, Option.map_eq_some_iff] at hh
      obtain ⟨h0, ca, h1, cb, h2, rfl⟩ := hh
      have := snd_cmp cx (cCmp o) (pos := pos) (ihG _ _ h1).val (ihG _ _ h2).val h0
      rw [cCmp_ok] at this
      exact ⟨this.1, this.2⟩
    · rename_i a o q b cc pos
      simp only [gd_some, Option.bind_eq_some_iff, Option.map_eq_some_iff] at hh
      obtain ⟨h0, ca, h1, cb, h2, c3, h3, rfl⟩ := hh
      have := snd_chain cx (cCmp o) (cCmp q) (pos := pos) (ihG _ _ h1).val (ihG _ _ h2).val (ihG _ _ h3).val h0
      rw [cCmp_ok, cCmp_ok] at this
      exact ⟨this.1, this.2⟩
    · simp only [Option.bind_eq_some_iff, Option.map_eq_some_iff] at hh
      obtain ⟨ct, h1, ca, h2, cb, h3, rfl⟩ := hh
      exact snd_ifx cx (ihG _ _ h1) (ihG _ _ h2) (ihG _ _ h3)
    · exact ExOk.of (cCall_ok cx tk ihG hh) rfl
    · rename_i o m apos es pos
      simp only [gd_some, Bool.and_eq_true, decide_eq_true_eq, Option.bind_eq_some_iff, Option.map_eq_some_iff] at hh
      obtain ⟨⟨⟨h0, h1⟩, h2⟩, k, h3, co, h4, as, h5, hc⟩ := hh
      obtain ⟨b1, b2, b3⟩ := argL_ok cx ihG h5
      split at hc
      · subst hc
        exact ExOk.of (snd_methS cx h0 h1 (tk.an _ _ h3) (ihG _ _ h4).val b2 b3 h2) rfl
      · subst hc
        exact ExOk.of (snd_meth cx h0 h1 (tk.an _ _ h3) (ihG _ _ h4).val b1 b3 h2) rfl
    · simp only [gd_some, Option.bind_eq_some_iff, Option.map_eq_some_iff] at hh
      obtain ⟨h0, k, h3, co, h4, rfl⟩ := hh
      exact ExOk.of (snd_fld cx h0 (tk.an _ _ h3) (ihG _ _ h4).val) rfl
    · simp only [gd_some, Option.bind_eq_some_iff, Option.map_eq_some_iff] at hh
      obtain ⟨h0, ca, h3, ci, h4, rfl⟩ := hh
      exact ExOk.of (snd_idx cx (ihG _ _ h3).val (ihG _ _ h4).val h0) rfl
    · simp only [cLc, Option.bind_eq_some_iff, Option.map_eq_some_iff] at hh
      obtain ⟨q, h1, ce, h2, rfl⟩ := hh
      exact ExOk.of (snd_lc cx (cHead_ok cx tk ih h1) fun s H C cl fp => (ih _ _ _ _ _ (cx.blk s H _ C cl fp) h2).val) rfl
    · simp only [cDc, Option.bind_eq_some_iff, Option.map_eq_some_iff] at hh
      obtain ⟨q, h1, ck, h3, ce, h2, rfl⟩ := hh
      exact ExOk.of (snd_dc cx (cHead_ok cx tk ih h1) (fun s H C cl fp => (ih _ _ _ _ _ (cx.blk s H _ C cl fp) h3).val) fun s H C cl fp => (ih _ _ _ _ _ (cx.blk s H _ C cl fp) h2).val) rfl
    · cases hh
end
end Sw

end

section
/-! From the text to the code: statements. -/
namespace Sw
open PySem PyProof.Rows L2
/-- an expression whose value is to be changed -/
def cNew (tb : Tb) (n : Nat) (G : Gx) (e : Expr) : Option C := match e with
  | .List es _ => (cL (cE tb n G) es).map .newL
  | .ListComp elt [⟨tg, iter, ifs, 0⟩] scope _ => cLc tb (cE tb n) .lcN G elt tg iter ifs scope
  | _ => cE tb n G e
def cMu (tb : Tb) (mu : List Str) (n : Nat) (G : Gx) (t e : Expr) : Option C := match t with
  | .Name x _ => if mu.contains x then cNew tb n G e else cE tb n G e
  | _ => cE tb n G e
def cPar (tb : Tb) (mu : List Str) (n : Nat) (G : Gx) : List Expr → List Expr → Option CL
  | [], [] => some .nil
  | t :: ts, e :: r => gd (noStar e) ((cMu tb mu n G t e).bind fun c => (cPar tb mu n G ts r).bind fun cs => some (.cons c cs))
  | _, _ => none
/-- is the comprehension's value handed on at once? -/
def swV (sc : Scope) (t : Str) (px pos : Pos) (scope : Scope) : Bool := isLoc (sc.names.lookup t) && (px.line == pos.line) && !(scope.names.any fun p => p.1 == t && (p.2 == .local || p.2 == .cell))
def isCell : Option NameKind → Bool
  | some .cell => true
  | _ => false
theorem isCell_ok {k : Option NameKind} (h : isCell k = true) : k = some .cell := by
  cases k with
  | none => cases h
  | some k => cases k <;> first | rfl | cases h
/-- it is not swapped: a cell, or another line -/
def swN (sc : Scope) (t : Str) (px pos : Pos) : Bool := isCell (sc.names.lookup t) || !(px.line == pos.line)
def isFn : Scope → Bool := fun sc => match sc.kind with
  | .function => true
  | _ => false
def strAt (l : List Str) (i : Nat) : Str := l.getD i Str.empty
def cSs (f : Stmt → Option S) : List Stmt → Option S
  | [] => some .pass
  | s :: r => (f s).bind fun a => (cSs f r).bind fun b => some (.seq a b)
def cS (tb : Tb) (mu : List Str) : Nat → Gx → Stmt → Option S
  | 0, _, _ => none
  | n + 1, G, s => match s with
    | .Pass _ => some .pass
    | .Raise _ _ _ => some .never
    | .Return (some e) _ => (cE tb n G e).map .retV
    | .Return none _ => some (.retV (.pv .non))
    | .If t a b _ => (cE tb n G t).bind fun c => (cSs (cS tb mu n G) a).bind fun ca => (cSs (cS tb mu n G) b).map (.ite c ca)
    | .While t body [] _ => (cE tb n G t).bind fun c => (cSs (cS tb mu n G) body).map (.while_ c)
    | .For tg iter body [] _ => gd (!isSetE iter) ((cI tb (cE tb n G) G tg iter).bind fun it => (cTg G 4 tg).bind fun t => (cSs (cS tb mu n G) body).map (.for_ it t))
    | .AugAssign (.Name x _) .Add e _ => (storeC G x).bind fun i => (cE tb n G e).map (.aug i .add)
    | .Expr (.Call (.Attribute o m apos) [e] [] cpos) p => if m = "append" then gd (plainBase o && (apos.endLine == cpos.line) && noStar e) ((cE tb n G o).bind fun co => (cE tb n G e).map (.append co)) else (cE tb n G (.Call (.Attribute o m apos) [e] [] cpos)).map .expr
    | .Expr e _ => gd (noComp e) ((cE tb n G e).map .expr)
    | .Assign [.Attribute o f _] e _ => (tb.attrs.idxOf? f).bind fun k => (cE tb n G o).bind fun co => (cE tb n G e).map fun c => .fset co k c
    | .Assign [.Subscript o i _] e _ => gd (plainIxE i && noComp e) ((cE tb n G o).bind fun co => (cE tb n G i).bind fun ci => (cE tb n G e).map (.iset co ci))
    | .Assign [.Name x px] (.ListComp elt [⟨tg, iter, ifs, 0⟩] scope pos) _ => if swN G.sc x px pos then gd (!mu.contains x) ((storeC G x).bind fun i => (cE tb n G (.ListComp elt [⟨tg, iter, ifs, 0⟩] scope pos)).map (.set i)) else gd (isFn G.sc && swV G.sc x px pos scope) ((storeC G x).bind fun i => (cLc tb (cE tb n) (if mu.contains x then .lcN else .lc) G elt tg iter ifs scope).map (.set i))
    | .Assign [.Name x px] (.DictComp k elt [⟨tg, iter, ifs, 0⟩] scope pos) _ => if swN G.sc x px pos then (storeC G x).bind fun i => (cE tb n G (.DictComp k elt [⟨tg, iter, ifs, 0⟩] scope pos)).map (.set i) else gd (isFn G.sc && swV G.sc x px pos scope) ((storeC G x).bind fun i => (cDc tb (cE tb n) G k elt tg iter ifs scope).map (.set i))
    | .Assign [.Name x px] e _ => gd (noComp e) ((storeC G x).bind fun i => (cMu tb mu n G (.Name x px) e).map (.set i))
    | .Assign [.Tuple ts _ _] (.Tuple vs _ _) _ => gd (isFn G.sc) (match swB G.sc ts vs with
      | none => none
      | some none => (storesC G ts).bind fun is => gd (decide (is.length ≤ 1000)) ((cPar tb mu n G ts vs).map (.par is))
      | some (some names) => (match ts, vs with
        | [.Name x _, .Name y _], [a, b] => (storeC G x).bind fun i => (storeC G y).bind fun j => gd (decide (i ≠ j) && decide (names = [x, y]) && isLoc (G.sc.names.lookup x) && isLoc (G.sc.names.lookup y)) ((cPar tb mu n G ts vs).map (.par [i, j]))
        | [.Name x _, .Name y _, .Name z _], [a, b, c] => (storeC G x).bind fun i => (storeC G y).bind fun j => (storeC G z).bind fun l => gd (decide (i ≠ j) && decide (i ≠ l) && decide (j ≠ l) && decide (names = [x, y, z]) && isLoc (G.sc.names.lookup x) && isLoc (G.sc.names.lookup y) && isLoc (G.sc.names.lookup z)) ((cPar tb mu n G ts vs).map (.par [i, j, l]))
        | _, _ => none))
    | .Assign [.Tuple ts k p] e _ => gd (noTup e) ((cTg G 4 (.Tuple ts k p)).bind fun t => (cE tb n G e).map (.unpack t))
    | _ => none
section
variable {D : Wd} {T : Tab} {Γ : Calls} {W : WX} {X : Cx} {e : Expr} {nm : Str → Option Gk} {an : Nat → Str} {fa : Nat → Addr} {d : Nat} {G : Gx} {tb : Tb}
theorem isFn_ok {sc : Scope} (h : isFn sc = true) : sc.kind = .function := by
  unfold isFn at h
  split at h
  · assumption
  · cases h
theorem swV_lc (cx : CxOk D T Γ nm an fa d G W X) {t : Str} {px pos : Pos} {scope : Scope} {elt : Expr} {gs : List Comprehension} {l : Nat} (hk : isFn G.sc = true) (h : swV G.sc t px pos scope = true) : swapsWith (.ListComp elt gs scope pos) (some (.Name t px)) l X.env = pure true ∧ G.sc.names.lookup t = some .local := by
  simp only [swV, Bool.and_eq_true, Bool.not_eq_true'] at h
  obtain ⟨⟨h1, h2⟩, h3⟩ := h
  exact ⟨sw_true (by rw [cx.sc]; exact isFn_ok hk) (by rw [cx.sc]; exact isLoc_ok h1) h2 h3, isLoc_ok h1⟩
theorem swN_ok (cx : CxOk D T Γ nm an fa d G W X) {t : Str} {px : Pos} {l : Nat} {e : Expr} (h : swN G.sc t px e.pos = true) : swapsWith e (some (.Name t px)) l X.env = pure false := by
  have z : (X.env.blockKind == .function && X.env.kindOf t == some .local && px.line == e.pos.line) = false := by
    simp only [swN, Bool.or_eq_true, Bool.not_eq_true'] at h
    rcases h with h | h
    · have : X.env.kindOf t = some .cell := by
        show X.env.scope.names.lookup t = _
        rw [cx.sc]; exact isCell_ok h
      rw [this]
      simp
    · rw [h]
      simp
  unfold swapsWith
  cases e <;> first | rfl | simp only [z, Bool.false_and]
theorem swV_dc (cx : CxOk D T Γ nm an fa d G W X) {t : Str} {px pos : Pos} {scope : Scope} {kx elt : Expr} {gs : List Comprehension} {l : Nat} (hk : isFn G.sc = true) (h : swV G.sc t px pos scope = true) : swapsWith (.DictComp kx elt gs scope pos) (some (.Name t px)) l X.env = pure true ∧ G.sc.names.lookup t = some .local := by
  simp only [swV, Bool.and_eq_true, Bool.not_eq_true'] at h
  obtain ⟨⟨h1, h2⟩, h3⟩ := h
  have ky : X.env.kindOf t = some .local := by show X.env.scope.names.lookup t = _; rw [cx.sc]; exact isLoc_ok h1
  have hb : X.env.blockKind = .function := by unfold Env.blockKind; rw [cx.sc, isFn_ok hk]; rfl
  refine ⟨?_, isLoc_ok h1⟩
  unfold swapsWith
  simp only [hb, ky, h3, Expr.pos, h2]
  rfl
theorem cNew_ok (tk : TbOk tb T nm an) (cx : CxOk D T Γ nm an fa d G W X) {n : Nat} {c : C} (h : cNew tb n G e = some c) : PE X e (tE D T Γ W c) := by
  unfold cNew at h
  split at h
  · obtain ⟨as, h1, rfl⟩ := Option.map_eq_some_iff.mp h
    exact snd_newL cx (cL_ok cx (fun e c z => cE_ok tk n G W X e c cx z) h1).1
  · simp only [cLc, Option.bind_eq_some_iff, Option.map_eq_some_iff] at h
    obtain ⟨q, h1, ce, h2, rfl⟩ := h
    exact snd_lcN cx (cHead_ok cx tk (cE_ok tk n) h1) fun s H C cl fp => (cE_ok tk n _ _ _ _ _ (cx.blk s H _ C cl fp) h2).val
  · exact (cE_ok tk n G W X e c cx h).val
theorem cMu_ok (tk : TbOk tb T nm an) (cx : CxOk D T Γ nm an fa d G W X) {mu : List Str} {n : Nat} {t : Expr} {c : C} (h : cMu tb mu n G t e = some c) : PE X e (tE D T Γ W c) := by
  unfold cMu at h
  split at h
  · split at h
    · exact cNew_ok tk cx h
    · exact (cE_ok tk n G W X e c cx h).val
  · exact (cE_ok tk n G W X e c cx h).val
theorem cPar_ok (tk : TbOk tb T nm an) (cx : CxOk D T Γ nm an fa d G W X) {mu : List Str} {n : Nat} : ∀ {ts es : List Expr} {as : CL}, cPar tb mu n G ts es = some as → PA X es (tVs D T Γ W as)
  | [], [], as, h => by cases h; exact snd_nilS cx
  | [], _ :: _, as, h => by cases h
  | _ :: _, [], as, h => by cases h
  | t :: ts, e :: r, as, h => by
    simp only [cPar, gd_some, Option.bind_eq_some_iff, Option.some.injEq] at h
    obtain ⟨hn, c, h1, cs, h2, rfl⟩ := h
    exact snd_consS cx (cMu_ok tk cx h1) (cPar_ok tk cx h2) hn
theorem cSs_ok {f : Stmt → Option S} (h : ∀ s c, f s = some c → PS X s (tS D T Γ W c)) : ∀ {ss : List Stmt} {c : S}, cSs f ss = some c → PSs X ss (tS D T Γ W c)
  | [], c, hh => by cases hh; exact snd_snil
  | s :: r, c, hh => by
    simp only [cSs, Option.bind_eq_some_iff, Option.some.injEq] at hh
    obtain ⟨a, h1, b, h2, rfl⟩ := hh
    exact snd_scons (h s a h1) (cSs_ok h h2)
theorem snd_retN {pos : Pos} : PS X (.Return none pos) (tS D T Γ W (.retV (.pv .non))) := ps_mono ps_retN fun En σ H ⟨m, h, ρ, S, R, p⟩ => p m H .non (Ext.refl m H) S (.p .non)
theorem cS_ok (tk : TbOk tb T nm an) {mu : List Str} : ∀ (n : Nat) (G : Gx) (W : WX) (X : Cx) (s : Stmt) (c : S), CxOk D T Γ nm an fa d G W X → cS tb mu n G s = some c → PS X s (tS D T Γ W c)
  | 0, G, W, X, s, c, cx, hh => by cases hh
  | n + 1, G, W, X, s, c, cx, hh => by
    have ih : ∀ s c, cS tb mu n G s = some c → PS X s (tS D T Γ W c) := fun s c z => cS_ok tk n G W X s c cx z
    have ie : ∀ e c, cE tb n G e = some c → ExOk D T Γ W X e c := fun e c z => cE_ok tk n G W X e c cx z
    have hK : X.K = D.K := by rw [cx.wd]; rfl
    unfold cS at hh
    split at hh
    · cases hh; exact snd_spass
    · cases hh; exact snd_never
    · obtain ⟨ce, h1, rfl⟩ := Option.map_eq_some_iff.mp hh
      exact snd_ret cx (ie _ _ h1).val
    · cases hh; exact snd_retN
    · simp only [Option.bind_eq_some_iff, Option.map_eq_some_iff] at hh
      obtain ⟨ct, h1, ca, h2, cb, h3, rfl⟩ := hh
      exact snd_if cx (ie _ _ h1).test (cSs_ok ih h2) (cSs_ok ih h3)
    · simp only [Option.bind_eq_some_iff, Option.map_eq_some_iff] at hh
      obtain ⟨ct, h1, ca, h2, rfl⟩ := hh
      exact snd_while cx (ie _ _ h1).test (cSs_ok ih h2)
    · simp only [gd_some, Bool.not_eq_true', Option.bind_eq_some_iff, Option.map_eq_some_iff] at hh
      obtain ⟨h0, it, h1, t, h2, cb, h3, rfl⟩ := hh
      exact snd_for cx (cI_ok cx tk ie h1) (cTg_ok cx.st hK 4 h2) (cSs_ok ih h3) h0
    · simp only [Option.bind_eq_some_iff, Option.map_eq_some_iff] at hh
      obtain ⟨i, h1, ce, h2, rfl⟩ := hh
      exact snd_aug cx h1 (ie _ _ h2).val
    · rename_i o m apos e cpos p
      split at hh
      · rename_i em; subst em
        simp only [gd_some, Bool.and_eq_true, Option.bind_eq_some_iff, Option.map_eq_some_iff] at hh
        obtain ⟨⟨⟨h0, h1⟩, h2⟩, co, h3, ce, h4, rfl⟩ := hh
        exact snd_append cx (ie _ _ h3).val (ie _ _ h4).val h0 h1 h2
      · obtain ⟨ce, h1, rfl⟩ := Option.map_eq_some_iff.mp hh
        exact snd_expr cx (ie _ _ h1).val rfl
    · simp only [gd_some, Option.map_eq_some_iff] at hh
      obtain ⟨h0, ce, h1, rfl⟩ := hh
      exact snd_expr cx (ie _ _ h1).val h0
    · simp only [Option.bind_eq_some_iff, Option.map_eq_some_iff] at hh
      obtain ⟨k, h1, co, h2, ce, h3, rfl⟩ := hh
      exact snd_fset cx (tk.an _ _ h1) (ie _ _ h2).val (ie _ _ h3).val
    · simp only [gd_some, Bool.and_eq_true, Option.bind_eq_some_iff, Option.map_eq_some_iff] at hh
      obtain ⟨⟨h0, h4⟩, co, h1, ci, h2, ce, h3, rfl⟩ := hh
      exact snd_iset cx (ie _ _ h1).val (ie _ _ h2).val (ie _ _ h3).val h0 h4
    · rename_i x px elt tg iter ifs scope pos spos
      by_cases hn : swN G.sc x px pos = true
      · rw [if_pos hn] at hh
        simp only [gd_some, Option.bind_eq_some_iff, Option.map_eq_some_iff] at hh
        obtain ⟨_, i, h1, ce, h2, rfl⟩ := hh
        exact snd_set cx h1 (ie _ _ h2).val (swN_ok cx hn)
      rw [if_neg hn] at hh
      simp only [gd_some, Bool.and_eq_true, cLc, Option.bind_eq_some_iff, Option.map_eq_some_iff] at hh
      obtain ⟨⟨h0, h1⟩, i, h2, cc, ⟨q, h3, ce, h4, rfl⟩, rfl⟩ := hh
      obtain ⟨sw, lo⟩ := swV_lc cx h0 h1 (elt := elt) (gs := [⟨tg, iter, ifs, 0⟩]) (l := spos.line)
      by_cases hm : mu.contains x = true
      · rw [if_pos hm]
        exact snd_setLcN cx h2 lo sw (cHead_ok cx tk (cE_ok tk n) h3) fun s H C cl fp => (cE_ok tk n _ _ _ _ _ (cx.blk s H _ C cl fp) h4).val
      · rw [if_neg hm]
        exact snd_setLc cx h2 lo sw (cHead_ok cx tk (cE_ok tk n) h3) fun s H C cl fp => (cE_ok tk n _ _ _ _ _ (cx.blk s H _ C cl fp) h4).val
    · rename_i x px k elt tg iter ifs scope pos spos
      by_cases hn : swN G.sc x px pos = true
      · rw [if_pos hn] at hh
        simp only [gd_some, Option.bind_eq_some_iff, Option.map_eq_some_iff] at hh
        obtain ⟨i, h1, ce, h2, rfl⟩ := hh
        exact snd_set cx h1 (ie _ _ h2).val (swN_ok cx hn)
      rw [if_neg hn] at hh
      simp only [gd_some, Bool.and_eq_true, cDc, Option.bind_eq_some_iff, Option.map_eq_some_iff] at hh
      obtain ⟨⟨h0, h1⟩, i, h2, cc, ⟨q, h3, ck, h5, ce, h4, rfl⟩, rfl⟩ := hh
      obtain ⟨sw, lo⟩ := swV_dc cx h0 h1 (kx := k) (elt := elt) (gs := [⟨tg, iter, ifs, 0⟩]) (l := spos.line)
      exact snd_setDc cx h2 lo sw (cHead_ok cx tk (cE_ok tk n) h3) (fun s H C cl fp => (cE_ok tk n _ _ _ _ _ (cx.blk s H _ C cl fp) h5).val) fun s H C cl fp => (cE_ok tk n _ _ _ _ _ (cx.blk s H _ C cl fp) h4).val
    · simp only [gd_some, Option.bind_eq_some_iff, Option.map_eq_some_iff] at hh
      obtain ⟨h0, i, h1, ce, h2, rfl⟩ := hh
      exact snd_set cx h1 (cMu_ok tk cx h2) (noComp_sw h0)
    · rename_i ts k1 p1 vs k2 p2 pos
      simp only [gd_some] at hh
      obtain ⟨h0, hh⟩ := hh
      have hf := isFn_ok h0
      split at hh
      · cases hh
      · rename_i hsw
        simp only [Option.bind_eq_some_iff, gd_some, decide_eq_true_eq, Option.map_eq_some_iff] at hh
        obtain ⟨is, h1, h2, as, h3, rfl⟩ := hh
        exact snd_par cx hf h1 hsw (cPar_ok tk cx h3) h2
      · rename_i names hsw
        split at hh
        · simp only [Option.bind_eq_some_iff, gd_some, Bool.and_eq_true, decide_eq_true_eq, Option.map_eq_some_iff] at hh
          obtain ⟨i, h1, j, h2, ⟨⟨⟨h3, h4⟩, h5⟩, h6⟩, as, h7, rfl⟩ := hh
          subst h4
          exact snd_par2 cx hf h1 h2 h3 (isLoc_ok h5) (isLoc_ok h6) hsw (cPar_ok tk cx h7)
        · simp only [Option.bind_eq_some_iff, gd_some, Bool.and_eq_true, decide_eq_true_eq, Option.map_eq_some_iff] at hh
          obtain ⟨i, h1, j, h2, l, h2', ⟨⟨⟨⟨⟨⟨h3, h3'⟩, h3''⟩, h4⟩, h5⟩, h6⟩, h8⟩, as, h7, rfl⟩ := hh
          subst h4
          exact snd_par3 cx hf h1 h2 h2' h3 h3' h3'' (isLoc_ok h5) (isLoc_ok h6) (isLoc_ok h8) hsw (cPar_ok tk cx h7)
        · cases hh
    · simp only [gd_some, Option.bind_eq_some_iff, Option.map_eq_some_iff] at hh
      obtain ⟨h0, t, h1, ce, h2, rfl⟩ := hh
      exact snd_unpack cx (cTg_ok cx.st hK 4 h1) (ie _ _ h2).val h0
    · cases hh
end
end Sw

end

section
/-! The head: what the top leaves behind, told by tables. -/
namespace Sw
open PySem PySem.Spec PyProof.Rows L2
/-- where a def stands: a module's name; a class's method; a class's property -/
inductive Pl where
  | glo (x : Str)
  | meth (c m : Str)
  | prop (c m : Str)
def Pl.adr (K : PySem.W.Frag) : Pl → Addr
  | .glo x => He.ga K x
  | .meth c m => He.ma K (He.ga K c) m
  | .prop c m => match PySem.W.recIn K (He.ma K (He.ga K c) m) "property" with
    | some (.ref a :: _) => a
    | _ => 0
/-- a def of the text: where, its names, its statement, parameters, all names, lists that change -/
structure DefI where
  pl : Pl
  name : Str
  qual : Str
  st : Stmt
  ps : List Str
  N : List Str
  mu : List Str
def fnK (K : PySem.W.Frag) (a : Addr) : He.FnW := match K.lookup a with
  | some ⟨_, _, .func fd, _⟩ => some (fd.name, fd.qualname, fd.params, fd.body, fd.scope, fd.globals, fd.closure, fd.builtins)
  | _ => none
def DefI.val (d : DefI) : He.FnW := some (d.name, d.qual, defArgs d.st, .stmts (defBody d.st), defScope d.st, mainGlobals, [], builtinsNs)
def isNoneV : Value → Bool
  | .none => true
  | _ => false
def DefI.ok (K : PySem.W.Frag) (d : DefI) : Bool := PySem.W.keepIn K (.ref (d.pl.adr K)) && (match K.lookup (d.pl.adr K) with
  | some ⟨_, _, .func fd, _⟩ => PySem.W.codeIn K fd.code d.qual && isNoneV fd.defaults
  | _ => false)
theorem DefI.fn {K : PySem.W.Frag} {d : DefI} (e : fnK K (d.pl.adr K) = d.val) (c : d.ok K = true) : ∃ fd, Fun K d.name d.qual d.st (d.pl.adr K) fd := by
  obtain ⟨kp, c2⟩ := Bool.and_eq_true_iff.mp c
  unfold fnK at e
  cases q : K.lookup (d.pl.adr K) with
  | none => rw [q] at c2; cases c2
  | some o =>
    obtain ⟨oc, od, dt, osl⟩ := o
    rw [q] at c2 e
    cases dt with
    | func fd =>
      obtain ⟨a1, a2, a3, a4, a5, a6, a7, a8, a9, a10, a11, a12, a13, a14, a15⟩ := fd
      simp only [DefI.val, Option.some.injEq, Prod.mk.injEq] at e
      obtain ⟨e1, e2, e3, e4, e5, e6, e7, e8⟩ := e
      subst e1 e2 e3 e4 e5 e6 e7 e8
      obtain ⟨k1, k2⟩ := Bool.and_eq_true_iff.mp c2
      cases a8 <;> try cases k2
      exact ⟨_, ⟨oc, od, a9, a10, a11, a12, a13, a14, osl, rfl, q, k1⟩, kp⟩
    | _ => cases c2
/-! ### constants of the module -/
mutual
def pvB (K : PySem.W.Frag) : PV → Value → Bool
  | .non, u => isNoneV u
  | .bl b, .bool c => b == c
  | .int i, .int j _ => decide (i = j)
  | .str s, .str z _ => decide (s = z)
  | .tup ps, .ref a => (match K.lookup a with
    | some ⟨.type c, _, .seq its _, _⟩ => decide (c = "tuple") && (decide (its.size ≤ sizeLine) && pvsB K ps its.toList)
    | _ => false)
  | .lst ps, .ref a => (match K.lookup a with
    | some ⟨.type c, none, .seq its _, _⟩ => decide (c = "list") && (decide (its.size ≤ sizeLine) && pvsB K ps its.toList)
    | _ => false)
  | _, _ => false
def pvsB (K : PySem.W.Frag) : List PV → List Value → Bool
  | [], [] => true
  | p :: ps, u :: us => pvB K p u && pvsB K ps us
  | _, _ => false
end
theorem pvB_ok (D : Wd) : ∀ {p : PV} {u : Value}, pvB D.K p u = true → ∃ v, RelV v u ∧ ∀ H, RepP D H p v := by
  intro p
  refine PV.rec (motive_1 := fun p => ∀ {u : Value}, pvB D.K p u = true → ∃ v, RelV v u ∧ ∀ H, RepP D H p v) (motive_2 := fun ps => ∀ {us : List Value}, pvsB D.K ps us = true → ∃ vs, Vals vs us ∧ ∀ H, RepL D H ps vs)
    (motive_3 := fun _ => True) (motive_4 := fun _ => True) ?_ ?_ ?_ ?_ ?_ ?_ ?_ ?_ ?_ ?_ ?_ ?_ ?_ p
  · intro u h; cases u <;> simp [pvB, isNoneV] at h; exact ⟨.non, rfl, fun H => .non⟩
  · intro b u h; cases u <;> simp [pvB] at h; subst h; exact ⟨.bl b, rfl, fun H => .bl b⟩
  · intro i u h; cases u <;> simp [pvB] at h; subst h; exact ⟨.int i, ⟨_, rfl⟩, fun H => .int i⟩
  · intro s u h; cases u <;> simp [pvB] at h; subst h; exact ⟨.str s, ⟨_, rfl⟩, fun H => .str s⟩
  · intro ps ih u h
    cases u <;> simp only [pvB, Bool.false_eq_true] at h
    rename_i a
    split at h
    · rename_i c od its n osl q
      obtain ⟨h1, h2⟩ := Bool.and_eq_true_iff.mp h
      obtain ⟨h3, h4⟩ := Bool.and_eq_true_iff.mp h2
      obtain ⟨vs, r1, r2⟩ := ih h4
      exact ⟨.ref a, rfl, fun H => .tup (.inr ⟨_, its, n, q, congrArg Value.type (of_decide_eq_true h1), rfl, of_decide_eq_true h3, r1⟩) (r2 H)⟩
    · cases h
  · intro ps ih u h
    cases u <;> simp only [pvB, Bool.false_eq_true] at h
    rename_i a
    split at h
    · rename_i c its n osl q
      obtain ⟨h1, h2⟩ := Bool.and_eq_true_iff.mp h
      obtain ⟨h3, h4⟩ := Bool.and_eq_true_iff.mp h2
      obtain ⟨vs, r1, r2⟩ := ih h4
      exact ⟨.ref a, rfl, fun H => .lst (.inr ⟨_, its, n, q, congrArg Value.type (of_decide_eq_true h1), rfl, rfl, of_decide_eq_true h3, r1⟩) (r2 H)⟩
    · cases h
  · intro kvs _ u h; cases u <;> simp [pvB] at h
  · intro c fs _ u h; cases u <;> simp [pvB] at h
  · intro us h; cases us <;> simp [pvsB] at h; exact ⟨[], .nil, fun H => .nil⟩
  · intro p ps ih1 ih2 us h
    cases us <;> simp only [pvsB, Bool.and_eq_true, Bool.false_eq_true] at h
    obtain ⟨v, r1, r2⟩ := ih1 h.1
    obtain ⟨vs, r3, r4⟩ := ih2 h.2
    exact ⟨v :: vs, .cons r1 r3, fun H => .cons (r2 H) (r4 H)⟩
  · trivial
  · intros; trivial
  · intros; trivial
/-! ### the module's names -/
def glB (K : PySem.W.Frag) (fa ca : Nat → Addr) (q : Str × Gk) : Bool := match q.2 with
  | .fn i => He.eqO (PySem.W.nsIn K mainGlobals q.1) (some (some (.ref (fa i))))
  | .cls c => He.eqO (PySem.W.nsIn K mainGlobals q.1) (some (some (.ref (ca c))))
  | .cst p => (match PySem.W.nsIn K mainGlobals q.1 with
    | some (some u) => pvB K p u
    | _ => false)
  | .free => He.eqO (PySem.W.nsIn K mainGlobals q.1) (some none)
theorem glB_ok {D : Wd} {fa : Nat → Addr} {mg : Str → Option Value} {h : Heap} (X : D.K.In h) (G : h.Ns mainGlobals mg) {q : Str × Gk} (c : glB D.K fa D.ca q = true) : GlIs D fa mg q.1 q.2 := by
  obtain ⟨x, k⟩ := q
  cases k with
  | fn i => exact PySem.W.mg_of X G (He.eqO_ok c)
  | cls i => exact PySem.W.mg_of X G (He.eqO_ok c)
  | free => exact PySem.W.mg_none_of X G (He.eqO_ok c)
  | cst p =>
    simp only [glB] at c
    split at c
    · rename_i u e
      obtain ⟨v, r1, r2⟩ := pvB_ok D c
      exact ⟨u, v, PySem.W.mg_of X G e, r1, r2⟩
    · cases c
/-! ### classes -/
def methB (K : PySem.W.Frag) (C : Addr) (m : Str) (f : Addr) : Bool := He.eqO (PySem.W.findIn K (.ref C) m) (some (some (.ref f))) && (PySem.W.isFn K (.ref f) && PySem.W.keepIn K (.ref f))
theorem methB_ok {K : PySem.W.Frag} {C : Addr} {m : Str} {f : Addr} (h : methB K C m f = true) : Meth K C m f := by
  obtain ⟨h1, h2⟩ := Bool.and_eq_true_iff.mp h
  obtain ⟨h3, h4⟩ := Bool.and_eq_true_iff.mp h2
  exact ⟨He.eqO_ok h1, h3, h4⟩
def isPropRec (o : Option (List Value)) (f : Addr) : Bool := match o with
  | some (.ref a :: _) => decide (a = f)
  | _ => false
def atB (K : PySem.W.Frag) (C : Addr) (an : Nat → Str) (fa : Nat → Addr) (q : Nat × At) : Bool := match q.2 with
  | .slot i => He.eqO (PySem.W.findIn K (.ref C) (an q.1)) (some (some (.ref (He.ma K C (an q.1))))) && (He.eqO (PySem.W.specialIn K (.ref (He.ma K C (an q.1))) "__get__") (some (some (.builtin "member_descriptor.__get__"))) &&
      (decide (PySem.W.takesIn K (.ref (He.ma K C (an q.1))) = some true) && (decide (PySem.W.typeIn K (.ref (He.ma K C (an q.1))) = some (.type "member_descriptor")) && (decide (PySem.W.slotIn K (He.ma K C (an q.1)) C = some i) && decide (i < 1000)))))
  | .meth g => methB K C (an q.1) (fa g)
  | .prop g => He.eqO (PySem.W.findIn K (.ref C) (an q.1)) (some (some (.ref (He.ma K C (an q.1))))) && (He.eqO (PySem.W.specialIn K (.ref (He.ma K C (an q.1))) "__get__") (some (some (.builtin "property.__get__"))) &&
      (decide (PySem.W.takesIn K (.ref (He.ma K C (an q.1))) = some true) && isPropRec (PySem.W.recIn K (He.ma K C (an q.1)) "property") (fa g)))
def clsB (K : PySem.W.Frag) (C : Addr) (an : Nat → Str) (fa : Nat → Addr) (k : Cls) : Bool :=
  (PySem.W.plainGet K C Str.empty && (PySem.W.isClsIn K C && (PySem.W.plainOver K C && He.eqO (PySem.W.findIn K (.ref C) "__setattr__") (some (some (.builtin "object.__setattr__")))))) &&
  ((He.eqO (PySem.W.findIn K (.ref C) "__class__") (some (some (.builtin "object.__class__"))) && (He.eqO (PySem.W.specialIn K (.builtin "object.__class__") "__get__") (some (some (.builtin "getset_descriptor.__get__"))) &&
    (decide (PySem.W.takesIn K (.builtin "object.__class__") = some true) && decide (PySem.W.mroIn K C (.type "object") = some true)))) &&
  ((k.ats.all (atB K C an fa)) && ((PySem.W.makesIn K C && (He.eqO (PySem.W.findIn K (.ref C) "__init__") (some (some (.ref (fa k.init)))) && (PySem.W.isFn K (.ref (fa k.init)) && PySem.W.keepIn K (.ref C)))) &&
    (match k.len with
      | none => true
      | some g => methB K C "__len__" (fa g)))))
theorem lookup_in {β : Type} {f : Nat} {x : β} : ∀ {l : List (Nat × β)}, l.lookup f = some x → (f, x) ∈ l
  | [], h => by cases h
  | (g, y) :: r, h => by
    rw [List.lookup_cons] at h
    cases e : (f == g) with
    | true => rw [e] at h; cases h; rw [beq_iff_eq.mp e]; exact List.mem_cons_self
    | false => rw [e] at h; exact List.mem_cons_of_mem _ (lookup_in h)
theorem clsB_ok {D : Wd} {an : Nat → Str} {fa : Nat → Addr} {c : Nat} {k : Cls} (h : clsB D.K (D.ca c) an fa k = true) : ClsAt D fa an c k := by
  unfold clsB at h
  simp only [Bool.and_eq_true, decide_eq_true_eq, List.all_eq_true] at h
  obtain ⟨⟨a1, a2, a3, a4⟩, ⟨b1, b2, b3, b4⟩, c1, ⟨d1, d2, d3, d4⟩, e1⟩ := h
  refine ⟨⟨a1, a2, a3, He.eqO_ok a4⟩, ⟨He.eqO_ok b1, He.eqO_ok b2, b3, b4⟩, fun f i hf => ?_, fun f g hf => ?_, fun f g hf => ?_, ⟨d1, He.eqO_ok d2, d3, d4⟩, fun g hg => ?_⟩
  · have := c1 _ (lookup_in hf)
    simp only [atB, Bool.and_eq_true, decide_eq_true_eq] at this
    obtain ⟨s1, s2, s3, s4, s5, s6⟩ := this
    exact ⟨_, He.eqO_ok s1, He.eqO_ok s2, s3, s4, s5, s6⟩
  · exact methB_ok (c1 _ (lookup_in hf))
  · have := c1 _ (lookup_in hf)
    simp only [atB, Bool.and_eq_true, decide_eq_true_eq] at this
    obtain ⟨s1, s2, s3, s4⟩ := this
    refine ⟨_, He.eqO_ok s1, He.eqO_ok s2, s3, ?_⟩
    unfold isPropRec at s4
    split at s4
    · rename_i a r e
      rw [← of_decide_eq_true s4]
      exact ⟨r, e⟩
    · cases s4
  · rw [hg] at e1
    exact methB_ok e1
def isiB (K : PySem.W.Frag) (cs : List Addr) : Bool := cs.all fun C => ["NoneType", "bool", "int", "str", "tuple", "list"].all fun n => decide (PySem.W.kitOne K (.type n) (.ref C) = some false) && decide (PySem.W.kitOne K (.ref C) (.type n) = some false)
def isiCB (K : PySem.W.Frag) (ca : Nat → Addr) (n : Nat) : Bool := (List.range n).all fun c => (List.range n).all fun c' => decide (PySem.W.kitOne K (.ref (ca c)) (.ref (ca c')) = some (c' == c))
/-! ### all of it -/
structure Pg where
  tb : Tb
  cn : List Str
  ds : List DefI
  T : Tab
def Pg.fa (g : Pg) (K : PySem.W.Frag) (i : Nat) : Addr := match g.ds[i]? with
  | some d => d.pl.adr K
  | none => 0
def Pg.ca (g : Pg) (K : PySem.W.Frag) (c : Nat) : Addr := He.ga K (g.cn.getD c Str.empty)
def Pg.an (g : Pg) (k : Nat) : Str := g.tb.attrs.getD k Str.empty
def Pg.nm (g : Pg) (x : Str) : Option Gk := g.tb.names.lookup x
def Pg.wd (g : Pg) (P : Program) (w : World) (K : PySem.W.Frag) (xf : Nat → Str) : Wd := ⟨P, w, K, g.ca K, xf⟩
/-- what is looked at behind the top -/
def Pg.ex (g : Pg) (K : PySem.W.Frag) : Bool := (g.ds.all (·.ok K)) && ((g.tb.names.all (glB K (g.fa K) (g.ca K))) && (((List.range g.T.cls.length).all fun c => match g.T.cls[c]? with
  | some k => clsB K (g.ca K c) g.an (g.fa K) k
  | none => true) && (isiB K ((List.range g.T.cls.length).map (g.ca K)) && isiCB K (g.ca K) g.T.cls.length)))
abbrev AlS : Type := Bool × List He.FnW
def Pg.obs (g : Pg) (K : PySem.W.Frag) : AlS := (g.ex K, g.ds.map fun d => fnK K (d.pl.adr K))
def Pg.val (g : Pg) : AlS := (true, g.ds.map DefI.val)
def Pg.hook (g : Pg) (n : Nat) : PySem.W.Hook where
  α := AlS
  obs := fun s => g.obs (He.frT s.heap.get? (He.asD s.heap.get? n))
  val := fun _ => g.val
  says := fun _ h => ∃ K : PySem.W.Frag, K.In h ∧ g.obs K = g.val
  of := fun _ _ e => ⟨_, He.frT_in, e⟩
  keeps := fun _ _ _ ⟨K, hK, c⟩ k => ⟨K, PySem.W.Frag.In.keeps hK k, c⟩
def Pg.ob (g : Pg) (n : Nat) (s : PySem.W.SharedT) : AlS := g.obs (He.frT (HandSHeadRun.getT s) (He.asD (HandSHeadRun.getT s) n))
theorem Pg.ob_eq (g : Pg) (n : Nat) (s : PySem.W.SharedT) : g.ob n s = (g.hook n).obs s.abs := by
  have e : HandSHeadRun.getT s = s.abs.heap.get? := funext (HandSHeadRun.getT_eq s)
  show g.obs _ = g.obs _
  rw [e]
/-! ### what is checked of the text alone -/
def scB (d : DefI) : Bool := (match (defScope d.st).kind with
  | .function => true
  | _ => false) && (!(defScope d.st).isCoroutine && (!(defScope d.st).isGenerator && (decide d.N.Nodup && (decide (d.N.take d.ps.length = d.ps) && ((d.ps.all fun x => decide ((defScope d.st).names.lookup x = some .local) || decide ((defScope d.st).names.lookup x = some .cell)) && (defScope d.st).names.all fun y => decide (y.2 ≠ .free))))))
theorem scB_ok {d : DefI} (h : scB d = true) : FnScope d.N d.ps (defScope d.st) := by
  simp only [scB, Bool.and_eq_true, decide_eq_true_eq, List.all_eq_true, Bool.or_eq_true, Bool.not_eq_true'] at h
  obtain ⟨h1, h2, h3, h4, h5, h6, h7⟩ := h
  refine ⟨?_, h2, h3, h4, h5, h6, h7⟩
  split at h1
  · assumption
  · cases h1
def BindI (d : DefI) : Prop := ∀ (kV doc pm : Value) (an : Option Addr) (cdv ct : Value) (us : List Value), us.length = d.ps.length → bindArgs (PySem.W.fnOf d.name d.qual (defArgs d.st) (defBody d.st) (defScope d.st) .none kV doc pm an cdv ct) ⟨us, []⟩ = pure (d.ps.zip us)
def gxOf (d : DefI) : Gx := ⟨d.N, defScope d.st, fun _ => true⟩
def codeOfD (tb : Tb) (d : DefI) : Option S := cSs (cS tb d.mu 60 (gxOf d)) (defBody d.st)
structure TextOk (g : Pg) : Prop where
  bind : ∀ (i : Nat) d, g.ds[i]? = some d → BindI d
  code : ∀ (i : Nat) d, g.ds[i]? = some d → ∃ b, codeOfD g.tb d = some b ∧ g.T.fns[i]? = some ⟨d.ps.length, d.N.length, b⟩
  sc : g.ds.all scB = true
  lenF : g.T.fns.length = g.ds.length
  nF : g.tb.nF ≤ g.T.fns.length
  nC : g.tb.nC ≤ g.T.cls.length
  an : g.tb.attrs.Nodup
  cls : (g.T.cls.all fun k => decide (k.init < g.T.fns.length) && ((match k.len with
    | some f => decide (f < g.T.fns.length)
    | none => true) && k.ats.all fun q => match q.2 with
    | .slot _ => true
    | .prop f => decide (f < g.T.fns.length)
    | .meth f => decide (f < g.T.fns.length))) = true
def AllD (p : DefI → Prop) : List DefI → Prop
  | [] => True
  | d :: r => p d ∧ AllD p r
theorem AllD.at {p : DefI → Prop} : ∀ {l : List DefI}, AllD p l → ∀ (i : Nat) d, l[i]? = some d → p d
  | [], _, i, d, e => by simp at e
  | a :: r, h, 0, d, e => by simp at e; subst e; exact h.1
  | a :: r, h, i + 1, d, e => AllD.at h.2 i d (by simpa using e)
def AllC (tb : Tb) : List DefI → List Fn → Prop
  | [], [] => True
  | d :: r, F :: q => (codeOfD tb d = some F.body ∧ d.ps.length = F.params ∧ d.N.length = F.names) ∧ AllC tb r q
  | _, _ => False
theorem AllC.at {tb : Tb} : ∀ {l : List DefI} {q : List Fn}, AllC tb l q → ∀ (i : Nat) d, l[i]? = some d → ∃ b, codeOfD tb d = some b ∧ q[i]? = some ⟨d.ps.length, d.N.length, b⟩
  | [], _, _, i, d, e => by simp at e
  | a :: r, [], h, i, d, e => h.elim
  | a :: r, F :: q, h, 0, d, e => by
    simp at e; subst e
    obtain ⟨⟨h1, h2, h3⟩, _⟩ := h
    exact ⟨F.body, h1, by rw [h2, h3]; rfl⟩
  | a :: r, F :: q, h, i + 1, d, e => by
    have := AllC.at h.2 i d (by simpa using e)
    simpa using this
theorem has_of {α : Type} {l : List α} {i : Nat} (h : i < l.length) : ∃ x, l[i]? = some x := ⟨l[i], List.getElem?_eq_getElem h⟩
theorem TextOk.tbOk {g : Pg} (t : TextOk g) : TbOk g.tb g.T g.nm g.an := by
  refine ⟨fun _ => rfl, fun x k h => ?_, fun i hi => has_of (Nat.lt_of_lt_of_le hi t.nF), fun i hi => has_of (Nat.lt_of_lt_of_le hi t.nC)⟩
  rw [List.idxOf?, List.findIdx?_eq_some_iff_getElem] at h
  obtain ⟨h1, h2, _⟩ := h
  unfold Pg.an
  rw [List.getD_eq_getElem?_getD, List.getElem?_eq_getElem h1, Option.getD_some, beq_iff_eq.mp h2]
theorem lookup_str {β : Type} {f : Str} {x : β} : ∀ {l : List (Str × β)}, l.lookup f = some x → (f, x) ∈ l
  | [], h => by cases h
  | (g, y) :: r, h => by
    rw [List.lookup_cons] at h
    cases e : (f == g) with
    | true => rw [e] at h; cases h; rw [beq_iff_eq.mp e]; exact List.mem_cons_self
    | false => rw [e] at h; exact List.mem_cons_of_mem _ (lookup_str h)
theorem Pg.prg {g : Pg} (t : TextOk g) {P : Program} {w : World} {K : PySem.W.Frag} {xf : Nat → Str} {mg : Str → Option Value} {h base : Heap} (X : K.In h) (G : h.Ns mainGlobals mg) (o : g.obs K = g.val) (fuel n : Nat) :
    PrgOk (g.wd P w K xf) g.T (calls g.T fuel n) g.nm g.an (g.fa K) mg base (3 * n) := by
  have o1 : g.ex K = true := congrArg (fun z : AlS => z.1) o
  have o2 : (g.ds.map fun d => fnK K (d.pl.adr K)) = g.ds.map DefI.val := congrArg (fun z : AlS => z.2) o
  simp only [Pg.ex, Bool.and_eq_true, List.all_eq_true, isiB, isiCB, List.mem_map, List.mem_range, decide_eq_true_eq, forall_exists_index, and_imp] at o1
  obtain ⟨x1, x2, x3, x4, x5⟩ := o1
  have clen : ∀ {c : Nat} {k : Cls}, g.T.cls[c]? = some k → c < g.T.cls.length := fun {c k} e => by
    rcases Nat.lt_or_ge c g.T.cls.length with z | z
    · exact z
    · rw [List.getElem?_eq_none z] at e; cases e
  have tc := List.all_eq_true.mp t.cls
  have tcl : ∀ {c : Nat} {k : Cls}, g.T.cls[c]? = some k → _ := fun {c k} e => tc k (List.mem_of_getElem? e)
  refine prg_ok (D := g.wd P w K xf) ⟨fun x k hx => ?_, fun c k e => ?_, fun c k e => ?_, fun c k e n hn => ?_, fun c c' k k' e e' => ?_, fun c k f e hf => ?_, fun c k f j e hf => ?_⟩ (fun i F hF => ?_) fuel n
  · exact glB_ok (D := g.wd P w K xf) X G (q := (x, k)) (x2 _ (lookup_str hx))
  · have := tcl e
    simp only [Bool.and_eq_true, decide_eq_true_eq] at this
    exact has_of this.1
  · have := x3 c (clen e)
    rw [e] at this
    exact clsB_ok (D := g.wd P w K xf) this
  · exact x4 _ c (clen e) rfl n hn
  · exact x5 c (clen e) c' (clen e')
  · have := tcl e
    rw [hf] at this
    simp only [Bool.and_eq_true, decide_eq_true_eq] at this
    exact has_of this.2.1
  · have := tcl e
    simp only [Bool.and_eq_true, decide_eq_true_eq, List.all_eq_true] at this
    rcases hf with hf | hf
    · have z := this.2.2 _ (lookup_in hf)
      exact has_of (of_decide_eq_true z)
    · have z := this.2.2 _ (lookup_in hf)
      exact has_of (of_decide_eq_true z)
  · have hi : i < g.ds.length := by
      rw [← t.lenF]
      rcases Nat.lt_or_ge i g.T.fns.length with z | z
      · exact z
      · rw [List.getElem?_eq_none z] at hF; cases hF
    obtain ⟨d, hd⟩ := has_of hi
    have e1 : fnK K (d.pl.adr K) = d.val := by
      have := congrArg (·[i]?) o2
      simp only [List.getElem?_map, hd, Option.map_some, Option.some.injEq] at this
      exact this
    obtain ⟨fd, Fu⟩ := DefI.fn e1 (x1 d (List.mem_of_getElem? hd))
    obtain ⟨b, hb, hT⟩ := t.code i d hd
    rw [hT] at hF
    cases hF
    have ea : g.fa K i = d.pl.adr K := by unfold Pg.fa; rw [hd]
    refine ⟨d.N, d.ps, d.st, ⟨⟨d.name, d.qual, fd, ?_, Fu.binds (t.bind i d hd)⟩, scB_ok (List.all_eq_true.mp t.sc d (List.mem_of_getElem? hd)), rfl, rfl⟩, fun Γ dd X W cx => ?_⟩
    · rw [ea]; exact Fu
    · exact cSs_ok (fun s c hs => cS_ok t.tbOk 60 _ W X s c cx hs) hb
/-- the law's end: what is left is plain -/
theorem Pg.walk {g : Pg} (t : TextOk g) {l : PySem.W.OpenLaw} {q : Program} {loose : List Str} {XP : (Str → Option Value) → Heap → Prop} {dr : DefRec} {n li fuel nn : Nat} {dl : DefI} {x : Str} (hd : g.ds[li]? = some dl) (hps : dl.ps = [x])
    (hnm : g.nm dr.name = some (.fn li)) (hn : l.most = some 63) (hdf : dr.params.defaults = []) (hr : Room (3 * nn + 3) callerA)
    (plain : ∀ ns : List Int, ns.length ≤ 63 → ∃ h, (calls g.T fuel (nn + 1)).run li [.p (.lst (ns.map .int))] [] = .ok (.p (.bl true)) h) :
    PySem.W.WalkO q loose XP (g.hook n).says l.row.toRowW dr [] (fun f vs => PySem.call f vs) := by
  refine Att.attach_call hn hdf fun w s0 s1 mg mb fa o pm cd doc a vs ns Gd Y ho hdd hcd hmg hobj hints hlen hg => ?_
  obtain ⟨K, KX, ob⟩ := Y
  have prg : ∀ base, PrgOk (g.wd l.prog w K fun _ => Str.empty) g.T (calls g.T fuel nn) g.nm g.an (g.fa K) mg base (3 * nn) := fun base => Pg.prg t KX Gd.T.g ob fuel nn
  have e0 := (prg s1.heap).gl _ _ hnm
  have ef : fa = dl.pl.adr K := by
    have e1 : mg dr.name = some (.ref (g.fa K li)) := e0
    rw [hmg] at e1
    cases e1
    show g.fa K li = _
    unfold Pg.fa
    rw [hd]
  subst ef
  have o1 : g.ex K = true := congrArg (fun z : AlS => z.1) ob
  have o2 : (g.ds.map fun d => fnK K (d.pl.adr K)) = g.ds.map DefI.val := congrArg (fun z : AlS => z.2) ob
  have e1 : fnK K (dl.pl.adr K) = dl.val := by
    have := congrArg (·[li]?) o2
    simp only [List.getElem?_map, hd, Option.map_some, Option.some.injEq] at this
    exact this
  obtain ⟨fd, Fu⟩ := DefI.fn e1 (List.all_eq_true.mp (Bool.and_eq_true_iff.mp o1).1 dl (List.mem_of_getElem? hd))
  obtain ⟨b, hb, hT⟩ := t.code li dl hd
  have hF : ∀ base : Heap, K.In base → base.Ns mainGlobals mg → FnOk l.prog w K mg base (L2.CX l.prog w) (3 * nn + 3) (dl.pl.adr K) fd [x] (spS (g.wd l.prog w K fun _ => Str.empty) ((calls g.T fuel (nn + 1)).run li)) := fun base _ _ => by
    have := fn_okF (D := g.wd l.prog w K fun _ => Str.empty) (F := ⟨dl.ps.length, dl.N.length, b⟩) Fu (scB_ok (List.all_eq_true.mp t.sc dl (List.mem_of_getElem? hd))) rfl rfl (prg base) fun X W cx => cSs_ok (fun s c hs => cS_ok t.tbOk 60 _ W X s c cx hs) hb
    have e : (calls g.T fuel (nn + 1)).run li = runF g.T (calls g.T fuel nn) ⟨dl.ps.length, dl.N.length, b⟩ := by
      funext vs h
      show (match g.T.fns[li]? with | some F => runF g.T (calls g.T fuel nn) F vs h | none => .bad) = _
      rw [hT]
    rw [e, ← hps]
    exact this
  have hbd : ∀ (s : Shared) (u : Value), BindsTo s fd ⟨[u], []⟩ [(x, u)] := fun s u => by
    obtain ⟨oc, od, kV, doc, pm, an, cdv, ct, osl, rfl, lk, hcd⟩ := Fu.ex
    have := t.bind li dl hd kV doc pm an cdv ct [u] (by rw [hps]; rfl)
    rw [hps] at this
    exact .of_eq this
  refine law_call KX Gd.T.g Gd.T.b Gd.T.builtins Gd.T.nolimit hg hobj hints (Nat.le_trans hlen (by decide)) hr hF hbd (fun H hO hS => ?_) fun H e s' hc => ?_
  · have sf : SqF K H a (ns.map V.int) := by
      rcases hS with (hS | ⟨o, hS⟩) | hS
      · rcases hO a with z | ⟨o, xs, z⟩
        · rw [hS] at z; cases z
        · rw [hS] at z; cases z
      · exact .inl ⟨o, hS⟩
      · exact .inr hS
    have rl : ∀ ns : List Int, RepL (g.wd l.prog w K fun _ => Str.empty) H (ns.map .int) (ns.map V.int) := fun ns => by
      induction ns with
      | nil => exact .nil
      | cons i r ih => exact .cons (.int i) ih
    obtain ⟨h, hp⟩ := plain ns hlen
    refine ⟨[], [], [.p (.lst (ns.map .int))], ⟨rfl, fun l k q r z => by simp at z, fun l e q z => by simp at z, fun a ⟨q, z, _⟩ => by cases z⟩, .cons (.p (.lst sf (rl ns))) .nil, ?_⟩
    rw [hp]
    intro m' H' y _ _ ry
    cases ry with
    | p r => cases r; rfl
  · obtain ⟨_, _, _, _, _, _, _, _, _, _, _, _, z⟩ := hc
    exact z
end Sw

end

section
/-! Plain reading of code: equations, loops, calls. -/
namespace Sw
open PySem (Str)
/-- a call's end -/
def callV (Γ : Calls) (f : Nat) (ps : List PV) (h : Store) : Res Val := match Γ.call f ps with
  | .ok v _ => .ok (.p v) h
  | .exc x _ => .exc x h
  | .bad => .bad
def makeV (Γ : Calls) (c f : Nat) (ps : List PV) (h : Store) : Res Val := match Γ.init c f ps with
  | .ok v _ => .ok (.p v) h
  | .exc x _ => .exc x h
  | .bad => .bad
def finV (r : RS) (h : Store) : Res Val := match r with
  | .rt v h1 => (match fz v h1 with
    | .ok p _ => .ok (.p p) h
    | .exc x _ => .exc x h
    | .bad => .bad)
  | .nx _ _ => .ok (.p .non) h
  | .exc x _ _ => .exc x h
  | _ => .bad
theorem callV_at {T : Tab} {fuel n i : Nat} {F : Fn} {ps : List PV} {h : Store} (hF : T.fns[i]? = some F) (hl : ps.length = F.params) : callV (calls T fuel (n + 1)) i ps h = finV (evS T (calls T fuel n) F.body (startE F (ps.map .p)) []) h := by
  unfold callV Calls.call
  show (match Res.bind (match T.fns[i]? with | some F => runF T (calls T fuel n) F (ps.map .p) [] | none => .bad) fz with
    | .ok v _ => Res.ok (Val.p v) h
    | .exc x _ => .exc x h
    | .bad => .bad) = _
  rw [hF]
  simp only [runF, List.length_map, hl, if_true]
  generalize evS T (calls T fuel n) F.body (startE F (ps.map .p)) [] = r
  cases r <;> simp [finV, fz, toP]
/-! ### equations -/
section
variable (T : Tab) (Γ : Calls) (ρ : Env) (h : Store)
@[simp] theorem fz_p (v : PV) : fz (.p v) h = .ok v h := rfl
@[simp] theorem vw_p (v : PV) : vw (.p v) h = .ok v h := rfl
@[simp] theorem asB_p (b : Bool) : asB (.p (.bl b)) h = .ok b h := rfl
@[simp] theorem norm_p (v : PV) : norm h (.p v) = .p v := rfl
def varV (o : Option (Option Val)) (h : Store) : Res Val := match o with
  | some (some v) => .ok v h
  | _ => .bad
@[simp] theorem varV_some (v : Val) : varV (some (some v)) h = .ok v h := rfl
@[simp] theorem evE_var (i : Nat) : evE T Γ (.var i) ρ h = varV ρ[i]? h := by simp only [evE]; rfl
@[simp] theorem evE_pv (p : PV) : evE T Γ (.pv p) ρ h = .ok (.p p) h := by simp only [evE]
@[simp] theorem evE_tup (as : CL) : evE T Γ (.tup as) ρ h = (evL T Γ as ρ h).bind fun ps h1 => if ps.length ≤ sizeMax then .ok (.p (.tup ps)) h1 else .bad := by simp only [evE]
@[simp] theorem evE_lst (as : CL) : evE T Γ (.lst as) ρ h = (evL T Γ as ρ h).bind fun ps h1 => if ps.length ≤ sizeMax then .ok (.p (.lst ps)) h1 else .bad := by simp only [evE]
@[simp] theorem evE_newL (as : CL) : evE T Γ (.newL as) ρ h = (evL T Γ as ρ h).bind fun ps h1 => if ps.length ≤ sizeMax then .ok (.loc h1.length) (h1 ++ [.lst ps]) else .bad := by simp only [evE]
@[simp] theorem evE_newD : evE T Γ .newD ρ h = .ok (.loc h.length) (h ++ [.dct []]) := by simp only [evE]
@[simp] theorem evE_op (o : Op) (a b : C) : evE T Γ (.op o a b) ρ h = ((evE T Γ a ρ h).bind fz).bind fun x h1 => ((evE T Γ b ρ h1).bind fz).bind fun y h2 => Res.of ((op2 o x y).map .p) h2 := by simp only [evE]
def negV (x : PV) (h : Store) : Res Val := match x with
  | .int i => .ok (.p (.int (-i))) h
  | _ => .bad
@[simp] theorem negV_int (i : Int) : negV (.int i) h = .ok (.p (.int (-i))) h := rfl
@[simp] theorem evE_neg (a : C) : evE T Γ (.neg a) ρ h = ((evE T Γ a ρ h).bind fz).bind negV := by simp only [evE]; rfl
@[simp] theorem evE_cmp (o : Cmp) (a b : C) : evE T Γ (.cmp o a b) ρ h = (evE T Γ a ρ h).bind fun u h1 => (evE T Γ b ρ h1).bind fun v h2 => (vw u h2).bind fun x h3 => (vw v h3).bind fun y h4 => Res.of ((cmp2 o x y).map fun z => .p (.bl z)) h4 := by simp only [evE]
def chV (o : Option Bool) (h : Store) (k : Res Val) : Res Val := match o with
  | none => .bad
  | some false => .ok (.p (.bl false)) h
  | some true => k
@[simp] theorem chV_t (k : Res Val) : chV (some true) h k = k := rfl
@[simp] theorem chV_f (k : Res Val) : chV (some false) h k = .ok (.p (.bl false)) h := rfl
@[simp] theorem evE_chain (o q : Cmp) (a b c : C) : evE T Γ (.chain o q a b c) ρ h = (evE T Γ a ρ h).bind fun u h1 => (evE T Γ b ρ h1).bind fun v h2 => (vw u h2).bind fun x h3 => (vw v h3).bind fun y h4 =>
    chV (cmp2 o x y) h4 ((evE T Γ c ρ h4).bind fun w h5 => (vw v h5).bind fun y h6 => (vw w h6).bind fun z h7 => Res.of ((cmp2 q y z).map fun z => .p (.bl z)) h7) := by
  simp only [evE]; rfl
@[simp] theorem evE_and (a b : C) : evE T Γ (.and a b) ρ h = ((evE T Γ a ρ h).bind asB).bind fun x h1 => if x = true then evE T Γ b ρ h1 else .ok (.p (.bl false)) h1 := by
  simp only [evE]; congr; funext x h1; cases x <;> rfl
@[simp] theorem evE_or (a b : C) : evE T Γ (.or a b) ρ h = ((evE T Γ a ρ h).bind asB).bind fun x h1 => if x = true then .ok (.p (.bl true)) h1 else evE T Γ b ρ h1 := by
  simp only [evE]; congr; funext x h1; cases x <;> rfl
@[simp] theorem evE_not (a : C) : evE T Γ (.not a) ρ h = ((evE T Γ a ρ h).bind asB).bind fun x h1 => .ok (.p (.bl (!x))) h1 := by simp only [evE]
@[simp] theorem evE_ite (t a b : C) : evE T Γ (.ite t a b) ρ h = ((evE T Γ t ρ h).bind asB).bind fun x h1 => if x = true then evE T Γ a ρ h1 else evE T Γ b ρ h1 := by
  simp only [evE]; congr; funext x h1; cases x <;> rfl
@[simp] theorem evE_isi (t : Ty) (a : C) : evE T Γ (.isi t a) ρ h = ((evE T Γ a ρ h).bind fz).bind fun x h1 => if isDct x || noCls T x then .bad else .ok (.p (.bl (isiPV t x))) h1 := by simp only [evE]
@[simp] theorem evE_bi (b : Bi) (a : C) : evE T Γ (.bi b a) ρ h = ((evE T Γ a ρ h).bind vw).bind fun x h1 => Res.of ((bi1 b x).map .p) h1 := by simp only [evE]
def lenV (u : Val) (h1 : Store) : Res Val := match norm h1 u with
    | .p (.tup xs) => .ok (.p (.int xs.length)) h1
    | .p (.lst xs) => .ok (.p (.int xs.length)) h1
    | .p (.dct kvs) => .ok (.p (.int kvs.length)) h1
    | .p (.str z) => if z.length ≤ sizeMax then .ok (.p (.int z.length)) h1 else .bad
    | .p (.obj c fs) => (match T.lenOf c with
      | some g => (match Γ.call g [.obj c fs] with
        | .ok (.int n) _ => if 0 ≤ n ∧ n < 1000000 then .ok (.p (.int n)) h1 else .bad
        | _ => .bad)
      | none => .bad)
    | .loc l => (match h1[l]? with
      | some (.lst xs) => .ok (.p (.int xs.length)) h1
      | some (.dct kvs) => .ok (.p (.int kvs.length)) h1
      | some (.obj c _) => (match T.lenOf c with
        | some g => (match Γ.run g [.loc l] h1 with
          | .ok (.p (.int n)) h2 => if 0 ≤ n ∧ n < 1000000 then .ok (.p (.int n)) h2 else .bad
          | _ => .bad)
        | none => .bad)
      | _ => .bad)
    | _ => .bad
@[simp] theorem lenV_tup (xs : List PV) : lenV T Γ (.p (.tup xs)) h = .ok (.p (.int xs.length)) h := rfl
@[simp] theorem lenV_lst (xs : List PV) : lenV T Γ (.p (.lst xs)) h = .ok (.p (.int xs.length)) h := rfl
@[simp] theorem lenV_dct (xs : List (PV × PV)) : lenV T Γ (.p (.dct xs)) h = .ok (.p (.int xs.length)) h := rfl
theorem lenV_obj {c g : Nat} {fs : List PV} {n : Int} (hl : T.lenOf c = some g) (hc : ∀ h, callV Γ g [.obj c fs] h = .ok (.p (.int n)) h) (h0 : 0 ≤ n) (h1 : n < 1000000) : lenV T Γ (.p (.obj c fs)) h = .ok (.p (.int n)) h := by
  have hc := hc h
  unfold callV at hc
  simp only [lenV, norm_p, hl]
  cases e : Γ.call g [.obj c fs] with
  | bad => rw [e] at hc; cases hc
  | exc x q => rw [e] at hc; cases hc
  | ok v q => rw [e] at hc; cases hc; simp [h0, h1]
@[simp] theorem evE_len (a : C) : evE T Γ (.len a) ρ h = (evE T Γ a ρ h).bind (lenV T Γ) := by simp only [evE]; rfl
@[simp] theorem evE_call (f : Nat) (as : CL) : evE T Γ (.call f as) ρ h = (evL T Γ as ρ h).bind (callV Γ f) := by simp only [evE]; rfl
@[simp] theorem evE_make (c : Nat) (as : CL) : evE T Γ (.make c as) ρ h = (evL T Γ as ρ h).bind (makeV Γ c (T.initOf c)) := by simp only [evE]; rfl
@[simp] theorem evE_idx (a i : C) : evE T Γ (.idx a i) ρ h = (evE T Γ a ρ h).bind fun u h1 => ((evE T Γ i ρ h1).bind fz).bind fun y h2 => (vw u h2).bind fun x h3 => Res.of ((idx2 x y).map .p) h3 := by simp only [evE]
def lcP (test e : C) (ρ1 : Env) (h2 : Store) : Res (Option PV) := ((evE T Γ test ρ1 h2).bind asB).bind fun b h3 => if b = true then ((evE T Γ e ρ1 h3).bind fz).bind fun y h4 => .ok (some y) h4 else .ok none h3
@[simp] theorem evE_lc (it : I) (t : Tg) (own : List Nat) (test e : C) : evE T Γ (.lc it t own test e) ρ h = (evI T Γ it ρ h).bind fun xs h1 => (lcGo (lcP T Γ test e) t (wipeE ρ own) xs [] h1).bind fun ys h2 => if xs.length ≤ sizeMax then .ok (.p (.lst ys)) h2 else .bad := by
  simp only [evE]; congr; funext xs h1; congr; funext r1 h2; unfold lcP; congr; funext b h3; cases b <;> rfl
@[simp] theorem evE_lcN (it : I) (t : Tg) (own : List Nat) (test e : C) : evE T Γ (.lcN it t own test e) ρ h = (evI T Γ it ρ h).bind fun xs h1 => (lcGo (lcP T Γ test e) t (wipeE ρ own) xs [] h1).bind fun ys h2 => if xs.length ≤ sizeMax then .ok (.loc h2.length) (h2 ++ [.lst ys]) else .bad := by
  simp only [evE]; congr; funext xs h1; congr; funext r1 h2; unfold lcP; congr; funext b h3; cases b <;> rfl
def dcP (test k e : C) (ρ1 : Env) (h2 : Store) : Res (Option (PV × PV)) := ((evE T Γ test ρ1 h2).bind asB).bind fun b h3 => if b = true then ((evE T Γ k ρ1 h3).bind fz).bind fun x h4 => ((evE T Γ e ρ1 h4).bind fz).bind fun y h5 => .ok (some (x, y)) h5 else .ok none h3
@[simp] theorem evE_dc (it : I) (t : Tg) (own : List Nat) (test k e : C) : evE T Γ (.dc it t own test k e) ρ h = (evI T Γ it ρ h).bind fun xs h1 => (dcGo (dcP T Γ test k e) t (wipeE ρ own) xs [] h1).bind fun ys h2 => if xs.length ≤ sizeMax then .ok (.p (.dct ys)) h2 else .bad := by
  simp only [evE]; congr; funext xs h1; congr; funext r1 h2; unfold dcP; congr; funext b h3; cases b <;> rfl
def fldV (f : Nat) (x : Val) (h1 : Store) : Res Val := match norm h1 x with
    | .p (.obj c fs) => (match T.at c f with
      | some (.slot i) => Res.of ((fs[i]?).map .p) h1
      | some (.prop g) => (match Γ.call g [.obj c fs] with
        | .ok v _ => .ok (.p v) h1
        | _ => .bad)
      | _ => .bad)
    | .loc l => (match h1[l]? with
      | some (.obj c fs) => (match T.at c f with
        | some (.slot i) => (match fs[i]? with
          | some (some v) => .ok v h1
          | _ => .bad)
        | some (.prop g) => (match Γ.run g [.loc l] h1 with
          | .ok v h2 => .ok v h2
          | _ => .bad)
        | _ => .bad)
      | _ => .bad)
    | _ => .bad
@[simp] theorem evE_fld (a : C) (f : Nat) : evE T Γ (.fld a f) ρ h = (evE T Γ a ρ h).bind (fldV T Γ f) := by simp only [evE]; rfl
theorem fldV_slot {c f i : Nat} {fs : List PV} {v : PV} (e : T.at c f = some (.slot i)) (e2 : fs[i]? = some v) : fldV T Γ f (.p (.obj c fs)) h = .ok (.p v) h := by
  simp [fldV, e, e2]
theorem fldV_prop {c f g : Nat} {fs : List PV} {v : PV} (e : T.at c f = some (.prop g)) (hc : ∀ h, callV Γ g [.obj c fs] h = .ok (.p v) h) : fldV T Γ f (.p (.obj c fs)) h = .ok (.p v) h := by
  have hc := hc h
  unfold callV at hc
  simp only [fldV, norm_p, e]
  cases q : Γ.call g [.obj c fs] with
  | bad => rw [q] at hc; cases hc
  | exc x w => rw [q] at hc; cases hc
  | ok u w => rw [q] at hc; cases hc; rfl
def methV (m : Nat) (as : CL) (ρ : Env) (x : PV) (h1 : Store) : Res Val := match x with
    | .obj c fs => (match T.at c m with
      | some (.meth g) => (evL T Γ as ρ h1).bind fun ps h2 => callV Γ g (.obj c fs :: ps) h2
      | _ => .bad)
    | _ => .bad
@[simp] theorem evE_meth (a : C) (m : Nat) (as : CL) : evE T Γ (.meth a m as) ρ h = ((evE T Γ a ρ h).bind fz).bind (methV T Γ m as ρ) := by
  simp only [evE]; rfl
theorem methV_at {c m g : Nat} {as : CL} {fs : List PV} (e : T.at c m = some (.meth g)) : methV T Γ m as ρ (.obj c fs) h = (evL T Γ as ρ h).bind fun ps h2 => callV Γ g (.obj c fs :: ps) h2 := by simp only [methV, e]
@[simp] theorem evL_nil : evL T Γ .nil ρ h = .ok [] h := by simp only [evL]
@[simp] theorem evL_cons (a : C) (r : CL) : evL T Γ (.cons a r) ρ h = ((evE T Γ a ρ h).bind fz).bind fun x h1 => (evL T Γ r ρ h1).bind fun xs h2 => .ok (x :: xs) h2 := by simp only [evL]
@[simp] theorem evVs_nil : evVs T Γ .nil ρ h = .ok [] h := by simp only [evVs]
@[simp] theorem evVs_cons (a : C) (r : CL) : evVs T Γ (.cons a r) ρ h = (evE T Γ a ρ h).bind fun x h1 => (evVs T Γ r ρ h1).bind fun xs h2 => .ok (x :: xs) h2 := by simp only [evVs]
@[simp] theorem evI_val (a : C) : evI T Γ (.val a) ρ h = ((evE T Γ a ρ h).bind fz).bind fun x h1 => Res.of (itemsOf x) h1 := by simp only [evI]
def rgV (x : PV) (h : Store) : Res (List PV) := match x with
  | .int n => if -1000000 < n ∧ n < 1000000 then .ok (rangePV n) h else .bad
  | _ => .bad
@[simp] theorem rgV_int (n : Int) : rgV (.int n) h = if -1000000 < n ∧ n < 1000000 then .ok (rangePV n) h else .bad := rfl
@[simp] theorem evI_range (a : C) : evI T Γ (.range a) ρ h = ((evE T Γ a ρ h).bind fz).bind rgV := by simp only [evI]; rfl
def rg2V (x y : PV) (h : Store) : Res (List PV) := match x, y with
  | .int m, .int n => if -1000000 < m ∧ m < 1000000 ∧ n < 1000000 ∧ -1000000 < n then .ok ((List.range (n - m).toNat).map fun (i : Nat) => PV.int (m + i)) h else .bad
  | _, _ => .bad
@[simp] theorem rg2V_int (m n : Int) : rg2V (.int m) (.int n) h = if -1000000 < m ∧ m < 1000000 ∧ n < 1000000 ∧ -1000000 < n then .ok ((List.range (n - m).toNat).map fun (i : Nat) => PV.int (m + i)) h else .bad := rfl
@[simp] theorem evI_range2 (a b : C) : evI T Γ (.range2 a b) ρ h = ((evE T Γ a ρ h).bind fz).bind fun x h1 => ((evE T Γ b ρ h1).bind fz).bind fun y h2 => rg2V x y h2 := by simp only [evI]; rfl
def zpV (x y : PV) (h : Store) : Res (List PV) := match seqOf x, seqOf y with
  | some xs, some ys => .ok (zipPV xs ys) h
  | _, _ => .bad
@[simp] theorem zpV_ll (x y : List PV) : zpV (.lst x) (.lst y) h = .ok (zipPV x y) h := rfl
@[simp] theorem zpV_lt (x y : List PV) : zpV (.lst x) (.tup y) h = .ok (zipPV x y) h := rfl
@[simp] theorem zpV_tl (x y : List PV) : zpV (.tup x) (.lst y) h = .ok (zipPV x y) h := rfl
@[simp] theorem zpV_tt (x y : List PV) : zpV (.tup x) (.tup y) h = .ok (zipPV x y) h := rfl
@[simp] theorem evI_zip (a b : C) : evI T Γ (.zip a b) ρ h = ((evE T Γ a ρ h).bind fz).bind fun x h1 => ((evE T Γ b ρ h1).bind fz).bind fun y h2 => zpV x y h2 := by simp only [evI]; rfl
def enV (x : PV) (h : Store) : Res (List PV) := match seqOf x with
  | some xs => .ok (enumPV 0 xs) h
  | none => .bad
@[simp] theorem enV_l (x : List PV) : enV (.lst x) h = .ok (enumPV 0 x) h := rfl
@[simp] theorem enV_t (x : List PV) : enV (.tup x) h = .ok (enumPV 0 x) h := rfl
@[simp] theorem evI_enum (a : C) : evI T Γ (.enum a) ρ h = ((evE T Γ a ρ h).bind fz).bind enV := by simp only [evI]; rfl
@[simp] theorem evI_items (a : C) : evI T Γ (.items a) ρ h = ((evE T Γ a ρ h).bind fz).bind fun x h1 => Res.of (pairsOf x) h1 := by simp only [evI]
@[simp] theorem evI_values (a : C) : evI T Γ (.values a) ρ h = ((evE T Γ a ρ h).bind fz).bind fun x h1 => Res.of (valuesOf x) h1 := by simp only [evI]
/-! statements -/
@[simp] theorem evS_pass : evS T Γ .pass ρ h = .nx ρ h := by simp only [evS]
@[simp] theorem evS_seq (a b : S) : evS T Γ (.seq a b) ρ h = (evS T Γ a ρ h).seq (evS T Γ b) := by simp only [evS]
@[simp] theorem evS_set (i : Nat) (e : C) : evS T Γ (.set i e) ρ h = (evE T Γ e ρ h).thn ρ fun v h1 => .nx (ρ.set i (some v)) h1 := by simp only [evS]
def nxO (o : Option Env) (h : Store) : RS := match o with
  | some ρ => .nx ρ h
  | none => .bad
@[simp] theorem nxO_some : nxO (some ρ) h = .nx ρ h := rfl
@[simp] theorem evS_par (is : List Nat) (es : CL) : evS T Γ (.par is es) ρ h = (evVs T Γ es ρ h).thn ρ fun vs h1 => nxO (setAll is vs ρ) h1 := by simp only [evS]; rfl
@[simp] theorem evS_unpack (t : Tg) (e : C) : evS T Γ (.unpack t e) ρ h = ((evE T Γ e ρ h).bind fz).thn ρ fun v h1 => nxO (setTg t v ρ) h1 := by simp only [evS]; rfl
def fsetV (f : Nat) (ρ : Env) (v x : Val) (h2 : Store) : RS := match x with
    | .loc l => (match h2[l]? with
      | some (.obj c fs) => (match T.at c f with
        | some (.slot i) => .nx ρ (h2.set l (.obj c (putSl fs i v)))
        | _ => .bad)
      | _ => .bad)
    | _ => .bad
@[simp] theorem evS_fset (o e : C) (f : Nat) : evS T Γ (.fset o f e) ρ h = (evE T Γ e ρ h).thn ρ fun v h1 => (evE T Γ o ρ h1).thn ρ fun x h2 => fsetV T f ρ v x h2 := by
  simp only [evS]; rfl
def isetV (ρ : Env) (v : PV) (x : Val) (y : PV) (h3 : Store) : RS := match x with
    | .loc l => (match h3[l]? with
      | some (.dct kvs) => if keyFits kvs y && decide (kvs.length < sizeMax) then .nx ρ (h3.set l (.dct (dPut kvs y v))) else .bad
      | some (.lst ps) => (match y with
        | .int i => (match L2.ixN ps.length i with
          | some j => .nx ρ (h3.set l (.lst (ps.set j v)))
          | none => .bad)
        | _ => .bad)
      | _ => .bad)
    | _ => .bad
@[simp] theorem evS_iset (o k e : C) : evS T Γ (.iset o k e) ρ h = ((evE T Γ e ρ h).bind fz).thn ρ fun v h1 => (evE T Γ o ρ h1).thn ρ fun x h2 => ((evE T Γ k ρ h2).bind fz).thn ρ fun y h3 => isetV ρ v x y h3 := by
  simp only [evS]; rfl
def appV (ρ : Env) (x : Val) (v : PV) (h2 : Store) : RS := match x with
    | .loc l => (match h2[l]? with
      | some (.lst ps) => if ps.length < sizeMax then .nx ρ (h2.set l (.lst (ps ++ [v]))) else .bad
      | _ => .bad)
    | _ => .bad
@[simp] theorem evS_append (o e : C) : evS T Γ (.append o e) ρ h = (evE T Γ o ρ h).thn ρ fun x h1 => if isLst h1 x then ((evE T Γ e ρ h1).bind fz).thn ρ fun v h2 => appV ρ x v h2 else .bad := by
  simp only [evS]; rfl
@[simp] theorem evS_expr (e : C) : evS T Γ (.expr e) ρ h = (evE T Γ e ρ h).thn ρ fun _ h1 => .nx ρ h1 := by simp only [evS]
@[simp] theorem evS_ite (t : C) (a b : S) : evS T Γ (.ite t a b) ρ h = ((evE T Γ t ρ h).bind asB).thn ρ fun v h1 => if v = true then evS T Γ a ρ h1 else evS T Γ b ρ h1 := by
  simp only [evS]; congr; funext v h1; cases v <;> rfl
@[simp] theorem evS_for (it : I) (t : Tg) (b : S) : evS T Γ (.for_ it t b) ρ h = (evI T Γ it ρ h).thn ρ fun xs h1 => forGo (evS T Γ b) t xs ρ h1 := by simp only [evS]
@[simp] theorem evS_while (t : C) (b : S) : evS T Γ (.while_ t b) ρ h = whileGo (evB T Γ t) (evS T Γ b) Γ.fuel ρ h := by simp only [evS]
@[simp] theorem evS_ret (e : C) : evS T Γ (.ret e) ρ h = ((evE T Γ e ρ h).bind fz).thn ρ fun v h1 => .rt (.p v) h1 := by simp only [evS]
@[simp] theorem evS_retV (e : C) : evS T Γ (.retV e) ρ h = (evE T Γ e ρ h).thn ρ fun v h1 => .rt v h1 := by simp only [evS]
@[simp] theorem finV_rt (v : PV) (h1 : Store) : finV (.rt (.p v) h1) h = .ok (.p v) h := rfl
@[simp] theorem finV_nx (ρ : Env) (h1 : Store) : finV (.nx ρ h1) h = .ok (.p .non) h := rfl
end
/-! ### compares, operations -/
@[simp] theorem eqv_int (i j : Int) : PV.eqv (.int i) (.int j) = decide (i = j) := by
  simp only [PV.eqv]
  by_cases e : i = j <;> simp [e]
@[simp] theorem cmp2_eq_int (i j : Int) : cmp2 .eq (.int i) (.int j) = some (decide (i = j)) := by simp [cmp2, eqPV, eqOk, PV.plain, PV.depth]
@[simp] theorem cmp2_ne_int (i j : Int) : cmp2 .ne (.int i) (.int j) = some (!decide (i = j)) := by simp [cmp2, eqPV, eqOk, PV.plain, PV.depth]
@[simp] theorem cmp2_lt_int (i j : Int) : cmp2 .lt (.int i) (.int j) = some (decide (i < j)) := rfl
@[simp] theorem cmp2_le_int (i j : Int) : cmp2 .le (.int i) (.int j) = some (decide (i ≤ j)) := rfl
@[simp] theorem cmp2_gt_int (i j : Int) : cmp2 .gt (.int i) (.int j) = some (decide (j < i)) := rfl
@[simp] theorem cmp2_ge_int (i j : Int) : cmp2 .ge (.int i) (.int j) = some (decide (j ≤ i)) := rfl
@[simp] theorem cmp2_is_non (a : PV) : cmp2 .is_ a .non = some (isNon a) := by cases a <;> rfl
@[simp] theorem cmp2_isnot_non (a : PV) : cmp2 .isnot a .non = some (!isNon a) := by cases a <;> rfl
@[simp] theorem op2_add_int (i j : Int) : op2 .add (.int i) (.int j) = some (.int (i + j)) := rfl
@[simp] theorem op2_sub_int (i j : Int) : op2 .sub (.int i) (.int j) = some (.int (i - j)) := rfl
theorem op2_mod_int {i j : Int} (h : 0 < j) : op2 .mod (.int i) (.int j) = some (.int (i % j)) := by simp [op2, h]
def Big (i : Int) : Prop := i.natAbs < 2 ^ 8192
theorem Big.b {i : Int} (h : Big i) : bigInt i = true := decide_eq_true h
theorem op2_mul_big {i j : Int} (hi : Big i) (hj : Big j) : op2 .mul (.int i) (.int j) = some (.int (i * j)) := by simp [op2, hi.b, hj.b]
theorem op2_mul_sl {i j : Int} (hi : smallInt i = true) : op2 .mul (.int i) (.int j) = some (.int (i * j)) := by simp [op2, hi]
theorem op2_mul_sr {i j : Int} (hj : smallInt j = true) : op2 .mul (.int i) (.int j) = some (.int (i * j)) := by simp [op2, hj]
theorem op2_fdiv_big {i j : Int} (h : 0 < j) (hj : Big j) : op2 .fdiv (.int i) (.int j) = some (.int (i / j)) := by simp [op2, h, hj.b]
@[simp] theorem wipeE_nil (ρ : Env) : wipeE ρ [] = ρ := rfl
@[simp] theorem wipeE_cons (ρ : Env) (v : Nat) (vs : List Nat) : wipeE ρ (v :: vs) = (wipeE ρ vs).set v none := rfl
theorem bools_map {α : Type} (f : α → Bool) : ∀ l : List α, bools (l.map fun x => .bl (f x)) = some (l.map f)
  | [] => rfl
  | x :: r => by simp [bools, bools_map f r]
theorem bi_all {α : Type} (f : α → Bool) (l : List α) : bi1 .all (.lst (l.map fun x => .bl (f x))) = some (.bl (l.all f)) := by
  simp [bi1, bools_map, List.all_map]
theorem bi_any {α : Type} (f : α → Bool) (l : List α) : bi1 .any (.lst (l.map fun x => .bl (f x))) = some (.bl (l.any f)) := by
  simp [bi1, bools_map, List.any_map]
theorem nums_map : ∀ l : List Int, nums (l.map .int) = some l
  | [] => rfl
  | x :: r => by simp [nums, nums_map r]
@[simp] theorem bi_sum_t (l : List Int) : bi1 .sum (.tup (l.map .int)) = some (.int l.sum) := by simp [bi1, nums_map]
@[simp] theorem bi_sum_l (l : List Int) : bi1 .sum (.lst (l.map .int)) = some (.int l.sum) := by simp [bi1, nums_map]
@[simp] theorem bi_int (i : Int) : bi1 .int (.int i) = some (.int i) := rfl
@[simp] theorem bi_tuple_l (l : List PV) : bi1 .tuple (.lst l) = some (.tup l) := rfl
@[simp] theorem bi_tuple_t (l : List PV) : bi1 .tuple (.tup l) = some (.tup l) := rfl
@[simp] theorem bi_list_t (l : List PV) : bi1 .list (.tup l) = some (.lst l) := rfl
@[simp] theorem bi_list_l (l : List PV) : bi1 .list (.lst l) = some (.lst l) := rfl
theorem bi_range {n : Nat} (h : n < 1000000) : bi1 .rangeL1 (.int n) = some (.lst ((List.range n).map fun (i : Nat) => PV.int i)) := by
  have h1 : (-1000000 : Int) < n ∧ (n : Int) < 1000000 := by omega
  simp only [bi1, if_pos h1]
  simp [rangePV]
theorem rg_nat {n : Nat} {h : Store} (hn : n < 1000000) : rgV (.int n) h = .ok ((List.range n).map fun (i : Nat) => PV.int i) h := by
  have h1 : (-1000000 : Int) < n ∧ (n : Int) < 1000000 := by omega
  simp only [rgV_int, if_pos h1]
  simp [rangePV]
@[simp] theorem itemsOf_t (l : List PV) : itemsOf (.tup l) = some l := rfl
@[simp] theorem itemsOf_l (l : List PV) : itemsOf (.lst l) = some l := rfl
@[simp] theorem itemsOf_d (l : List (PV × PV)) : itemsOf (.dct l) = some (l.map (·.1)) := rfl
@[simp] theorem pairsOf_d (l : List (PV × PV)) : pairsOf (.dct l) = some (l.map fun p => .tup [p.1, p.2]) := rfl
@[simp] theorem valuesOf_d (l : List (PV × PV)) : valuesOf (.dct l) = some (l.map (·.2)) := rfl
theorem atI_nat {α : Type} {l : List α} {i : Nat} {x : α} (h : l[i]? = some x) : L2.atI l (i : Int) = some x := by
  have hi : i < l.length := by
    rcases Nat.lt_or_ge i l.length with z | z
    · exact z
    · rw [List.getElem?_eq_none z] at h; cases h
  simp only [L2.atI, L2.ixN]
  rw [List.getElem?_eq_getElem hi] at h
  simpa [hi] using h
theorem idx_t {l : List PV} {i : Nat} {x : PV} (h : l[i]? = some x) : idx2 (.tup l) (.int i) = some x := atI_nat h
theorem idx_l {l : List PV} {i : Nat} {x : PV} (h : l[i]? = some x) : idx2 (.lst l) (.int i) = some x := atI_nat h
/-! ### loops -/
section
variable {α : Type}
theorem forGo_inv {b : Env → Store → RS} {t : Tg} {val : α → PV} {xs : List α} (P : List α → Env → Store → Prop)
    (step : ∀ pre x post ρ h, xs = pre ++ x :: post → P pre ρ h → ∃ ρ1 ρ' h', setTg t (val x) ρ = some ρ1 ∧ b ρ1 h = .nx ρ' h' ∧ P (pre ++ [x]) ρ' h') :
    ∀ {ρ : Env} {h : Store}, P [] ρ h → ∃ ρ' h', forGo b t (xs.map val) ρ h = .nx ρ' h' ∧ P xs ρ' h' := by
  have go : ∀ (post pre : List α), xs = pre ++ post → ∀ (ρ : Env) (h : Store), P pre ρ h → ∃ ρ' h', forGo b t (post.map val) ρ h = .nx ρ' h' ∧ P xs ρ' h' := by
    intro post
    induction post with
    | nil => intro pre e ρ h p; rw [List.append_nil] at e; subst e; exact ⟨ρ, h, rfl, p⟩
    | cons x r ih =>
      intro pre e ρ h p
      obtain ⟨ρ1, ρ', h', e1, e2, p'⟩ := step pre x r ρ h e p
      obtain ⟨ρ2, h2, e3, p2⟩ := ih (pre ++ [x]) (by simp [e]) ρ' h' p'
      exact ⟨ρ2, h2, by simp only [List.map_cons, forGo, e1, e2, RS.turn_nx, e3], p2⟩
  intro ρ h p
  exact go xs [] rfl ρ h p
theorem lc_map {f : Env → Store → Res (Option PV)} {t : Tg} {ρ : Env} {val res : α → PV} {h : Store} : ∀ {xs : List α} {acc : List PV}, (∀ x ∈ xs, ∃ ρ1, setTg t (val x) ρ = some ρ1 ∧ f ρ1 h = .ok (some (res x)) h) →
    lcGo f t ρ (xs.map val) acc h = .ok (acc ++ xs.map res) h
  | [], acc, _ => by simp [lcGo]
  | x :: r, acc, hx => by
    obtain ⟨ρ1, e1, e2⟩ := hx x List.mem_cons_self
    simp only [List.map_cons, lcGo, e1, e2]
    rw [lc_map fun y hy => hx y (List.mem_cons_of_mem _ hy)]
    simp
theorem lc_filter {f : Env → Store → Res (Option PV)} {t : Tg} {ρ : Env} {val : α → PV} {p : α → Bool} {res : α → PV} {h : Store} : ∀ {xs : List α} {acc : List PV}, (∀ x ∈ xs, ∃ ρ1, setTg t (val x) ρ = some ρ1 ∧ f ρ1 h = .ok (if p x then some (res x) else none) h) →
    lcGo f t ρ (xs.map val) acc h = .ok (acc ++ (xs.filter p).map res) h
  | [], acc, _ => by simp [lcGo]
  | x :: r, acc, hx => by
    obtain ⟨ρ1, e1, e2⟩ := hx x List.mem_cons_self
    have ih := fun acc => lc_filter (p := p) (res := res) (acc := acc) fun y hy => hx y (List.mem_cons_of_mem _ hy)
    cases hp : p x with
    | true =>
      rw [hp] at e2
      simp only [List.map_cons, lcGo, e1, e2, if_true, List.filter_cons, hp]
      rw [ih]
      simp
    | false =>
      rw [hp] at e2
      simp only [List.map_cons, lcGo, e1, e2, List.filter_cons, hp]
      simp [ih]
end
end Sw

end

section
/-! Fractions: what the module numbers computes. -/
namespace Sw
open PySem (Str)
def frac (q : Rat) : PV := .tup [.int q.num, .int q.den]
def nb0 : S := (.seq (.par [2, 3] (.cons (.bi .abs (.var 0)) (.cons (.bi .abs (.var 1)) .nil)))
  (.seq (.while_ (.cmp .ne (.var 3) (.pv (.int 0)))
  (.seq (.par [2, 3] (.cons (.var 3) (.cons (.op .mod (.var 2) (.var 3)) .nil)))
  .pass))
  (.seq (.set 4 (.ite (.cmp .lt (.var 1) (.pv (.int 0))) (.neg (.pv (.int 1))) (.pv (.int 1))))
  (.seq (.retV (.tup (.cons (.op .fdiv (.op .mul (.var 4) (.var 0)) (.var 2)) (.cons (.op .fdiv (.op .mul (.var 4) (.var 1)) (.var 2)) .nil))))
  .pass))))
def nb1 : S := (.seq (.retV (.call 0 (.cons (.op .add (.op .mul (.idx (.var 0) (.pv (.int 0))) (.idx (.var 1) (.pv (.int 1)))) (.op .mul (.idx (.var 1) (.pv (.int 0))) (.idx (.var 0) (.pv (.int 1))))) (.cons (.op .mul (.idx (.var 0) (.pv (.int 1))) (.idx (.var 1) (.pv (.int 1)))) .nil))))
  .pass)
def nb2 : S := (.seq (.retV (.call 0 (.cons (.op .sub (.op .mul (.idx (.var 0) (.pv (.int 0))) (.idx (.var 1) (.pv (.int 1)))) (.op .mul (.idx (.var 1) (.pv (.int 0))) (.idx (.var 0) (.pv (.int 1))))) (.cons (.op .mul (.idx (.var 0) (.pv (.int 1))) (.idx (.var 1) (.pv (.int 1)))) .nil))))
  .pass)
def nb3 : S := (.seq (.retV (.call 0 (.cons (.op .mul (.idx (.var 0) (.pv (.int 0))) (.idx (.var 1) (.pv (.int 0)))) (.cons (.op .mul (.idx (.var 0) (.pv (.int 1))) (.idx (.var 1) (.pv (.int 1)))) .nil))))
  .pass)
def nb4 : S := (.seq (.retV (.call 0 (.cons (.op .mul (.idx (.var 0) (.pv (.int 0))) (.idx (.var 1) (.pv (.int 1)))) (.cons (.op .mul (.idx (.var 0) (.pv (.int 1))) (.idx (.var 1) (.pv (.int 0)))) .nil))))
  .pass)
def nb5 : S := (.seq (.retV (.cmp .lt (.op .mul (.idx (.var 0) (.pv (.int 0))) (.idx (.var 1) (.pv (.int 1)))) (.op .mul (.idx (.var 1) (.pv (.int 0))) (.idx (.var 0) (.pv (.int 1))))))
  .pass)
def nb6 : S := (.seq (.set 1 (.pv (.tup [(.int 0), (.int 1)])))
  (.seq (.for_ (.val (.var 0)) (.name 2)
  (.seq (.set 1 (.call 1 (.cons (.var 1) (.cons (.var 2) .nil))))
  .pass))
  (.seq (.retV (.var 1))
  .pass)))
structure Nums (T : Tab) : Prop where
  f0 : T.fns[0]? = some ⟨2, 5, nb0⟩
  f1 : T.fns[1]? = some ⟨2, 2, nb1⟩
  f2 : T.fns[2]? = some ⟨2, 2, nb2⟩
  f3 : T.fns[3]? = some ⟨2, 2, nb3⟩
  f4 : T.fns[4]? = some ⟨2, 2, nb4⟩
  f5 : T.fns[5]? = some ⟨2, 2, nb5⟩
  f6 : T.fns[6]? = some ⟨1, 3, nb6⟩
/-! ### Euclid -/
theorem mod_half {r y : Nat} (hr : 0 < r) (h1 : r < y) : 2 * (y % r) < y := by
  rcases Nat.lt_or_ge y (2 * r) with c | c
  · have : y % r = y - r := by
      rw [Nat.mod_eq_sub_mod (Nat.le_of_lt h1), Nat.mod_eq_of_lt (by omega)]
    omega
  · have := Nat.mod_lt y hr
    omega
theorem gcd_loop {t : Env → Store → Res Bool} {b : Env → Store → RS} {h : Store} (E : Nat → Nat → Env) (ht : ∀ x y, t (E x y) h = .ok (decide (y ≠ 0)) h) (hb : ∀ x y, 0 < y → b (E x y) h = .nx (E y (x % y)) h) :
    ∀ (L fuel x y : Nat), 2 * L + 1 ≤ fuel → y < 2 ^ L → whileGo t b fuel (E x y) h = .nx (E (Nat.gcd x y) 0) h := by
  have stop : ∀ fuel x, 1 ≤ fuel → whileGo t b fuel (E x 0) h = .nx (E x 0) h := fun fuel x hf => by
    obtain ⟨m, rfl⟩ : ∃ m, fuel = m + 1 := ⟨fuel - 1, by omega⟩
    simp [whileGo, ht]
  have go : ∀ fuel x y, 0 < y → whileGo t b (fuel + 1) (E x y) h = whileGo t b fuel (E y (x % y)) h := fun fuel x y hy => by
    have : y ≠ 0 := by omega
    simp [whileGo, ht, hb x y hy, this]
  intro L
  induction L with
  | zero =>
    intro fuel x y hf hy
    obtain rfl : y = 0 := by simpa using hy
    rw [stop fuel x (by omega), Nat.gcd_zero_right]
  | succ L ih =>
    intro fuel x y hf hy
    rcases Nat.eq_zero_or_pos y with rfl | hy0
    · rw [stop fuel x (by omega), Nat.gcd_zero_right]
    · obtain ⟨m, rfl⟩ : ∃ m, fuel = m + 2 := ⟨fuel - 2, by omega⟩
      rw [go (m + 1) x y hy0]
      have eg : Nat.gcd x y = Nat.gcd y (x % y) := by rw [Nat.gcd_comm, Nat.gcd_rec, Nat.gcd_comm]
      rcases Nat.eq_zero_or_pos (x % y) with hr | hr
      · rw [hr, stop (m + 1) y (by omega), eg, hr, Nat.gcd_zero_right]
      · rw [go m y (x % y) hr, eg]
        have e2 : Nat.gcd y (x % y) = Nat.gcd (x % y) (y % (x % y)) := by
          generalize x % y = r
          rw [Nat.gcd_comm y r, Nat.gcd_rec r y, Nat.gcd_comm]
        rw [e2]
        refine ih m _ _ (by omega) ?_
        have := mod_half hr (Nat.mod_lt x hy0)
        have e3 : 2 ^ (L + 1) = 2 * 2 ^ L := by rw [Nat.pow_succ, Nat.mul_comm]
        omega
theorem absI (i : Int) : (if i < 0 then -i else i) = (i.natAbs : Int) := by omega
theorem divInt_frac {a b : Int} (hb : b ≠ 0) : PV.tup [.int (b.sign * a / (Int.gcd b a : Int)), .int (b.sign * b / (Int.gcd b a : Int))] = frac (Rat.divInt a b) := by
  unfold frac
  rw [Rat.num_divInt, Rat.den_divInt, if_neg hb, Int.sign_mul_self]
  rfl
section
variable {T : Tab} {n fuel : Nat} {h : Store}
theorem lowest_ok (N : Nums T) (hf : 16400 ≤ fuel) {a b : Int} (hb : b ≠ 0) (hB : Big b) : callV (calls T fuel (n + 1)) 0 [.int a, .int b] h = .ok (.p (frac (Rat.divInt a b))) h := by
  rw [callV_at N.f0 rfl]
  have fu : (calls T fuel n).fuel = fuel := by cases n <;> rfl
  let E : Nat → Nat → Env := fun x y => [some (.p (.int a)), some (.p (.int b)), some (.p (.int x)), some (.p (.int y)), none]
  have lp := gcd_loop (h := []) (t := evB T (calls T fuel n) (.cmp .ne (.var 3) (.pv (.int 0)))) (b := evS T (calls T fuel n) (.seq (.par [2, 3] (.cons (.var 3) (.cons (.op .mod (.var 2) (.var 3)) .nil))) .pass)) E
    (fun x y => by simp [E, evB]) (fun x y hy => by
      have : (0 : Int) < y := by omega
      simp [E, op2_mod_int this, setAll]) 8192 fuel a.natAbs b.natAbs (by omega) hB
  have hg : 0 < Nat.gcd a.natAbs b.natAbs := Nat.gcd_pos_of_pos_right _ (by omega)
  have hgb : Big (Nat.gcd a.natAbs b.natAbs : Int) := by
    have : Nat.gcd a.natAbs b.natAbs ≤ b.natAbs := Nat.gcd_le_right _ (by omega)
    unfold Big at *
    omega
  have es : (if b < 0 then (-1 : Int) else 1) = b.sign := by
    rcases Int.lt_or_gt_of_ne hb with c | c
    · rw [if_pos c, Int.sign_eq_neg_one_of_neg c]
    · rw [if_neg (by omega), Int.sign_eq_one_of_pos c]
  have hs : smallInt b.sign = true := by
    rcases Int.lt_or_gt_of_ne hb with c | c
    · rw [Int.sign_eq_neg_one_of_neg c]; decide
    · rw [Int.sign_eq_one_of_pos c]; decide
  have eg : (Nat.gcd a.natAbs b.natAbs : Int) = (Int.gcd b a : Int) := by rw [Nat.gcd_comm]; rfl
  simp only [nb0, startE, evS_seq, evS_par, evVs_cons, evE_bi, evE_var, List.map_cons, List.map_nil]
  simp [bi1, absI, setAll, fu]
  have lp2 := lp
  simp only [E] at lp2
  rw [lp2]
  have hg2 : (0 : Int) < Int.gcd b a := by
    have : (Int.gcd b a : Int) = _ := eg.symm
    omega
  have hb2 : Big (Int.gcd b a : Int) := by rw [← eg]; exact hgb
  have ei : (if b < 0 then Res.ok (Val.p (PV.int (-1))) ([] : Store) else Res.ok (Val.p (PV.int 1)) []) = .ok (.p (.int b.sign)) [] := by rw [← es]; split <;> rfl
  simp only [RS.seq_nx, evS_set, evE_ite, evE_cmp, evE_var, evE_pv, eg, evS_seq]
  simp [ei, op2_mul_sl hs, op2_fdiv_big hg2 hb2, sizeMax]
  have := divInt_frac (a := a) hb
  rwa [Int.sign_mul_self] at this
/-! ### sizes -/
/-- at most so many bits -/
structure Sm (k : Nat) (q : Rat) : Prop where
  num : q.num.natAbs < 2 ^ k
  den : q.den < 2 ^ k
theorem pow_le {a b : Nat} (h : a ≤ b) : (2 : Nat) ^ a ≤ 2 ^ b := Nat.pow_le_pow_right (by decide) h
theorem Sm.mono {a b : Nat} {q : Rat} (h : Sm a q) (hab : a ≤ b) : Sm b q := ⟨Nat.lt_of_lt_of_le h.num (pow_le hab), Nat.lt_of_lt_of_le h.den (pow_le hab)⟩
theorem Sm.divInt {a b : Int} {k : Nat} (ha : a.natAbs < 2 ^ k) (hb : b ≠ 0) (hb2 : b.natAbs < 2 ^ k) : Sm k (Rat.divInt a b) := by
  constructor
  · rw [Rat.num_divInt]
    refine Nat.lt_of_le_of_lt ?_ ha
    rw [Int.natAbs_ediv_of_dvd]
    · refine Nat.le_trans (Nat.div_le_self _ _) ?_
      rw [Int.natAbs_mul]
      rcases Int.lt_or_gt_of_ne hb with c | c
      · rw [Int.sign_eq_neg_one_of_neg c]; simp
      · rw [Int.sign_eq_one_of_pos c]; simp
    · exact Int.dvd_mul_of_dvd_right (Int.gcd_dvd_right b a)
  · rw [Rat.den_divInt, if_neg hb]
    exact Nat.lt_of_le_of_lt (Nat.div_le_self _ _) hb2
theorem mul_lt_pow {x y a b : Nat} (hx : x < 2 ^ a) (hy : y < 2 ^ b) : x * y < 2 ^ (a + b) := by
  rw [Nat.pow_add]
  exact Nat.mul_lt_mul'' hx hy
theorem add_raw {p q : Rat} : p + q = Rat.divInt (p.num * q.den + q.num * p.den) (p.den * q.den : Nat) := by
  rw [Rat.add_def, Rat.normalize_eq_mkRat, Rat.divInt_ofNat]
theorem mul_raw {p q : Rat} : p * q = Rat.divInt (p.num * q.num) (p.den * q.den : Nat) := by
  rw [Rat.mul_def, Rat.normalize_eq_mkRat, Rat.divInt_ofNat]
theorem sub_raw {p q : Rat} : p - q = Rat.divInt (p.num * q.den - q.num * p.den) (p.den * q.den : Nat) := by
  rw [Rat.sub_def, Rat.normalize_eq_mkRat, Rat.divInt_ofNat]
theorem den_ne (p q : Rat) : ((p.den * q.den : Nat) : Int) ≠ 0 := by
  have := Nat.mul_ne_zero p.den_nz q.den_nz
  omega
theorem addN {a b : Int} {k l : Nat} (ha : a.natAbs < 2 ^ k) (hb : b.natAbs < 2 ^ k) : (a + b).natAbs < 2 ^ (k + 1) := by
  have := Int.natAbs_add_le a b
  rw [Nat.pow_succ]
  omega
theorem Sm.crs {a b : Nat} {p q : Rat} (hp : Sm a p) (hq : Sm b q) : (p.num * (q.den : Int)).natAbs < 2 ^ (a + b) := by
  rw [Int.natAbs_mul, Int.natAbs_natCast]
  exact mul_lt_pow hp.num hq.den
theorem Sm.add {a b : Nat} {p q : Rat} (hp : Sm a p) (hq : Sm b q) : Sm (a + b + 1) (p + q) := by
  rw [add_raw]
  refine Sm.divInt (addN (l := 0) (hp.crs hq) (by rw [Nat.add_comm]; exact hq.crs hp)) (den_ne p q) ?_
  exact Nat.lt_of_lt_of_le (mul_lt_pow hp.den hq.den) (pow_le (by omega))
theorem Sm.sub {a b : Nat} {p q : Rat} (hp : Sm a p) (hq : Sm b q) : Sm (a + b + 1) (p - q) := by
  rw [sub_raw]
  refine Sm.divInt ?_ (den_ne p q) ?_
  · rw [Int.sub_eq_add_neg]
    refine addN (l := 0) (hp.crs hq) ?_
    rw [Int.natAbs_neg, Nat.add_comm]; exact hq.crs hp
  exact Nat.lt_of_lt_of_le (mul_lt_pow hp.den hq.den) (pow_le (by omega))
theorem Sm.mul {a b : Nat} {p q : Rat} (hp : Sm a p) (hq : Sm b q) : Sm (a + b) (p * q) := by
  rw [mul_raw]
  refine Sm.divInt ?_ (den_ne p q) (mul_lt_pow hp.den hq.den)
  rw [Int.natAbs_mul]
  exact mul_lt_pow hp.num hq.num
theorem Sm.int {k : Nat} {i : Int} (h : i.natAbs < 2 ^ k) (hk : 1 ≤ k) : Sm k (i : Rat) := ⟨h, by
  show 1 < 2 ^ k
  exact Nat.lt_of_lt_of_le (by decide : 1 < 2 ^ 1) (pow_le hk)⟩
theorem Sm.bn {k : Nat} {q : Rat} (h : Sm k q) (hk : k ≤ 8192 := by omega) : Big q.num := Nat.lt_of_lt_of_le h.num (pow_le hk)
theorem Sm.bd {k : Nat} {q : Rat} (h : Sm k q) (hk : k ≤ 8192 := by omega) : Big (q.den : Int) := by
  unfold Big
  rw [Int.natAbs_natCast]
  exact Nat.lt_of_lt_of_le h.den (pow_le hk)
theorem big_mul {a b k l : Nat} {i j : Int} (hi : i.natAbs < 2 ^ k) (hj : j.natAbs < 2 ^ l) (hk : k + l ≤ 8192) : Big (i * j) := by
  unfold Big
  rw [Int.natAbs_mul]
  exact Nat.lt_of_lt_of_le (mul_lt_pow hi hj) (pow_le hk)
/-! ### the functions -/
@[simp] theorem idx2_t0 (a b : PV) : idx2 (.tup [a, b]) (.int 0) = some a := rfl
@[simp] theorem idx2_f0 (q : Rat) : idx2 (frac q) (.int 0) = some (.int q.num) := rfl
@[simp] theorem idx2_f1 (q : Rat) : idx2 (frac q) (.int 1) = some (.int q.den) := rfl
@[simp] theorem idx2_t1 (a b : PV) : idx2 (.tup [a, b]) (.int 1) = some b := rfl
theorem dd_big {a b : Nat} {p q : Rat} (hp : Sm a p) (hq : Sm b q) (hk : a + b ≤ 8192) : Big (p.den * q.den : Int) := by
  have := Nat.lt_of_lt_of_le (mul_lt_pow hp.den hq.den) (pow_le hk)
  unfold Big
  rw [Int.natAbs_mul, Int.natAbs_natCast, Int.natAbs_natCast]
  exact this
theorem dd_ne (p q : Rat) : (p.den * q.den : Int) ≠ 0 := by
  have := den_ne p q
  rwa [Int.natCast_mul] at this
end
end Sw

end

section
/-! Fractions: the functions. -/
namespace Sw
open PySem (Str)
section
variable {T : Tab} {n fuel : Nat} {h : Store}
theorem plus_ok (N : Nums T) (hf : 16400 ≤ fuel) {p q : Rat} {a b : Nat} (hp : Sm a p) (hq : Sm b q) (hk : a + b ≤ 8192 := by omega) : callV (calls T fuel (n + 2)) 1 [frac p, frac q] h = .ok (.p (frac (p + q))) h := by
  rw [callV_at N.f1 rfl, add_raw, Int.natCast_mul]
  simp (implicitDefEqProofs := false) [nb1, startE, op2_mul_big hp.bn hq.bd, op2_mul_big hq.bn hp.bd, op2_mul_big hp.bd hq.bd, lowest_ok N hf (dd_ne p q) (dd_big hp hq hk)]
theorem minus_ok (N : Nums T) (hf : 16400 ≤ fuel) {p q : Rat} {a b : Nat} (hp : Sm a p) (hq : Sm b q) (hk : a + b ≤ 8192 := by omega) : callV (calls T fuel (n + 2)) 2 [frac p, frac q] h = .ok (.p (frac (p - q))) h := by
  rw [callV_at N.f2 rfl, sub_raw, Int.natCast_mul]
  simp (implicitDefEqProofs := false) [nb2, startE, op2_mul_big hp.bn hq.bd, op2_mul_big hq.bn hp.bd, op2_mul_big hp.bd hq.bd, lowest_ok N hf (dd_ne p q) (dd_big hp hq hk)]
theorem times_ok (N : Nums T) (hf : 16400 ≤ fuel) {p q : Rat} {a b : Nat} (hp : Sm a p) (hq : Sm b q) (hk : a + b ≤ 8192 := by omega) : callV (calls T fuel (n + 2)) 3 [frac p, frac q] h = .ok (.p (frac (p * q))) h := by
  rw [callV_at N.f3 rfl, mul_raw, Int.natCast_mul]
  simp (implicitDefEqProofs := false) [nb3, startE, op2_mul_big hp.bn hq.bn, op2_mul_big hp.bd hq.bd, lowest_ok N hf (dd_ne p q) (dd_big hp hq hk)]
theorem over_ok (N : Nums T) (hf : 16400 ≤ fuel) {p q : Rat} {a b : Nat} (hp : Sm a p) (hq : Sm b q) (hz : q ≠ 0) (hk : a + b ≤ 8192 := by omega) : callV (calls T fuel (n + 2)) 4 [frac p, frac q] h = .ok (.p (frac (p / q))) h := by
  have hn : q.num ≠ 0 := fun e => hz (Rat.num_eq_zero.mp e)
  have e : p / q = Rat.divInt (p.num * q.den) (p.den * q.num) := by
    rw [Rat.div_def, Rat.inv_def]
    have h1 : Rat.divInt p.num p.den * Rat.divInt q.den q.num = Rat.divInt (p.num * q.den) (p.den * q.num) := Rat.divInt_mul_divInt _ _
    rw [Rat.divInt_ofNat, Rat.mkRat_self] at h1
    exact h1
  have hd : (p.den : Int) * q.num ≠ 0 := Int.mul_ne_zero (by have := p.den_nz; omega) hn
  have hB : Big ((p.den : Int) * q.num) := by
    unfold Big
    rw [Int.natAbs_mul, Int.natAbs_natCast]
    exact Nat.lt_of_lt_of_le (mul_lt_pow hp.den hq.num) (pow_le hk)
  rw [callV_at N.f4 rfl, e]
  simp (implicitDefEqProofs := false) [nb4, startE, op2_mul_big hp.bn hq.bd, op2_mul_big hp.bd hq.bn, lowest_ok N hf hd hB]
theorem less_ok (N : Nums T) {p q : Rat} {a b : Nat} (hp : Sm a p) (hq : Sm b q) (hk : a + b ≤ 8192 := by omega) : callV (calls T fuel (n + 1)) 5 [frac p, frac q] h = .ok (.p (.bl (decide (p < q)))) h := by
  rw [callV_at N.f5 rfl]
  simp (implicitDefEqProofs := false) [nb5, startE, op2_mul_big hp.bn hq.bd, op2_mul_big hq.bn hp.bd, Rat.lt_iff]
theorem Sm.zero : Sm 1 0 := ⟨by decide, by decide⟩
theorem Sm.one : Sm 1 1 := ⟨by decide, by decide⟩
theorem Sm.sum {k : Nat} : ∀ {l : List Rat}, (∀ q ∈ l, Sm k q) → Sm (l.length * (k + 1) + 1) l.sum
  | [], _ => Sm.zero.mono (by simp)
  | q :: r, h => by
    rw [List.sum_cons]
    refine ((h q List.mem_cons_self).add (Sm.sum fun x hx => h x (List.mem_cons_of_mem _ hx))).mono ?_
    rw [List.length_cons, Nat.add_mul]
    omega
theorem total_ok (N : Nums T) (hf : 16400 ≤ fuel) {l : List Rat} {k : Nat} (hl : ∀ q ∈ l, Sm k q) (hk : l.length * (k + 1) + 1 + k ≤ 8192) : callV (calls T fuel (n + 3)) 6 [.lst (l.map frac)] h = .ok (.p (frac l.sum)) h := by
  rw [callV_at N.f6 rfl]
  have lp := forGo_inv (b := evS T (calls T fuel (n + 2)) (.seq (.set 1 (.call 1 (.cons (.var 1) (.cons (.var 2) .nil)))) .pass)) (t := .name 2) (val := frac) (xs := l)
    (fun pre ρ h => ∃ o, ρ = [some (.p (.lst (l.map frac))), some (.p (frac pre.sum)), o] ∧ h = []) (fun pre x post ρ h e ⟨o, hρ, hh⟩ => by
      subst hρ hh
      have h1 : Sm (pre.length * (k + 1) + 1) pre.sum := Sm.sum fun q hq => hl q (by rw [e]; exact List.mem_append_left _ hq)
      have h2 : Sm k x := hl x (by rw [e]; simp)
      have h3 : pre.length ≤ l.length := by rw [e]; simp
      have h4 : pre.length * (k + 1) ≤ l.length * (k + 1) := Nat.mul_le_mul_right _ h3
      refine ⟨_, [some (.p (.lst (l.map frac))), some (.p (frac (pre ++ [x]).sum)), some (.p (frac x))], [], rfl, ?_, ⟨_, rfl, rfl⟩⟩
      have e1 : (pre ++ [x]).sum = pre.sum + x := by rw [List.sum_append]; simp [Rat.add_zero]
      simp only [evS_seq, evS_set, evE_call, evL_cons, evE_var, e1]
      simp (implicitDefEqProofs := false) [plus_ok N hf h1 h2]) (ρ := [some (.p (.lst (l.map frac))), some (.p (frac 0)), none]) (h := []) ⟨_, rfl, rfl⟩
  obtain ⟨ρ', h', e1, o, e2, e3⟩ := lp
  subst e2 e3
  have ez : PV.tup [.int 0, .int 1] = frac 0 := rfl
  simp only [nb6, ez, startE, List.map_cons, List.map_nil]
  simp (implicitDefEqProofs := false) [itemsOf, e1]
end
end Sw

end

section
/-! Matters: what the module matters computes. -/
namespace Sw
open PySem (Str)
def mb7 : S := (.seq (.retV (.and (.isi .int (.var 0)) (.and (.not (.isi .bool (.var 0))) (.chain .le .le (.var 1) (.var 0) (.var 2)))))
  .pass)
def mb8 : S := (.seq (.retV (.and (.isi .tuple (.var 0)) (.bi .all (.lc (.val (.var 0)) (.name 3) [3] (.pv (.bl true)) (.call 7 (.cons (.var 3) (.cons (.var 1) (.cons (.var 2) .nil))))))))
  .pass)
def mb9 : S := (.seq (.ite (.or (.not (.isi .tuple (.var 0))) (.or (.cmp .ne (.len (.var 0)) (.var 1)) (.not (.bi .all (.lc (.val (.var 0)) (.name 4) [4] (.pv (.bl true)) (.call 8 (.cons (.var 4) (.cons (.var 2) (.cons (.var 3) .nil)))))))))
  (.seq (.retV (.pv (.bl false)))
  .pass)
  .pass)
  (.seq (.retV (.and (.chain .le .le (.pv (.int 2)) (.len (.idx (.var 0) (.pv (.int 0)))) (.pv (.int 4))) (.bi .all (.lc (.val (.var 0)) (.name 4) [4] (.pv (.bl true)) (.cmp .eq (.len (.var 4)) (.len (.idx (.var 0) (.pv (.int 0)))))))))
  .pass))
def mb10 : S := (.seq (.ite (.or (.not (.call 8 (.cons (.var 1) (.cons (.pv (.int 1)) (.cons (.pv (.int 6)) .nil))))) (.not (.chain .le .le (.pv (.int 2)) (.len (.var 1)) (.pv (.int 4)))))
  (.seq .never
  .pass)
  .pass)
  (.seq (.ite (.not (.call 9 (.cons (.var 2) (.cons (.len (.var 1)) (.cons (.neg (.pv (.int 9))) (.cons (.pv (.int 9)) .nil))))))
  (.seq .never
  .pass)
  .pass)
  (.seq (.ite (.or (.not (.call 9 (.cons (.var 3) (.cons (.len (.var 1)) (.cons (.pv (.int 0)) (.cons (.pv (.int 9)) .nil)))))) (.cmp .ne (.len (.idx (.var 3) (.pv (.int 0)))) (.len (.idx (.var 2) (.pv (.int 0))))))
  (.seq .never
  .pass)
  .pass)
  (.seq (.fset (.var 0) 3 (.var 1))
  (.seq (.fset (.var 0) 4 (.var 2))
  (.seq (.fset (.var 0) 5 (.var 3))
  (.seq (.fset (.var 0) 6 (.lc (.val (.var 1)) (.name 4) [4] (.pv (.bl true)) (.call 0 (.cons (.var 4) (.cons (.bi .sum (.var 1)) .nil)))))
  .pass)))))))
def mb11 : S := (.seq (.retV (.fld (.var 0) 3))
  .pass)
def mb12 : S := (.seq (.retV (.fld (.var 0) 4))
  .pass)
def mb13 : S := (.seq (.retV (.fld (.var 0) 5))
  .pass)
def mb14 : S := (.seq (.retV (.len (.fld (.var 0) 3)))
  .pass)
def mb15 : S := (.seq (.retV (.len (.idx (.fld (.var 0) 4) (.pv (.int 0)))))
  .pass)
def mb16 : S := (.seq (.ite (.not (.isi (.cls 0) (.var 0)))
  (.seq .never
  .pass)
  .pass)
  .pass)
def mb17 : S := (.seq (.retV (.bi .rangeL1 (.meth (.var 0) 7 .nil)))
  .pass)
def mb18 : S := (.seq (.ite (.or (.not (.isi .tuple (.var 0))) (.cmp .ne (.len (.var 0)) (.pv (.int 2))))
  (.seq (.retV (.pv (.bl false)))
  .pass)
  .pass)
  (.seq (.ite (.not (.bi .all (.lc (.val (.var 0)) (.name 1) [1] (.pv (.bl true)) (.and (.isi .int (.var 1)) (.not (.isi .bool (.var 1)))))))
  (.seq (.retV (.pv (.bl false)))
  .pass)
  .pass)
  (.seq (.retV (.and (.chain .le .le (.pv (.int 0)) (.idx (.var 0) (.pv (.int 0))) (.idx (.var 0) (.pv (.int 1)))) (.and (.cmp .ge (.idx (.var 0) (.pv (.int 1))) (.pv (.int 1))) (.cmp .eq (.call 0 (.cons (.idx (.var 0) (.pv (.int 0))) (.cons (.idx (.var 0) (.pv (.int 1))) .nil))) (.var 0)))))
  .pass)))
def mb19 : S := (.seq (.ite (.or (.not (.isi .tuple (.var 1))) (.cmp .ne (.len (.var 1)) (.len (.var 0))))
  (.seq (.retV (.pv (.bl false)))
  .pass)
  .pass)
  (.seq (.ite (.not (.bi .all (.lc (.val (.var 1)) (.name 2) [2] (.pv (.bl true)) (.and (.isi .tuple (.var 2)) (.chain .le .le (.pv (.int 1)) (.len (.var 2)) (.pv (.int 4)))))))
  (.seq (.retV (.pv (.bl false)))
  .pass)
  .pass)
  (.seq (.ite (.not (.bi .all (.lc (.val (.var 1)) (.name 2) [2] (.pv (.bl true)) (.and (.cmp .eq (.len (.var 2)) (.len (.idx (.var 1) (.pv (.int 0))))) (.bi .all (.lc (.val (.var 2)) (.name 3) [3] (.pv (.bl true)) (.call 18 (.cons (.var 3) .nil))))))))
  (.seq (.retV (.pv (.bl false)))
  .pass)
  .pass)
  (.seq (.retV (.bi .all (.lc (.val (.var 1)) (.name 2) [2] (.pv (.bl true)) (.cmp .eq (.call 6 (.cons (.bi .list (.var 2)) .nil)) (.pv (.tup [(.int 1), (.int 1)]))))))
  .pass))))
def mb20 : S := (.seq (.expr (.call 16 (.cons (.var 0) .nil)))
  (.seq (.ite (.not (.call 19 (.cons (.var 0) (.cons (.var 1) .nil))))
  (.seq .never
  .pass)
  .pass)
  .pass))
def mb21 : S := (.seq (.retV (.lc (.zip (.fld (.var 0) 6) (.var 1)) (.tup (.cons (.name 3) (.cons (.name 4) .nil))) [3, 4] (.pv (.bl true)) (.call 3 (.cons (.var 3) (.cons (.idx (.var 4) (.var 2)) .nil)))))
  .pass)
def mb22 : S := (.seq (.retV (.call 6 (.cons (.lc (.zip (.var 0) (.var 1)) (.tup (.cons (.name 3) (.cons (.name 4) .nil))) [3, 4] (.pv (.bl true)) (.call 3 (.cons (.var 3) (.cons (.tup (.cons (.idx (.var 4) (.var 2)) (.cons (.pv (.int 1)) .nil))) .nil)))) .nil)))
  .pass)
def mb23 : S := (.seq (.set 2 (.lc (.val (.call 17 (.cons (.var 0) .nil))) (.name 3) [3] (.pv (.bl true)) (.call 22 (.cons (.var 1) (.cons (.fld (.var 0) 4) (.cons (.var 3) .nil))))))
  (.seq (.set 4 (.idx (.var 2) (.pv (.int 0))))
  (.seq (.for_ (.val (.var 2)) (.name 5)
  (.seq (.set 4 (.ite (.call 5 (.cons (.var 4) (.cons (.var 5) .nil))) (.var 5) (.var 4)))
  .pass))
  (.seq (.retV (.lc (.enum (.var 2)) (.tup (.cons (.name 3) (.cons (.name 5) .nil))) [3, 5] (.cmp .eq (.var 5) (.var 4)) (.var 3)))
  .pass))))
def mb24 : S := (.seq (.set 2 (.pv .non))
  (.seq (.for_ (.val (.call 23 (.cons (.var 0) (.cons (.var 1) .nil)))) (.name 3)
  (.seq (.ite (.or (.cmp .is_ (.var 2) (.pv .non)) (.call 5 (.cons (.call 22 (.cons (.var 1) (.cons (.fld (.var 0) 5) (.cons (.var 2) .nil)))) (.cons (.call 22 (.cons (.var 1) (.cons (.fld (.var 0) 5) (.cons (.var 3) .nil)))) .nil))))
  (.seq (.set 2 (.var 3))
  .pass)
  .pass)
  .pass))
  (.seq (.retV (.var 2))
  .pass)))
structure Mats (T : Tab) : Prop extends Nums T where
  f7 : T.fns[7]? = some ⟨3, 3, mb7⟩
  f8 : T.fns[8]? = some ⟨3, 4, mb8⟩
  f9 : T.fns[9]? = some ⟨4, 5, mb9⟩
  f10 : T.fns[10]? = some ⟨4, 5, mb10⟩
  f11 : T.fns[11]? = some ⟨1, 1, mb11⟩
  f12 : T.fns[12]? = some ⟨1, 1, mb12⟩
  f13 : T.fns[13]? = some ⟨1, 1, mb13⟩
  f14 : T.fns[14]? = some ⟨1, 1, mb14⟩
  f15 : T.fns[15]? = some ⟨1, 1, mb15⟩
  f16 : T.fns[16]? = some ⟨1, 1, mb16⟩
  f17 : T.fns[17]? = some ⟨1, 1, mb17⟩
  f18 : T.fns[18]? = some ⟨1, 2, mb18⟩
  f19 : T.fns[19]? = some ⟨2, 4, mb19⟩
  f20 : T.fns[20]? = some ⟨2, 2, mb20⟩
  f21 : T.fns[21]? = some ⟨3, 5, mb21⟩
  f22 : T.fns[22]? = some ⟨3, 5, mb22⟩
  f23 : T.fns[23]? = some ⟨2, 6, mb23⟩
  f24 : T.fns[24]? = some ⟨2, 4, mb24⟩
  a0 : T.at 0 0 = some (.prop 11)
  a1 : T.at 0 1 = some (.prop 12)
  a2 : T.at 0 2 = some (.prop 13)
  a3 : T.at 0 3 = some (.slot 3)
  a4 : T.at 0 4 = some (.slot 2)
  a5 : T.at 0 5 = some (.slot 0)
  a6 : T.at 0 6 = some (.slot 1)
  a7 : T.at 0 7 = some (.meth 15)
  ln : T.lenOf 0 = some 14
  ini : T.initOf 0 = 10
  c0 : (T.cls[0]?).isNone = false
def pvI (l : List Int) : PV := .tup (l.map .int)
def pvM (r : List (List Int)) : PV := .tup (r.map pvI)
def pvR (r : List Rat) : PV := .tup (r.map frac)
def pvT (t : List (List Rat)) : PV := .tup (t.map pvR)
structure Mt where
  ps : List Int
  gs : List (List Int)
  ws : List (List Int)
def Mt.ch (m : Mt) : List Rat := m.ps.map fun p => Rat.divInt p m.ps.sum
def Mt.obj (m : Mt) : PV := .obj 0 [pvM m.ws, .lst (m.ch.map frac), pvM m.gs, pvI m.ps]
structure MtOk (m : Mt) (na : Nat) : Prop where
  pl : 2 ≤ m.ps.length
  pu : m.ps.length ≤ 4
  pb : ∀ p ∈ m.ps, 1 ≤ p ∧ p ≤ 6
  gl : m.gs.length = m.ps.length
  wl : m.ws.length = m.ps.length
  al : 2 ≤ na
  au : na ≤ 4
  gr : ∀ r ∈ m.gs, r.length = na ∧ ∀ x ∈ r, -9 ≤ x ∧ x ≤ 9
  wr : ∀ r ∈ m.ws, r.length = na ∧ ∀ x ∈ r, 0 ≤ x ∧ x ≤ 9
section
variable {T : Tab} {n fuel : Nat} {h : Store}
@[simp] theorem isDct_int (i : Int) : isDct (.int i) = false := rfl
@[simp] theorem isDct_tup (i : List PV) : isDct (.tup i) = false := rfl
@[simp] theorem isDct_obj (c : Nat) (i : List PV) : isDct (.obj c i) = false := rfl
@[simp] theorem noCls_int (i : Int) : noCls T (.int i) = false := rfl
@[simp] theorem noCls_tup (i : List PV) : noCls T (.tup i) = false := rfl
theorem isInt_ok (M : Mats T) {v lo hi : Int} : callV (calls T fuel (n + 1)) 7 [.int v, .int lo, .int hi] h = .ok (.p (.bl (decide (lo ≤ v ∧ v ≤ hi)))) h := by
  rw [callV_at M.f7 rfl]
  by_cases e : lo ≤ v <;> simp (implicitDefEqProofs := false) [mb7, startE, isiPV, e]
theorem areInts_ok (M : Mats T) {l : List Int} {lo hi : Int} (hl : l.length ≤ 1000) : callV (calls T fuel (n + 2)) 8 [pvI l, .int lo, .int hi] h = .ok (.p (.bl (l.all fun v => decide (lo ≤ v ∧ v ≤ hi)))) h := by
  have hs : l.length ≤ sizeMax := by unfold sizeMax; omega
  rw [callV_at M.f8 rfl]
  simp (implicitDefEqProofs := false) [mb8, startE, isiPV, pvI]
  rw [lc_map (val := PV.int) (res := fun v => .bl (decide (lo ≤ v ∧ v ≤ hi)))]
  · simp (implicitDefEqProofs := false) [bi_all, hs]
  · intro v hv
    exact ⟨_, rfl, by simp (implicitDefEqProofs := false) [lcP, isInt_ok M]⟩
/-! rows -/
theorem bi_all_true {α : Type} (l : List α) : bi1 .all (.lst (l.map fun _ => .bl true)) = some (.bl true) := by
  rw [bi_all (fun _ : α => true)]
  have : (l.all fun _ => true) = true := List.all_eq_true.mpr fun _ _ => rfl
  rw [this]
@[simp] theorem idx_h (a : PV) (r : List PV) : idx2 (.tup (a :: r)) (.int 0) = some a := idx_t (i := 0) rfl
@[simp] theorem idx_hl (a : PV) (r : List PV) : idx2 (.lst (a :: r)) (.int 0) = some a := idx_l (i := 0) rfl
theorem areRows_ok (M : Mats T) {rows : List (List Int)} {k na : Nat} {lo hi : Int} (hk : rows.length = k) (h1 : 1 ≤ k) (h2 : k ≤ 1000) (h3 : 2 ≤ na) (h4 : na ≤ 4) (hr : ∀ r ∈ rows, r.length = na ∧ ∀ x ∈ r, lo ≤ x ∧ x ≤ hi) :
    callV (calls T fuel (n + 3)) 9 [pvM rows, .int k, .int lo, .int hi] h = .ok (.p (.bl true)) h := by
  obtain ⟨r0, rest, rfl⟩ : ∃ r0 rest, rows = r0 :: rest := by
    cases rows with
    | nil => simp at hk; omega
    | cons a r => exact ⟨a, r, rfl⟩
  have hs : rest.length + 1 ≤ sizeMax := by simp at hk; unfold sizeMax; omega
  have l0 : r0.length = na := (hr r0 List.mem_cons_self).1
  have e1 : ((rest.length : Int) + 1 = k) := by simp at hk; omega
  have b1 : (2 : Int) ≤ na := by omega
  have b2 : (na : Int) ≤ 4 := by omega
  rw [callV_at M.f9 rfl]
  have g1 : ∀ v : List Int, v ∈ r0 :: rest → (v.all fun x => decide (lo ≤ x ∧ x ≤ hi)) = true := fun v hv => by
    simp only [List.all_eq_true, decide_eq_true_eq]
    exact (hr v hv).2
  have t1 : ∀ rest' : PV, True := fun _ => trivial
  have c1 : lcGo (lcP T (calls T fuel (n + 2)) (.pv (.bl true)) (.call 8 (.cons (.var 4) (.cons (.var 2) (.cons (.var 3) .nil))))) (.name 4) [some (.p (pvM (r0 :: rest))), some (.p (.int k)), some (.p (.int lo)), some (.p (.int hi)), none] ((r0 :: rest).map pvI) [] [] = .ok ((r0 :: rest).map fun _ => .bl true) [] := by
    have := lc_map (f := lcP T (calls T fuel (n + 2)) (.pv (.bl true)) (.call 8 (.cons (.var 4) (.cons (.var 2) (.cons (.var 3) .nil))))) (t := .name 4) (ρ := [some (.p (pvM (r0 :: rest))), some (.p (.int k)), some (.p (.int lo)), some (.p (.int hi)), none]) (val := pvI) (res := fun _ => .bl true) (h := []) (xs := r0 :: rest) (acc := []) fun v hv =>
      ⟨_, rfl, by simp (implicitDefEqProofs := false) [lcP, areInts_ok M (l := v) (by have := (hr v hv).1; omega)]; exact (hr v hv).2⟩
    simpa using this
  have c2 : lcGo (lcP T (calls T fuel (n + 2)) (.pv (.bl true)) (.cmp .eq (.len (.var 4)) (.len (.idx (.var 0) (.pv (.int 0)))))) (.name 4) [some (.p (pvM (r0 :: rest))), some (.p (.int k)), some (.p (.int lo)), some (.p (.int hi)), none] ((r0 :: rest).map pvI) [] [] = .ok ((r0 :: rest).map fun _ => .bl true) [] := by
    have := lc_map (f := lcP T (calls T fuel (n + 2)) (.pv (.bl true)) (.cmp .eq (.len (.var 4)) (.len (.idx (.var 0) (.pv (.int 0)))))) (t := .name 4) (ρ := [some (.p (pvM (r0 :: rest))), some (.p (.int k)), some (.p (.int lo)), some (.p (.int hi)), none]) (val := pvI) (res := fun _ => .bl true) (h := []) (xs := r0 :: rest) (acc := []) fun v hv =>
      ⟨_, rfl, by simp (implicitDefEqProofs := false) [lcP, pvM, pvI, (hr v hv).1, l0]⟩
    simpa using this
  have e0 : pvM (r0 :: rest) = .tup (pvI r0 :: rest.map pvI) := rfl
  simp only [e0, List.map_cons] at c1 c2
  have ba : bi1 .all (.lst (.bl true :: rest.map fun _ => .bl true)) = some (.bl true) := by
    exact bi_all_true (r0 :: rest)
  simp (implicitDefEqProofs := false) [mb9, startE, isiPV, e0, e1, c1, hs, ba]
  simp (implicitDefEqProofs := false) [pvI, l0, b1, b2] at c2 ⊢
  simp (implicitDefEqProofs := false) [c2, hs, ba]
/-! a matter is made -/
def finM (r : RS) (h : Store) : Res Val := match r with
  | .nx _ h1 => (match fz (.loc 0) h1 with
    | .ok p _ => .ok (.p p) h
    | .exc x _ => .exc x h
    | .bad => .bad)
  | .exc x _ _ => .exc x h
  | .rt v h1 => if isNonV v then (match fz (.loc 0) h1 with
    | .ok p _ => .ok (.p p) h
    | .exc x _ => .exc x h
    | .bad => .bad) else .bad
  | _ => .bad
theorem makeV_at {c i : Nat} {F : Fn} {ps : List PV} (hF : T.fns[i]? = some F) (hl : ps.length + 1 = F.params) : makeV (calls T fuel (n + 1)) c i ps h = finM (evS T (calls T fuel n) F.body (startE F (.loc 0 :: ps.map .p)) [.obj c []]) h := by
  unfold makeV Calls.init
  show (match Res.bind (match T.fns[i]? with | some F => runF T (calls T fuel n) F (.loc 0 :: ps.map .p) [.obj c []] | none => .bad) (fun v h => if isNonV v then fz (.loc 0) h else .bad) with
    | .ok v _ => Res.ok (Val.p v) h
    | .exc x _ => .exc x h
    | .bad => .bad) = _
  rw [hF]
  simp only [runF, List.length_cons, List.length_map, hl, if_true]
  generalize evS T (calls T fuel n) F.body (startE F (.loc 0 :: ps.map .p)) [.obj c []] = r
  cases r with
  | rt v h1 =>
    simp only [finM, Res.bind_ok]
    generalize isNonV v = b
    cases b <;> rfl
  | nx r1 h1 => simp [finM, isNonV]
  | _ => rfl
theorem make_ok (M : Mats T) (hf : 16400 ≤ fuel) {m : Mt} {na : Nat} (K : MtOk m na) : makeV (calls T fuel (n + 4)) 0 10 [pvI m.ps, pvM m.gs, pvM m.ws] h = .ok (.p m.obj) h := by
  have h1 : (m.ps.all fun v => decide ((1 : Int) ≤ v ∧ v ≤ 6)) = true := by
    simp only [List.all_eq_true, decide_eq_true_eq]
    exact K.pb
  have pl := K.pl
  have pu := K.pu
  have p1 : (2 : Int) ≤ m.ps.length := by omega
  have p2 : (m.ps.length : Int) ≤ 4 := by omega
  have hs : m.ps.length ≤ sizeMax := by unfold sizeMax; omega
  have sum_pos : 0 < m.ps.sum := by
    cases e : m.ps with
    | nil => rw [e] at pl; simp at pl
    | cons a r =>
      have q : ∀ l : List Int, (∀ x ∈ l, 1 ≤ x ∧ x ≤ 6) → 0 ≤ l.sum := fun l => by
        induction l with
        | nil => intro _; simp
        | cons b r ih => intro z; have := ih fun x hx => z x (List.mem_cons_of_mem _ hx); have := z b List.mem_cons_self; simp; omega
      have := q r fun x hx => K.pb x (by rw [e]; exact List.mem_cons_of_mem _ hx)
      have := K.pb a (by rw [e]; exact List.mem_cons_self)
      simp; omega
  have sum_le : ∀ l : List Int, (∀ x ∈ l, 1 ≤ x ∧ x ≤ 6) → l.sum ≤ 6 * l.length := fun l => by
    induction l with
    | nil => intro _; simp
    | cons b r ih => intro z; have := ih fun x hx => z x (List.mem_cons_of_mem _ hx); have := z b List.mem_cons_self; simp; omega
  have sl := sum_le m.ps K.pb
  have hB : Big m.ps.sum := by
    have : m.ps.sum.natAbs < 2 ^ 5 := by
      have : m.ps.sum.natAbs ≤ 24 := by omega
      omega
    exact Nat.lt_of_lt_of_le this (pow_le (by omega))
  have gl := K.gl
  have wl := K.wl
  have rg := areRows_ok M (fuel := fuel) (n := n) (h := [.obj 0 []]) (rows := m.gs) gl (by omega) (by omega) K.al K.au (lo := -9) (hi := 9) K.gr
  have rw_ := areRows_ok M (fuel := fuel) (n := n) (h := [.obj 0 []]) (rows := m.ws) wl (by omega) (by omega) K.al K.au (lo := 0) (hi := 9) K.wr
  obtain ⟨g0, gr, eg⟩ : ∃ g0 gr, m.gs = g0 :: gr := by
    cases e : m.gs with
    | nil => rw [e] at gl; simp at gl; omega
    | cons a r => exact ⟨a, r, rfl⟩
  obtain ⟨w0, wr, ew⟩ : ∃ w0 wr, m.ws = w0 :: wr := by
    cases e : m.ws with
    | nil => rw [e] at wl; simp at wl; omega
    | cons a r => exact ⟨a, r, rfl⟩
  have lg : g0.length = na := (K.gr g0 (by rw [eg]; exact List.mem_cons_self)).1
  have lw : w0.length = na := (K.wr w0 (by rw [ew]; exact List.mem_cons_self)).1
  rw [makeV_at M.f10 rfl]
  have c1 : ∀ h0 : Store, lcGo (lcP T (calls T fuel (n + 3)) (.pv (.bl true)) (.call 0 (.cons (.var 4) (.cons (.bi .sum (.var 1)) .nil)))) (.name 4) [some (.loc 0), some (.p (pvI m.ps)), some (.p (pvM m.gs)), some (.p (pvM m.ws)), none] (m.ps.map PV.int) [] h0 = .ok (m.ch.map frac) h0 := fun h0 => by
    have := lc_map (f := lcP T (calls T fuel (n + 3)) (.pv (.bl true)) (.call 0 (.cons (.var 4) (.cons (.bi .sum (.var 1)) .nil)))) (t := .name 4) (ρ := [some (.loc 0), some (.p (pvI m.ps)), some (.p (pvM m.gs)), some (.p (pvM m.ws)), none]) (val := PV.int) (res := fun p => frac (Rat.divInt p m.ps.sum)) (h := h0) (xs := m.ps) (acc := []) fun v hv =>
      ⟨_, rfl, by simp (implicitDefEqProofs := false) [lcP, pvI, lowest_ok M.toNums hf (show m.ps.sum ≠ 0 by omega) hB]⟩
    rw [this]
    simp [Mt.ch]
  have e1 := areInts_ok M (fuel := fuel) (n := n + 1) (h := [.obj 0 []]) (l := m.ps) (lo := 1) (hi := 6) (by omega)
  rw [h1] at e1
  have i1 : ∀ a r, idx2 (pvM (a :: r)) (.int 0) = some (pvI a) := fun a r => idx_h _ _
  have ll : ∀ (l : List Int) (h0 : Store), lenV T (calls T fuel (n + 3)) (.p (pvI l)) h0 = .ok (.p (.int l.length)) h0 := fun l h0 => by simp [pvI]
  rw [eg] at rg
  rw [ew] at rw_
  rw [eg, ew] at c1
  simp (implicitDefEqProofs := false) [mb10, startE, e1, ll, p1, p2, eg, ew, rg, rw_, i1, lg, lw, fsetV, M.a3, M.a4, M.a5, M.a6, putSl]
  have e2 : ∀ h0 : Store, (Res.of (itemsOf (pvI m.ps)) h0) = .ok (m.ps.map PV.int) h0 := fun _ => rfl
  simp (implicitDefEqProofs := false) [e2, c1, hs, fsetV, M.a6, putSl, finM, fz, toP, frzSlots, Mt.obj, eg, ew]
end
end Sw

end

section
/-! Matters: acts, weights, sums, tables. -/
namespace Sw
open PySem (Str)
section
variable {T : Tab} {n fuel : Nat} {h : Store} {m : Mt} {na : Nat}
theorem prop_parts (M : Mats T) : callV (calls T fuel (n + 1)) 11 [m.obj] h = .ok (.p (pvI m.ps)) h := by
  rw [callV_at M.f11 rfl]
  simp (implicitDefEqProofs := false) [mb11, startE, Mt.obj, fldV_slot _ _ _ M.a3 (fs := [pvM m.ws, .lst (m.ch.map frac), pvM m.gs, pvI m.ps]) rfl]
theorem prop_gains (M : Mats T) : callV (calls T fuel (n + 1)) 12 [m.obj] h = .ok (.p (pvM m.gs)) h := by
  rw [callV_at M.f12 rfl]
  simp (implicitDefEqProofs := false) [mb12, startE, Mt.obj, fldV_slot _ _ _ M.a4 (fs := [pvM m.ws, .lst (m.ch.map frac), pvM m.gs, pvI m.ps]) rfl]
theorem prop_worths (M : Mats T) : callV (calls T fuel (n + 1)) 13 [m.obj] h = .ok (.p (pvM m.ws)) h := by
  rw [callV_at M.f13 rfl]
  simp (implicitDefEqProofs := false) [mb13, startE, Mt.obj, fldV_slot _ _ _ M.a5 (fs := [pvM m.ws, .lst (m.ch.map frac), pvM m.gs, pvI m.ps]) rfl]
theorem fld_own (M : Mats T) {Γ : Calls} : fldV T Γ 4 (.p m.obj) h = .ok (.p (pvM m.gs)) h := fldV_slot _ _ _ M.a4 rfl
theorem fld_aims (M : Mats T) {Γ : Calls} : fldV T Γ 5 (.p m.obj) h = .ok (.p (pvM m.ws)) h := fldV_slot _ _ _ M.a5 rfl
theorem fld_shares (M : Mats T) {Γ : Calls} : fldV T Γ 3 (.p m.obj) h = .ok (.p (pvI m.ps)) h := fldV_slot _ _ _ M.a3 rfl
theorem fld_chances (M : Mats T) {Γ : Calls} : fldV T Γ 6 (.p m.obj) h = .ok (.p (.lst (m.ch.map frac))) h := fldV_slot _ _ _ M.a6 rfl
theorem fld_parts (M : Mats T) : fldV T (calls T fuel (n + 1)) 0 (.p m.obj) h = .ok (.p (pvI m.ps)) h := fldV_prop _ _ _ M.a0 fun _ => prop_parts M
theorem fld_gains (M : Mats T) : fldV T (calls T fuel (n + 1)) 1 (.p m.obj) h = .ok (.p (pvM m.gs)) h := fldV_prop _ _ _ M.a1 fun _ => prop_gains M
theorem fld_worths (M : Mats T) : fldV T (calls T fuel (n + 1)) 2 (.p m.obj) h = .ok (.p (pvM m.ws)) h := fldV_prop _ _ _ M.a2 fun _ => prop_worths M
@[simp] theorem len_pvI {Γ : Calls} (l : List Int) : lenV T Γ (.p (pvI l)) h = .ok (.p (.int l.length)) h := by simp [pvI]
@[simp] theorem len_pvM {Γ : Calls} (l : List (List Int)) : lenV T Γ (.p (pvM l)) h = .ok (.p (.int l.length)) h := by simp [pvM]
@[simp] theorem len_pvR {Γ : Calls} (l : List Rat) : lenV T Γ (.p (pvR l)) h = .ok (.p (.int l.length)) h := by simp [pvR]
@[simp] theorem len_pvT {Γ : Calls} (l : List (List Rat)) : lenV T Γ (.p (pvT l)) h = .ok (.p (.int l.length)) h := by simp [pvT]
theorem len_fn (M : Mats T) : callV (calls T fuel (n + 1)) 14 [m.obj] h = .ok (.p (.int m.ps.length)) h := by
  rw [callV_at M.f14 rfl]
  simp (implicitDefEqProofs := false) [mb14, startE, fld_shares M]
theorem len_obj (M : Mats T) (K : MtOk m na) : lenV T (calls T fuel (n + 1)) (.p m.obj) h = .ok (.p (.int m.ps.length)) h := lenV_obj _ _ _ M.ln (fun _ => len_fn M) (by omega) (by have := K.pu; omega)
theorem many_ok (M : Mats T) (K : MtOk m na) : callV (calls T fuel (n + 1)) 15 [m.obj] h = .ok (.p (.int na)) h := by
  have gl := K.gl
  have pl := K.pl
  obtain ⟨g0, gr, eg⟩ : ∃ g0 gr, m.gs = g0 :: gr := by
    cases e : m.gs with
    | nil => rw [e] at gl; simp at gl; omega
    | cons a r => exact ⟨a, r, rfl⟩
  have lg : g0.length = na := (K.gr g0 (by rw [eg]; exact List.mem_cons_self)).1
  have i1 : idx2 (pvM m.gs) (.int 0) = some (pvI g0) := by rw [eg]; exact idx_h _ _
  rw [callV_at M.f15 rfl]
  simp (implicitDefEqProofs := false) [mb15, startE, fld_own M, i1, lg]
theorem noCls_obj (M : Mats T) : noCls T m.obj = false := M.c0
theorem isi_obj : isiPV (.cls 0) m.obj = true := rfl
theorem isDct_mt : isDct m.obj = false := rfl
theorem check_ok (M : Mats T) : callV (calls T fuel (n + 1)) 16 [m.obj] h = .ok (.p .non) h := by
  rw [callV_at M.f16 rfl]
  simp (implicitDefEqProofs := false) [mb16, startE, noCls_obj M, isi_obj, isDct_mt]
def rgL (k : Nat) : List PV := (List.range k).map fun (i : Nat) => PV.int i
theorem acts_ok (M : Mats T) (K : MtOk m na) : callV (calls T fuel (n + 2)) 17 [m.obj] h = .ok (.p (.lst (rgL na))) h := by
  have au := K.au
  have e : methV T (calls T fuel (n + 1)) 7 .nil [some (.p m.obj)] m.obj [] = .ok (.p (.int na)) [] := by
    have := methV_at T (calls T fuel (n + 1)) [some (.p m.obj)] [] (as := .nil) M.a7 (fs := [pvM m.ws, .lst (m.ch.map frac), pvM m.gs, pvI m.ps])
    refine this.trans ?_
    simp only [evL_nil, Res.bind_ok]
    exact many_ok M K
  rw [callV_at M.f17 rfl]
  simp (implicitDefEqProofs := false) [mb17, startE, e, bi_range (show na < 1000000 by omega), rgL]
/-! ### weights and sums -/
theorem zip_map {α β : Type} (f : α → PV) (g : β → PV) : ∀ (l : List α) (r : List β), zipPV (l.map f) (r.map g) = (l.zip r).map fun p => .tup [f p.1, g p.2]
  | [], _ => by simp [zipPV]
  | _ :: _, [] => by simp [zipPV]
  | a :: l, b :: r => by simp [zipPV, zip_map f g l r]
def gR (r : List Rat) (w : Nat) : Rat := r.getD w 0
def gI (r : List Int) (a : Nat) : Int := r.getD a 0
def wtsOf (ch : List Rat) (t : List (List Rat)) (w : Nat) : List Rat := (ch.zip t).map fun p => p.1 * gR p.2 w
def cnt (x : List Rat) (rows : List (List Int)) (a : Nat) : Rat := ((x.zip rows).map fun p => p.1 * ((gI p.2 a : Int) : Rat)).sum
theorem frac_int (i : Int) : PV.tup [.int i, .int 1] = frac (i : Rat) := rfl
theorem get_row {r : List Rat} {w : Nat} (h : w < r.length) : idx2 (pvR r) (.int w) = some (frac (gR r w)) := idx_t (by unfold gR; rw [List.getElem?_map, List.getElem?_eq_getElem h, List.getD_eq_getElem?_getD, List.getElem?_eq_getElem h]; rfl)
theorem get_int {r : List Int} {w : Nat} (h : w < r.length) : idx2 (pvI r) (.int w) = some (.int (gI r w)) := idx_t (by unfold gI; rw [List.getElem?_map, List.getElem?_eq_getElem h, List.getD_eq_getElem?_getD, List.getElem?_eq_getElem h]; rfl)
theorem Mt.ch_len : m.ch.length = m.ps.length := by simp [Mt.ch]
theorem sum_bd (l : List Int) (h : ∀ x ∈ l, 1 ≤ x ∧ x ≤ 6) : (l.length : Int) ≤ l.sum ∧ l.sum ≤ 6 * l.length := by
  induction l with
  | nil => simp
  | cons b r ih =>
    have := ih fun x hx => h x (List.mem_cons_of_mem _ hx)
    have := h b List.mem_cons_self
    simp only [List.length_cons, List.sum_cons]
    omega
theorem MtOk.sum (K : MtOk m na) : 2 ≤ m.ps.sum ∧ m.ps.sum ≤ 24 := by
  have := sum_bd m.ps K.pb
  have := K.pl
  have := K.pu
  omega
theorem MtOk.chS (K : MtOk m na) : ∀ q ∈ m.ch, Sm 5 q := fun q hq => by
  obtain ⟨p, hp, rfl⟩ := List.mem_map.mp hq
  have := K.sum
  have := K.pb p hp
  exact Sm.divInt (by omega) (by omega) (by omega)
theorem zip_mem1 {α β : Type} {l : List α} {r : List β} {p : α × β} (h : p ∈ l.zip r) : p.1 ∈ l := (List.of_mem_zip (a := p.1) (b := p.2) h).1
theorem zip_mem2 {α β : Type} {l : List α} {r : List β} {p : α × β} (h : p ∈ l.zip r) : p.2 ∈ r := (List.of_mem_zip (a := p.1) (b := p.2) h).2
theorem weights_ok (M : Mats T) (hf : 16400 ≤ fuel) {ch : List Rat} {ob : PV} {t : List (List Rat)} {w k j : Nat} (hc : ∀ q ∈ ch, Sm k q) (ht : ∀ r ∈ t, w < r.length ∧ ∀ q ∈ r, Sm j q) (hk : k + j ≤ 8192) (hl : ch.length ≤ 1000) (hob : ∀ (Γ : Calls) (h : Store), fldV T Γ 6 (.p ob) h = .ok (.p (.lst (ch.map frac))) h) :
    callV (calls T fuel (n + 3)) 21 [ob, pvT t, .int w] h = .ok (.p (.lst ((wtsOf ch t w).map frac))) h := by
  rw [callV_at M.f21 rfl]
  have hs : min ch.length t.length ≤ sizeMax := by unfold sizeMax; omega
  simp (implicitDefEqProofs := false) [mb21, startE, hob, pvT, zip_map]
  rw [lc_map (val := fun p : Rat × List Rat => .tup [frac p.1, pvR p.2]) (res := fun p => frac (p.1 * gR p.2 w))]
  · simp (implicitDefEqProofs := false) [wtsOf, hs]
  · intro p hp
    have h1 := hc p.1 (zip_mem1 hp)
    have h2 := ht p.2 (zip_mem2 hp)
    have h3 : Sm j (gR p.2 w) := h2.2 _ (by unfold gR; rw [List.getD_eq_getElem?_getD, List.getElem?_eq_getElem h2.1]; exact List.getElem_mem h2.1)
    exact ⟨_, rfl, by simp (implicitDefEqProofs := false) [lcP, get_row h2.1, times_ok M.toNums hf h1 h3]⟩
theorem Sm.getI {r : List Int} {a : Nat} (h : ∀ x ∈ r, -9 ≤ x ∧ x ≤ 9) : Sm 4 ((gI r a : Int) : Rat) := by
  refine Sm.int ?_ (by omega)
  unfold gI
  rw [List.getD_eq_getElem?_getD]
  cases e : r[a]? with
  | none => decide
  | some x =>
    have := h x (List.mem_of_getElem? e)
    simp only [Option.getD_some]
    omega
theorem cnt_sm {x : List Rat} {rows : List (List Int)} {a k : Nat} (hx : ∀ q ∈ x, Sm k q) (hr : ∀ r ∈ rows, ∀ z ∈ r, -9 ≤ z ∧ z ≤ 9) (hl : x.length ≤ 4) : Sm (4 * (k + 5) + 1) (cnt x rows a) := by
  have := Sm.sum (k := k + 4) (l := (x.zip rows).map fun p => p.1 * ((gI p.2 a : Int) : Rat)) fun q hq => by
    obtain ⟨p, hp, rfl⟩ := List.mem_map.mp hq
    exact (hx p.1 (zip_mem1 hp)).mul (Sm.getI (hr p.2 (zip_mem2 hp)))
  refine this.mono ?_
  have : ((x.zip rows).map fun p => p.1 * ((gI p.2 a : Int) : Rat)).length ≤ 4 := by simp; omega
  have := Nat.mul_le_mul_right (k + 4 + 1) this
  omega
theorem summed_ok (M : Mats T) (hf : 16400 ≤ fuel) {x : List Rat} {rows : List (List Int)} {a k : Nat} (hx : ∀ q ∈ x, Sm k q) (hr : ∀ r ∈ rows, a < r.length ∧ ∀ z ∈ r, -9 ≤ z ∧ z ≤ 9) (hl : x.length ≤ 4) (hk : k ≤ 1000) :
    callV (calls T fuel (n + 4)) 22 [.lst (x.map frac), pvM rows, .int a] h = .ok (.p (frac (cnt x rows a))) h := by
  rw [callV_at M.f22 rfl]
  have hs : min x.length rows.length ≤ sizeMax := by unfold sizeMax; omega
  simp (implicitDefEqProofs := false) [mb22, startE, pvM, zip_map]
  rw [lc_map (val := fun p : Rat × List Int => .tup [frac p.1, pvI p.2]) (res := fun p => frac (p.1 * ((gI p.2 a : Int) : Rat)))]
  · have hl2 : ((x.zip rows).map fun p => p.1 * ((gI p.2 a : Int) : Rat)).length ≤ 4 := by simp; omega
    have := total_ok M.toNums hf (n := n) (h := []) (l := (x.zip rows).map fun p => p.1 * ((gI p.2 a : Int) : Rat)) (k := k + 4) (fun q hq => by
      obtain ⟨p, hp, rfl⟩ := List.mem_map.mp hq
      exact (hx p.1 (zip_mem1 hp)).mul (Sm.getI (hr p.2 (zip_mem2 hp)).2)) (by
        have := Nat.mul_le_mul_right (k + 4 + 1) hl2
        omega)
    rw [List.map_map] at this
    simp (implicitDefEqProofs := false) [hs]
    simp only [Function.comp_def] at this
    rw [this]
    rfl
  · intro p hp
    have h1 := hx p.1 (zip_mem1 hp)
    have h2 := hr p.2 (zip_mem2 hp)
    have s1 : (2 : Nat) ≤ sizeMax := by decide
    exact ⟨_, rfl, by simp (implicitDefEqProofs := false) [lcP, get_int h2.1, s1, frac_int, times_ok M.toNums hf h1 (Sm.getI h2.2)]⟩
end
end Sw

end

section
/-! Matters: the act that is done. -/
namespace Sw
open PySem (Str)
/-! ### equality of fractions -/
theorem frac_inj {p q : Rat} (h : frac p = frac q) : p = q := by
  unfold frac at h
  injection h with h
  injection h with h1 h2
  injection h2 with h2 _
  injection h1 with h1
  injection h2 with h2
  exact Rat.ext h1 (by omega)
theorem plain_frac (q : Rat) : (frac q).plain = true := rfl
theorem depth_frac (q : Rat) : (frac q).depth = 1 := rfl
theorem eqv_frac (p q : Rat) : PV.eqv (frac p) (frac q) = decide (p = q) := by
  have e : PV.eqv (frac p) (frac q) = (decide (p.num = q.num) && (decide ((p.den : Int) = q.den) && true)) := by
    simp only [frac, PV.eqv, PV.eqvAll]
    have z : ∀ a b : Int, (a == b) = decide (a = b) := fun a b => by by_cases c : a = b <;> simp [c]
    rw [z, z]
  rw [e]
  by_cases h : p = q
  · subst h; simp
  · have : ¬ (p.num = q.num ∧ p.den = q.den) := fun z => h (Rat.ext z.1 z.2)
    simp [h]
    intro h1
    by_cases h2 : p.den = q.den
    · exact absurd ⟨h1, h2⟩ this
    · exact fun z => h2 (by omega)
@[simp] theorem cmp_frac_eq (p q : Rat) : cmp2 .eq (frac p) (frac q) = some (decide (p = q)) := by
  have : eqPV (frac p) (frac q) = if eqOk (frac p) (frac q) then some (PV.eqv (frac p) (frac q)) else none := rfl
  simp [cmp2, this, eqOk, plain_frac, depth_frac, eqv_frac]
/-! ### enumerate -/
theorem enum_range (f : Nat → PV) : ∀ (n k : Nat), enumPV k ((List.range' k n).map f) = (List.range' k n).map fun i => .tup [.int i, f i]
  | 0, k => rfl
  | n + 1, k => by simp [List.range'_succ, enumPV, enum_range f n (k + 1)]
theorem enum_range0 (f : Nat → PV) (n : Nat) : enumPV 0 ((List.range n).map f) = (List.range n).map fun i => .tup [.int i, f i] := by
  rw [List.range_eq_range']
  exact enum_range f n 0
/-! ### the greatest of some -/
def topR (l : List Rat) : Rat := l.foldl (fun m x => if m < x then x else m) (l.headD 0)
def bests (x : List Rat) (rows : List (List Int)) (na : Nat) : List Nat := (List.range na).filter fun a => decide (cnt x rows a = topR ((List.range na).map (cnt x rows)))
def actStep (x : List Rat) (rows : List (List Int)) (b : Option Nat) (a : Nat) : Option Nat := match b with
  | none => some a
  | some c => if cnt x rows c < cnt x rows a then some a else some c
def actBy (m : Mt) (x : List Rat) (na : Nat) : Option Nat := (bests x m.gs na).foldl (actStep x m.ws) none
section
variable {T : Tab} {n fuel : Nat} {h : Store} {m : Mt} {na : Nat}
theorem MtOk.gB (K : MtOk m na) {a : Nat} (ha : a < na) : ∀ r ∈ m.gs, a < r.length ∧ ∀ z ∈ r, -9 ≤ z ∧ z ≤ 9 := fun r hr => ⟨by rw [(K.gr r hr).1]; exact ha, (K.gr r hr).2⟩
theorem MtOk.wB (K : MtOk m na) {a : Nat} (ha : a < na) : ∀ r ∈ m.ws, a < r.length ∧ ∀ z ∈ r, -9 ≤ z ∧ z ≤ 9 := fun r hr => ⟨by rw [(K.wr r hr).1]; exact ha, fun z hz => by have := (K.wr r hr).2 z hz; omega⟩
theorem bestActs_ok (M : Mats T) (hf : 16400 ≤ fuel) (K : MtOk m na) {x : List Rat} {k : Nat} (hx : ∀ q ∈ x, Sm k q) (hl : x.length ≤ 4) (hk : k ≤ 500) :
    callV (calls T fuel (n + 5)) 23 [m.obj, .lst (x.map frac)] h = .ok (.p (.lst ((bests x m.gs na).map fun (a : Nat) => PV.int a))) h := by
  have au := K.au
  have al := K.al
  have hs : na ≤ sizeMax := by unfold sizeMax; omega
  have cs : ∀ a, a < na → Sm (4 * (k + 5) + 1) (cnt x m.gs a) := fun a ha => cnt_sm hx (fun r hr => (K.gB ha r hr).2) hl
  rw [callV_at M.f23 rfl]
  simp (implicitDefEqProofs := false) only [mb23, startE, List.map_cons, List.map_nil]
  simp (implicitDefEqProofs := false) [acts_ok M K (n := n + 2)]
  rw [rgL, lc_map (val := fun (i : Nat) => PV.int i) (res := fun a => frac (cnt x m.gs a))]
  rotate_left
  · intro a ha
    exact ⟨_, rfl, by simp (implicitDefEqProofs := false) [lcP, fld_own M, summed_ok M hf hx (K.gB (List.mem_range.mp ha)) hl (show k ≤ 1000 by omega)]⟩
  have e0 : idx2 (.lst ((List.range na).map fun a => frac (cnt x m.gs a))) (.int 0) = some (frac (cnt x m.gs 0)) := idx_l (i := 0) (by rw [List.getElem?_map, List.getElem?_range (by omega)]; rfl)
  simp (implicitDefEqProofs := false) [hs, e0]
  let L := (List.range na).map (cnt x m.gs)
  have lp := forGo_inv (b := evS T (calls T fuel (n + 4)) (.seq (.set 4 (.ite (.call 5 (.cons (.var 4) (.cons (.var 5) .nil))) (.var 5) (.var 4))) .pass)) (t := .name 5) (val := fun a => frac (cnt x m.gs a)) (xs := List.range na)
    (fun pre ρ h => ∃ o, ρ = [some (.p m.obj), some (.p (.lst (x.map frac))), some (.p (.lst ((List.range na).map fun a => frac (cnt x m.gs a)))), none, some (.p (frac ((pre.map (cnt x m.gs)).foldl (fun m x => if m < x then x else m) (cnt x m.gs 0)))), o] ∧ h = [] ∧ ∃ a, a < na ∧ (pre.map (cnt x m.gs)).foldl (fun m x => if m < x then x else m) (cnt x m.gs 0) = cnt x m.gs a)
    (fun pre a post ρ h e ⟨o, hρ, hh, b, hb, eb⟩ => by
      subst hρ hh
      have ha : a < na := List.mem_range.mp (by rw [e]; simp)
      rw [eb]
      have lo := less_ok M.toNums (n := n + 3) (fuel := fuel) (h := []) (cs b hb) (cs a ha) (by omega)
      by_cases c : cnt x m.gs b < cnt x m.gs a
      · refine ⟨_, _, _, rfl, ?_, ⟨some (.p (frac (cnt x m.gs a))), rfl, rfl, a, ha, ?_⟩⟩
        · simp (implicitDefEqProofs := false) [lo, c, eb]
        · simp [eb, c]
      · refine ⟨_, _, _, rfl, ?_, ⟨some (.p (frac (cnt x m.gs a))), rfl, rfl, b, hb, ?_⟩⟩
        · simp (implicitDefEqProofs := false) [lo, c, eb]
        · simp [eb, c])
    (ρ := [some (.p m.obj), some (.p (.lst (x.map frac))), some (.p (.lst ((List.range na).map fun a => frac (cnt x m.gs a)))), none, some (.p (frac (cnt x m.gs 0))), none]) (h := []) ⟨_, rfl, rfl, 0, by omega, rfl⟩
  obtain ⟨ρ', h', e1, o, e2, e3, a, ha, ea⟩ := lp
  subst e2 e3
  rw [e1]
  simp (implicitDefEqProofs := false) [enum_range0]
  rw [lc_filter (val := fun (i : Nat) => .tup [.int i, frac (cnt x m.gs i)]) (p := fun i => decide (cnt x m.gs i = topR ((List.range na).map (cnt x m.gs)))) (res := fun (i : Nat) => PV.int i)]
  · simp (implicitDefEqProofs := false) [hs, bests]
  · intro i hi
    have et : topR ((List.range na).map (cnt x m.gs)) = ((List.range na).map (cnt x m.gs)).foldl (fun m x => if m < x then x else m) (cnt x m.gs 0) := by
      unfold topR
      congr 1
      obtain ⟨j, rfl⟩ : ∃ j, na = j + 1 := ⟨na - 1, by omega⟩
      simp [List.range_succ_eq_map]
    refine ⟨_, rfl, ?_⟩
    simp (implicitDefEqProofs := false) [lcP]
    rw [et]
    by_cases c : cnt x m.gs i = ((List.range na).map (cnt x m.gs)).foldl (fun m x => if m < x then x else m) (cnt x m.gs 0) <;> simp [c]
theorem bests_lt {x : List Rat} {rows : List (List Int)} {a : Nat} (h : a ∈ bests x rows na) : a < na := List.mem_range.mp (List.mem_filter.mp h).1
def optI : Option Nat → PV
  | none => .non
  | some a => .int a
theorem actBy_ok (M : Mats T) (hf : 16400 ≤ fuel) (K : MtOk m na) {x : List Rat} {k : Nat} (hx : ∀ q ∈ x, Sm k q) (hl : x.length ≤ 4) (hk : k ≤ 500) :
    callV (calls T fuel (n + 6)) 24 [m.obj, .lst (x.map frac)] h = .ok (.p (optI (actBy m x na))) h := by
  have cs : ∀ a, a < na → Sm (4 * (k + 5) + 1) (cnt x m.ws a) := fun a ha => cnt_sm hx (fun r hr => (K.wB ha r hr).2) hl
  rw [callV_at M.f24 rfl]
  simp (implicitDefEqProofs := false) only [mb24, startE, List.map_cons, List.map_nil]
  simp (implicitDefEqProofs := false) [bestActs_ok M hf K hx hl hk]
  have lp := forGo_inv (b := evS T (calls T fuel (n + 5)) (.seq (.ite (.or (.cmp .is_ (.var 2) (.pv .non)) (.call 5 (.cons (.call 22 (.cons (.var 1) (.cons (.fld (.var 0) 5) (.cons (.var 2) .nil)))) (.cons (.call 22 (.cons (.var 1) (.cons (.fld (.var 0) 5) (.cons (.var 3) .nil)))) .nil))))
    (.seq (.set 2 (.var 3)) .pass) .pass) .pass)) (t := .name 3) (val := fun (a : Nat) => PV.int a) (xs := bests x m.gs na)
    (fun pre ρ h => ∃ o, ρ = [some (.p m.obj), some (.p (.lst (x.map frac))), some (.p (optI (pre.foldl (actStep x m.ws) none))), o] ∧ h = [] ∧ ∀ c, pre.foldl (actStep x m.ws) none = some c → c < na)
    (fun pre a post ρ h e ⟨o, hρ, hh, hb⟩ => by
      subst hρ hh
      have ha : a < na := bests_lt (by rw [e]; simp)
      cases eb : pre.foldl (actStep x m.ws) none with
      | none =>
        refine ⟨_, _, _, rfl, ?_, ⟨some (.p (.int a)), rfl, rfl, ?_⟩⟩
        · simp (implicitDefEqProofs := false) [optI, eb, isNon, actStep]
        · intro c hc
          simp [eb, actStep] at hc
          omega
      | some b =>
        have hb' := hb b eb
        have s1 := summed_ok M hf (n := n + 1) (h := []) hx (K.wB hb') hl (show k ≤ 1000 by omega)
        have s2 := summed_ok M hf (n := n + 1) (h := []) hx (K.wB ha) hl (show k ≤ 1000 by omega)
        have lo := less_ok M.toNums (n := n + 4) (fuel := fuel) (h := []) (cs b hb') (cs a ha) (by omega)
        by_cases c : cnt x m.ws b < cnt x m.ws a
        · refine ⟨_, _, _, rfl, ?_, ⟨some (.p (.int a)), rfl, rfl, ?_⟩⟩
          · simp (implicitDefEqProofs := false) [optI, eb, isNon, actStep, fld_aims M, s1, s2, lo, c]
          · intro d hd
            simp [eb, actStep, c] at hd
            omega
        · refine ⟨_, _, _, rfl, ?_, ⟨some (.p (.int a)), rfl, rfl, ?_⟩⟩
          · simp (implicitDefEqProofs := false) [optI, eb, isNon, actStep, fld_aims M, s1, s2, lo, c]
          · intro d hd
            simp [eb, actStep, c] at hd
            omega)
    (ρ := [some (.p m.obj), some (.p (.lst (x.map frac))), some (.p .non), none]) (h := []) ⟨_, rfl, rfl, fun c hc => by cases hc⟩
  obtain ⟨ρ', h', e1, o, e2, e3, _⟩ := lp
  subst e2 e3
  rw [e1]
  simp (implicitDefEqProofs := false) [actBy]
end
end Sw

end

section
/-! Matters: tables. -/
namespace Sw
open PySem (Str)
structure TbR (t : List (List Rat)) (nc nw : Nat) : Prop where
  tl : t.length = nc
  wl : 1 ≤ nw
  wu : nw ≤ 4
  rl : ∀ r ∈ t, r.length = nw
  rq : ∀ r ∈ t, ∀ q ∈ r, 0 ≤ q ∧ q ≤ 1 ∧ Sm 8 q
  rs : ∀ r ∈ t, r.sum = 1
section
variable {T : Tab} {n fuel : Nat} {h : Store} {m : Mt} {na nw : Nat}
theorem divInt_nd (q : Rat) : Rat.divInt q.num q.den = q := by rw [Rat.divInt_ofNat, Rat.mkRat_self]
theorem isChance_ok (M : Mats T) (hf : 16400 ≤ fuel) {q : Rat} {k : Nat} (h0 : 0 ≤ q) (h1 : q ≤ 1) (hq : Sm k q) (hk : k ≤ 8192) : callV (calls T fuel (n + 2)) 18 [frac q] h = .ok (.p (.bl true)) h := by
  have a0 : 0 ≤ q.num := Rat.num_nonneg.mpr h0
  have a1 : q.num ≤ q.den := by
    have := (Rat.le_iff q 1).mp h1
    simpa using this
  have a2 : (1 : Int) ≤ q.den := by have := q.den_nz; omega
  have lo := lowest_ok M.toNums hf (n := n) (h := []) (a := q.num) (b := q.den) (by omega) (hq.bd hk)
  rw [divInt_nd] at lo
  have e1 : itemsOf (frac q) = some [.int q.num, .int q.den] := rfl
  have e2 : lenV T (calls T fuel (n + 1)) (.p (frac q)) [] = .ok (.p (.int 2)) [] := rfl
  have e3 : isDct (frac q) = false := rfl
  have e4 : noCls T (frac q) = false := rfl
  have e5 : isiPV .tuple (frac q) = true := rfl
  have ii : ∀ i, isiPV .int (.int i) = true := fun _ => rfl
  have ib : ∀ i, isiPV .bool (.int i) = false := fun _ => rfl
  have s1 : (2 : Nat) ≤ sizeMax := by decide
  have b1 : bi1 .all (.lst [.bl true, .bl true]) = some (.bl true) := rfl
  rw [callV_at M.f18 rfl]
  simp (implicitDefEqProofs := false) [mb18, startE, e1, e2, e3, e4, e5, lcGo, setTg, lcP, ii, ib, s1, b1, a0, a1, a2, lo]
theorem itemsOf_pvT (t : List (List Rat)) : itemsOf (pvT t) = some (t.map pvR) := rfl
theorem itemsOf_pvR (t : List Rat) : itemsOf (pvR t) = some (t.map frac) := rfl
theorem bi_list_pvR (r : List Rat) : bi1 .list (pvR r) = some (.lst (r.map frac)) := rfl
theorem isTable_ok (M : Mats T) (hf : 16400 ≤ fuel) (K : MtOk m na) {t : List (List Rat)} (R : TbR t m.ps.length nw) : callV (calls T fuel (n + 4)) 19 [m.obj, pvT t] h = .ok (.p (.bl true)) h := by
  have tl := R.tl
  have pl := K.pl
  have pu := K.pu
  have wl := R.wl
  have wu := R.wu
  obtain ⟨r0, rest, et⟩ : ∃ r0 rest, t = r0 :: rest := by
    cases e : t with
    | nil => rw [e] at tl; simp at tl; omega
    | cons a r => exact ⟨a, r, rfl⟩
  have l0 : r0.length = nw := R.rl r0 (by rw [et]; exact List.mem_cons_self)
  have i0 : idx2 (pvT t) (.int 0) = some (pvR r0) := by rw [et]; exact idx_h _ _
  have hs : m.ps.length ≤ sizeMax := by unfold sizeMax; omega
  have w1 : (1 : Int) ≤ nw := by omega
  have w2 : (nw : Int) ≤ 4 := by omega
  have eo : PV.tup [.int 1, .int 1] = frac 1 := rfl
  have ie : ∀ r : List Rat, isDct (pvR r) = false ∧ noCls T (pvR r) = false ∧ isiPV .tuple (pvR r) = true := fun r => ⟨rfl, rfl, rfl⟩
  have it : isDct (pvT t) = false ∧ noCls T (pvT t) = false ∧ isiPV .tuple (pvT t) = true := ⟨rfl, rfl, rfl⟩
  rw [callV_at M.f19 rfl]
  have c1 := lc_map (f := lcP T (calls T fuel (n + 3)) (.pv (.bl true)) (.and (.isi .tuple (.var 2)) (.chain .le .le (.pv (.int 1)) (.len (.var 2)) (.pv (.int 4))))) (t := .name 2) (ρ := [some (.p m.obj), some (.p (pvT t)), none, none]) (val := pvR) (res := fun _ => .bl true) (h := []) (xs := t) (acc := []) fun v hv =>
      ⟨_, rfl, by simp (implicitDefEqProofs := false) [lcP, (ie v).1, (ie v).2, R.rl v hv, w1, w2]⟩
  have c2 := lc_map (f := lcP T (calls T fuel (n + 3)) (.pv (.bl true)) (.and (.cmp .eq (.len (.var 2)) (.len (.idx (.var 1) (.pv (.int 0))))) (.bi .all (.lc (.val (.var 2)) (.name 3) [3] (.pv (.bl true)) (.call 18 (.cons (.var 3) .nil)))))) (t := .name 2) (ρ := [some (.p m.obj), some (.p (pvT t)), none, none]) (val := pvR) (res := fun _ => .bl true) (h := []) (xs := t) (acc := []) fun v hv =>
      ⟨_, rfl, by
        have c3 := lc_map (f := lcP T (calls T fuel (n + 3)) (.pv (.bl true)) (.call 18 (.cons (.var 3) .nil))) (t := .name 3) (ρ := [some (.p m.obj), some (.p (pvT t)), some (.p (pvR v)), none]) (val := frac) (res := fun _ => .bl true) (h := []) (xs := v) (acc := []) fun q hq =>
          ⟨_, rfl, by simp (implicitDefEqProofs := false) [lcP, isChance_ok M hf (R.rq v hv q hq).1 (R.rq v hv q hq).2.1 (R.rq v hv q hq).2.2 (by omega)]⟩
        have lv := R.rl v hv
        have hv4 : nw ≤ sizeMax := by unfold sizeMax; omega
        simp (implicitDefEqProofs := false) only [List.nil_append] at c3
        simp (implicitDefEqProofs := false) [lcP, i0, l0, R.rl v hv, itemsOf_pvR, c3, bi_all_true, hv4]⟩
  have c4 := lc_map (f := lcP T (calls T fuel (n + 3)) (.pv (.bl true)) (.cmp .eq (.call 6 (.cons (.bi .list (.var 2)) .nil)) (.pv (.tup [.int 1, .int 1])))) (t := .name 2) (ρ := [some (.p m.obj), some (.p (pvT t)), none, none]) (val := pvR) (res := fun _ => .bl true) (h := []) (xs := t) (acc := []) fun v hv =>
      ⟨_, rfl, by
        have lv := R.rl v hv
        have := total_ok M.toNums hf (n := n) (h := []) (l := v) (k := 8) (fun q hq => (R.rq v hv q hq).2.2) (by omega)
        rw [R.rs v hv] at this
        simp (implicitDefEqProofs := false) [lcP, bi_list_pvR, this, eo]⟩
  simp (implicitDefEqProofs := false) only [List.nil_append] at c1 c2 c4
  simp (implicitDefEqProofs := false) [mb19, startE, it.1, it.2, len_obj M K (n := n + 2), tl, itemsOf_pvT, c1, c2, c4, hs, bi_all_true]
theorem checkTable_ok (M : Mats T) (hf : 16400 ≤ fuel) (K : MtOk m na) {t : List (List Rat)} (R : TbR t m.ps.length nw) : callV (calls T fuel (n + 5)) 20 [m.obj, pvT t] h = .ok (.p .non) h := by
  rw [callV_at M.f20 rfl]
  simp (implicitDefEqProofs := false) [mb20, startE, check_ok M (n := n + 3), isTable_ok M hf K R]
end
end Sw

end

section
/-! Tellings: what is done after each word. -/
namespace Sw
open PySem (Str)
def tb25 : S := (.seq (.retV (.bi .rangeL1 (.len (.idx (.var 0) (.pv (.int 0))))))
  .pass)
def tb26 : S := (.seq (.retV (.bi .any (.lc (.val (.var 0)) (.name 1) [1] (.pv (.bl true)) (.cmp .gt (.idx (.var 1) (.pv (.int 0))) (.pv (.int 0))))))
  .pass)
def tb27 : S := (.seq (.set 2 (.dc (.val (.call 25 (.cons (.var 1) .nil))) (.name 3) [3] (.pv (.bl true)) (.var 3) (.call 21 (.cons (.var 0) (.cons (.var 1) (.cons (.var 3) .nil))))))
  (.seq (.retV (.dc (.items (.var 2)) (.tup (.cons (.name 3) (.cons (.name 4) .nil))) [3, 4] (.call 26 (.cons (.var 4) .nil)) (.var 3) (.var 4)))
  .pass))
def tb28 : S := (.seq (.expr (.call 20 (.cons (.var 0) (.cons (.var 1) .nil))))
  (.seq (.par [2, 3] (.cons (.call 27 (.cons (.var 0) (.cons (.var 1) .nil))) (.cons (.newL .nil) .nil)))
  (.seq (.for_ (.val (.call 25 (.cons (.var 1) .nil))) (.name 4)
  (.seq (.ite (.cmp .in_ (.var 4) (.var 2))
  (.seq (.append (.var 3) (.bi .tuple (.lc (.val (.idx (.var 2) (.var 4))) (.name 5) [5] (.pv (.bl true)) (.call 4 (.cons (.var 5) (.cons (.call 6 (.cons (.idx (.var 2) (.var 4)) .nil)) .nil))))))
  .pass)
  (.seq (.append (.var 3) (.pv .non))
  .pass))
  .pass))
  (.seq (.retV (.var 3))
  .pass))))
def tb29 : S := (.seq (.expr (.call 20 (.cons (.var 0) (.cons (.var 1) .nil))))
  (.seq (.set 2 (.call 27 (.cons (.var 0) (.cons (.var 1) .nil))))
  (.seq (.retV (.lc (.val (.call 25 (.cons (.var 1) .nil))) (.name 3) [3] (.pv (.bl true)) (.ite (.cmp .in_ (.var 3) (.var 2)) (.call 24 (.cons (.var 0) (.cons (.idx (.var 2) (.var 3)) .nil))) (.pv .non))))
  .pass)))
def tb30 : S := (.seq (.expr (.call 20 (.cons (.var 0) (.cons (.var 1) .nil))))
  (.seq (.set 2 (.call 27 (.cons (.var 0) (.cons (.var 1) .nil))))
  (.seq (.retV (.call 6 (.cons (.lc (.values (.var 2)) (.name 3) [3] (.pv (.bl true)) (.call 22 (.cons (.var 3) (.cons (.fld (.var 0) 5) (.cons (.call 24 (.cons (.var 0) (.cons (.var 3) .nil))) .nil))))) .nil)))
  .pass)))
def tb31 : S := (.seq (.expr (.call 20 (.cons (.var 0) (.cons (.var 1) .nil))))
  (.seq (.set 2 (.call 27 (.cons (.var 0) (.cons (.var 1) .nil))))
  (.seq (.retV (.call 6 (.cons (.lc (.values (.var 2)) (.name 3) [3] (.pv (.bl true)) (.call 22 (.cons (.var 3) (.cons (.fld (.var 0) 4) (.cons (.call 24 (.cons (.var 0) (.cons (.var 3) .nil))) .nil))))) .nil)))
  .pass)))
def tb32 : S := (.seq (.expr (.call 20 (.cons (.var 0) (.cons (.var 1) .nil))))
  (.seq (.set 2 .newD)
  (.seq (.for_ (.items (.call 27 (.cons (.var 0) (.cons (.var 1) .nil)))) (.tup (.cons (.name 3) (.cons (.name 4) .nil)))
  (.seq (.set 5 (.call 24 (.cons (.var 0) (.cons (.var 4) .nil))))
  (.seq (.for_ (.val (.call 17 (.cons (.var 0) .nil))) (.name 6)
  (.seq (.ite (.cmp .ne (.var 6) (.var 5))
  (.seq (.iset (.var 2) (.tup (.cons (.var 3) (.cons (.var 6) .nil))) (.call 2 (.cons (.call 22 (.cons (.var 4) (.cons (.fld (.var 0) 4) (.cons (.var 5) .nil)))) (.cons (.call 22 (.cons (.var 4) (.cons (.fld (.var 0) 4) (.cons (.var 6) .nil)))) .nil))))
  .pass)
  .pass)
  .pass))
  .pass)))
  (.seq (.retV (.var 2))
  .pass))))
def tb33 : S := (.seq (.expr (.call 16 (.cons (.var 0) .nil)))
  (.seq (.retV (.bi .tuple (.lc (.range (.len (.var 0))) (.name 2) [2] (.pv (.bl true)) (.bi .tuple (.lc (.range (.len (.var 0))) (.name 1) [1] (.pv (.bl true)) (.tup (.cons (.ite (.cmp .eq (.var 1) (.var 2)) (.pv (.int 1)) (.pv (.int 0))) (.cons (.pv (.int 1)) .nil))))))))
  .pass))
def tb34 : S := (.seq (.expr (.call 16 (.cons (.var 0) .nil)))
  (.seq (.retV (.bi .tuple (.lc (.range (.len (.var 0))) (.name 1) [1] (.pv (.bl true)) (.tup (.cons (.tup (.cons (.pv (.int 1)) (.cons (.pv (.int 1)) .nil))) .nil)))))
  .pass))
structure Tels (T : Tab) : Prop extends Mats T where
  f25 : T.fns[25]? = some ⟨1, 1, tb25⟩
  f26 : T.fns[26]? = some ⟨1, 2, tb26⟩
  f27 : T.fns[27]? = some ⟨2, 5, tb27⟩
  f28 : T.fns[28]? = some ⟨2, 6, tb28⟩
  f29 : T.fns[29]? = some ⟨2, 4, tb29⟩
  f30 : T.fns[30]? = some ⟨2, 4, tb30⟩
  f31 : T.fns[31]? = some ⟨2, 4, tb31⟩
  f32 : T.fns[32]? = some ⟨2, 7, tb32⟩
  f33 : T.fns[33]? = some ⟨1, 3, tb33⟩
  f34 : T.fns[34]? = some ⟨1, 2, tb34⟩
/-! ### dicts by comprehensions -/
theorem dPut_new : ∀ {acc : List (PV × PV)} {k v : PV}, (∀ q ∈ acc, PV.eqv q.1 k = false) → dPut acc k v = acc ++ [(k, v)]
  | [], _, _, _ => rfl
  | (j, w) :: r, k, v, h => by
    have h1 := h (j, w) List.mem_cons_self
    simp only [dPut, h1, List.cons_append]
    rw [dPut_new fun q hq => h q (List.mem_cons_of_mem _ hq)]
    rfl
theorem dc_filter {α : Type} {f : Env → Store → Res (Option (PV × PV))} {t : Tg} {ρ : Env} {val : α → PV} {p : α → Bool} {key res : α → PV} {h : Store} : ∀ {xs : List α} {acc : List (PV × PV)},
    (∀ x ∈ xs, isFlatK (key x) = true ∧ ∃ ρ1, setTg t (val x) ρ = some ρ1 ∧ f ρ1 h = .ok (if p x then some (key x, res x) else none) h) → (∀ x ∈ xs, ∀ q ∈ acc, PV.eqv q.1 (key x) = false) → xs.Pairwise (fun a b => PV.eqv (key a) (key b) = false) →
    dcGo f t ρ (xs.map val) acc h = .ok (acc ++ (xs.filter p).map fun x => (key x, res x)) h
  | [], acc, _, _, _ => by simp [dcGo]
  | x :: r, acc, hx, ha, hp => by
    obtain ⟨fk, ρ1, e1, e2⟩ := hx x List.mem_cons_self
    obtain ⟨hp1, hp2⟩ := List.pairwise_cons.mp hp
    cases c : p x with
    | true =>
      rw [c] at e2
      simp only [List.map_cons, dcGo, e1, e2, if_true, List.filter_cons, c, fk]
      rw [dPut_new (ha x List.mem_cons_self), dc_filter (fun y hy => hx y (List.mem_cons_of_mem _ hy)) (fun y hy q hq => ?_) hp2]
      · simp
      · rcases List.mem_append.mp hq with hq | hq
        · exact ha y (List.mem_cons_of_mem _ hy) q hq
        · simp at hq; subst hq; exact hp1 y hy
    | false =>
      rw [c] at e2
      simp only [List.map_cons, dcGo, e1, e2, List.filter_cons, c]
      simp only [Bool.false_eq_true, if_false]
      rw [dc_filter (fun y hy => hx y (List.mem_cons_of_mem _ hy)) (fun y hy q hq => ha y (List.mem_cons_of_mem _ hy) q hq) hp2]
def natD (L : List Nat) (v : Nat → PV) : List (PV × PV) := L.map fun (a : Nat) => (PV.int a, v a)
theorem dFind_nat {v : Nat → PV} {w : Nat} : ∀ {L : List Nat}, dFind (natD L v) (.int w) = if w ∈ L then some (v w) else none
  | [] => rfl
  | a :: r => by
    simp only [natD, List.map_cons, dFind, eqv_int]
    by_cases e : a = w
    · subst e; simp
    · have h1 : ¬ ((a : Int) = w) := by omega
      have ih := dFind_nat (v := v) (w := w) (L := r)
      simp only [natD] at ih
      simp [h1, ih]
      have : (w = a) = False := by simp; omega
      simp [this]
theorem keyFits_nat {v : Nat → PV} {w : Nat} (L : List Nat) : keyFits (natD L v) (.int w) = true := by
  cases L <;> rfl
theorem in_nat {v : Nat → PV} {w : Nat} (L : List Nat) : cmp2 .in_ (.int w) (.dct (natD L v)) = some (decide (w ∈ L)) := by
  simp only [cmp2, keyFits_nat, if_true, dFind_nat]
  by_cases e : w ∈ L <;> simp [e]
theorem idx_nat {v : Nat → PV} {w : Nat} {L : List Nat} (h : w ∈ L) : idx2 (.dct (natD L v)) (.int w) = some (v w) := by
  simp [idx2, keyFits_nat, dFind_nat, h]
theorem pw_nat : ∀ (L : List Nat), L.Nodup → L.Pairwise (fun (a b : Nat) => PV.eqv (.int a) (.int b) = false) := fun L hL => by
  refine List.Pairwise.imp ?_ hL
  intro a b h
  simp only [eqv_int, decide_eq_false_iff_not]
  omega
/-! ### mirror -/
def isSaid (x : List Rat) : Bool := x.any fun q => decide (0 < q)
def saidL (m : Mt) (t : List (List Rat)) (nw : Nat) : List Nat := (List.range nw).filter fun w => isSaid (wtsOf m.ch t w)
def wtV (m : Mt) (t : List (List Rat)) (w : Nat) : PV := .lst ((wtsOf m.ch t w).map frac)
def saidD (m : Mt) (t : List (List Rat)) (nw : Nat) : PV := .dct (natD (saidL m t nw) (wtV m t))
section
variable {T : Tab} {n fuel : Nat} {h : Store} {m : Mt} {na nw : Nat} {t : List (List Rat)}
theorem TbR.head (R : TbR t m.ps.length nw) (K : MtOk m na) : ∃ r0 rest, t = r0 :: rest ∧ r0.length = nw ∧ idx2 (pvT t) (.int 0) = some (pvR r0) := by
  have tl := R.tl
  have pl := K.pl
  cases e : t with
  | nil => rw [e] at tl; simp at tl; omega
  | cons a r => exact ⟨a, r, rfl, R.rl a (by rw [e]; exact List.mem_cons_self), idx_h _ _⟩
theorem words_ok (M : Tels T) (K : MtOk m na) (R : TbR t m.ps.length nw) : callV (calls T fuel (n + 1)) 25 [pvT t] h = .ok (.p (.lst (rgL nw))) h := by
  obtain ⟨r0, rest, et, l0, i0⟩ := R.head K
  have wu := R.wu
  rw [callV_at M.f25 rfl]
  simp (implicitDefEqProofs := false) [tb25, startE, i0, l0, bi_range (show nw < 1000000 by omega), rgL]
theorem wts_sm (K : MtOk m na) (R : TbR t m.ps.length nw) {w : Nat} (hw : w < nw) : ∀ q ∈ wtsOf m.ch t w, Sm 13 q := fun q hq => by
  obtain ⟨p, hp, rfl⟩ := List.mem_map.mp hq
  have h1 := K.chS p.1 (zip_mem1 hp)
  have hl := R.rl p.2 (zip_mem2 hp)
  have h2 := (R.rq p.2 (zip_mem2 hp) (gR p.2 w) (by
    unfold gR
    rw [List.getD_eq_getElem?_getD, List.getElem?_eq_getElem (by omega)]
    exact List.getElem_mem _)).2.2
  exact h1.mul h2
theorem wts_len (K : MtOk m na) (R : TbR t m.ps.length nw) {w : Nat} : (wtsOf m.ch t w).length = m.ps.length := by
  simp [wtsOf, Mt.ch_len, R.tl]
theorem wts_nn (K : MtOk m na) (R : TbR t m.ps.length nw) {w : Nat} (hw : w < nw) : ∀ q ∈ wtsOf m.ch t w, 0 ≤ q := fun q hq => by
  obtain ⟨p, hp, rfl⟩ := List.mem_map.mp hq
  obtain ⟨c, hc, ec⟩ := List.mem_map.mp (zip_mem1 hp)
  have hl := R.rl p.2 (zip_mem2 hp)
  have h2 := (R.rq p.2 (zip_mem2 hp) (gR p.2 w) (by
    unfold gR
    rw [List.getD_eq_getElem?_getD, List.getElem?_eq_getElem (by omega)]
    exact List.getElem_mem _)).1
  have h1 : 0 ≤ p.1 := by
    rw [← ec]
    have := K.pb c hc
    have := K.sum
    exact Rat.divInt_nonneg (by omega) (by omega)
  exact Rat.mul_nonneg h1 h2
theorem wts_ok (M : Tels T) (hf : 16400 ≤ fuel) (K : MtOk m na) (R : TbR t m.ps.length nw) {w : Nat} (hw : w < nw) : callV (calls T fuel (n + 3)) 21 [m.obj, pvT t, .int w] h = .ok (.p (wtV m t w)) h := by
  have pu := K.pu
  exact weights_ok M.toMats hf K.chS (j := 8) (fun r hr => ⟨by rw [R.rl r hr]; exact hw, fun q hq => (R.rq r hr q hq).2.2⟩) (by omega) (by rw [Mt.ch_len]; omega) (fun Γ h => fld_chances M.toMats)
theorem num_pos {q : Rat} : 0 < q.num ↔ 0 < q := by
  rw [Rat.lt_iff]
  simp
theorem said_ok (M : Tels T) {x : List Rat} (hl : x.length ≤ 1000) : callV (calls T fuel (n + 1)) 26 [.lst (x.map frac)] h = .ok (.p (.bl (isSaid x))) h := by
  have hs : x.length ≤ sizeMax := by unfold sizeMax; omega
  rw [callV_at M.f26 rfl]
  simp (implicitDefEqProofs := false) [tb26, startE]
  rw [lc_map (val := frac) (res := fun q => .bl (decide (0 < q)))]
  · simp (implicitDefEqProofs := false) [hs, bi_any, isSaid]
  · intro q hq
    exact ⟨_, rfl, by simp (implicitDefEqProofs := false) [lcP, num_pos]⟩
theorem saidWords_ok (M : Tels T) (hf : 16400 ≤ fuel) (K : MtOk m na) (R : TbR t m.ps.length nw) : callV (calls T fuel (n + 4)) 27 [m.obj, pvT t] h = .ok (.p (saidD m t nw)) h := by
  have pu := K.pu
  have wu := R.wu
  have hs : nw ≤ sizeMax := by unfold sizeMax; omega
  rw [callV_at M.f27 rfl]
  simp (implicitDefEqProofs := false) [tb27, startE, words_ok M K R (n := n + 2)]
  rw [rgL, dc_filter (val := fun (i : Nat) => PV.int i) (p := fun _ => true) (key := fun (i : Nat) => PV.int i) (res := wtV m t)]
  rotate_left
  · intro w hw
    exact ⟨rfl, _, rfl, by simp (implicitDefEqProofs := false) [dcP, wts_ok M hf K R (List.mem_range.mp hw)]⟩
  · intro _ _ q hq; cases hq
  · exact pw_nat _ List.nodup_range
  have ft : (List.range nw).filter (fun _ => true) = List.range nw := List.filter_eq_self.mpr fun _ _ => rfl
  simp (implicitDefEqProofs := false) [hs, ft, Function.comp_def]
  rw [dc_filter (val := fun (w : Nat) => .tup [PV.int w, wtV m t w]) (p := fun w => isSaid (wtsOf m.ch t w)) (key := fun (i : Nat) => PV.int i) (res := wtV m t)]
  · simp (implicitDefEqProofs := false) [hs, saidD, natD, saidL]
  · intro w hw
    have sd := said_ok M (n := n + 2) (fuel := fuel) (h := []) (x := wtsOf m.ch t w) (by rw [wts_len K R]; omega)
    refine ⟨rfl, _, rfl, ?_⟩
    cases c : isSaid (wtsOf m.ch t w) with
    | true => rw [c] at sd; simp (implicitDefEqProofs := false) [dcP, wtV, sd]
    | false => rw [c] at sd; simp (implicitDefEqProofs := false) [dcP, wtV, sd]
  · intro _ _ q hq; cases hq
  · exact pw_nat _ List.nodup_range
end
end Sw

end

section
/-! The act that is done, in two ways. -/
namespace Sw
def Lx (g w : Nat → Rat) (a b : Nat) : Prop := g a < g b ∨ (g a = g b ∧ w a < w b)
instance (g w : Nat → Rat) (a b : Nat) : Decidable (Lx g w a b) := inferInstanceAs (Decidable (_ ∨ _))
structure IsBest (g w : Nat → Rat) (na a : Nat) : Prop where
  lt : a < na
  top : ∀ b, b < na → ¬ Lx g w a b
  fst : ∀ b, b < a → Lx g w b a
theorem IsBest.uniq {g w : Nat → Rat} {na a b : Nat} (ha : IsBest g w na a) (hb : IsBest g w na b) : a = b := by
  rcases Nat.lt_trichotomy a b with c | c | c
  · exact absurd (hb.fst a c) (ha.top b hb.lt)
  · exact c
  · exact absurd (ha.fst b c) (hb.top a ha.lt)
/-! by the law -/
def doneStep (g w : Nat → Rat) (top a : Nat) : Nat := if Lx g w top a then a else top
theorem done_best (g w : Nat → Rat) : ∀ n, IsBest g w (n + 1) ((List.range' 1 n).foldl (doneStep g w) 0)
  | 0 => ⟨by simp, fun b hb => by
      obtain rfl : b = 0 := by omega
      simp only [List.range'_zero, List.foldl_nil, Lx]
      grind, fun b hb => by simp at hb⟩
  | n + 1 => by
    have ih := done_best g w n
    rw [List.range'_1_concat, List.foldl_append]
    simp only [List.foldl_cons, List.foldl_nil]
    generalize (List.range' 1 n).foldl (doneStep g w) 0 = c at ih
    unfold doneStep
    have e : 1 + n = n + 1 := by omega
    rw [e]
    by_cases q : Lx g w c (n + 1)
    · rw [if_pos q]
      refine ⟨by omega, fun b hb => ?_, fun b hb => ?_⟩
      · rcases Nat.lt_or_ge b (n + 1) with z | z
        · have := ih.top b z
          unfold Lx at *
          grind
        · obtain rfl : b = n + 1 := by omega
          unfold Lx
          grind
      · have := ih.top b hb
        unfold Lx at *
        grind
    · rw [if_neg q]
      refine ⟨by have := ih.lt; omega, fun b hb => ?_, ih.fst⟩
      rcases Nat.lt_or_ge b (n + 1) with z | z
      · exact ih.top b z
      · obtain rfl : b = n + 1 := by omega
        exact q
/-! by the program -/
theorem fold_max (l : List Rat) : ∀ i : Rat, (∀ x ∈ l, x ≤ l.foldl (fun m x => if m < x then x else m) i) ∧ i ≤ l.foldl (fun m x => if m < x then x else m) i ∧ (l.foldl (fun m x => if m < x then x else m) i = i ∨ l.foldl (fun m x => if m < x then x else m) i ∈ l) := by
  induction l with
  | nil => intro i; simp [Rat.le_refl]
  | cons a r ih =>
    intro i
    simp only [List.foldl_cons]
    obtain ⟨h1, h2, h3⟩ := ih (if i < a then a else i)
    generalize List.foldl (fun m x => if m < x then x else m) (if i < a then a else i) r = f at h1 h2 h3
    refine ⟨fun x hx => ?_, ?_, ?_⟩
    · rcases List.mem_cons.mp hx with rfl | hx
      · split at h2 <;> grind
      · exact h1 x hx
    · split at h2 <;> grind
    · rcases h3 with h3 | h3
      · split at h3
        · right; rw [h3]; exact List.mem_cons_self
        · left; exact h3
      · right; exact List.mem_cons_of_mem _ h3
theorem topR_ok {g : Nat → Rat} {na : Nat} (hn : 1 ≤ na) : (∀ b, b < na → g b ≤ topR ((List.range na).map g)) ∧ ∃ a, a < na ∧ g a = topR ((List.range na).map g) := by
  unfold topR
  obtain ⟨h1, h2, h3⟩ := fold_max ((List.range na).map g) (((List.range na).map g).headD 0)
  refine ⟨fun b hb => h1 _ (List.mem_map.mpr ⟨b, List.mem_range.mpr hb, rfl⟩), ?_⟩
  rcases h3 with h3 | h3
  · rw [h3]
    obtain ⟨j, rfl⟩ : ∃ j, na = j + 1 := ⟨na - 1, by omega⟩
    exact ⟨0, by omega, by simp [List.range_succ_eq_map]⟩
  · obtain ⟨a, ha, e⟩ := List.mem_map.mp h3
    exact ⟨a, List.mem_range.mp ha, e⟩
def stepW (w : Nat → Rat) (b : Option Nat) (a : Nat) : Option Nat := match b with
  | none => some a
  | some c => if w c < w a then some a else some c
theorem fold_first (w : Nat → Rat) : ∀ (l pre : List Nat) (c : Nat), (pre ++ l).Pairwise (· < ·) → c ∈ pre → (∀ b ∈ pre, w b ≤ w c ∧ (b < c → w b < w c)) →
    ∃ d, l.foldl (stepW w) (some c) = some d ∧ d ∈ pre ++ l ∧ ∀ b ∈ pre ++ l, w b ≤ w d ∧ (b < d → w b < w d)
  | [], pre, c, hp, hc, hb => ⟨c, rfl, by simpa using hc, by simpa using hb⟩
  | a :: l, pre, c, hp, hc, hb => by
    have hlt : ∀ b ∈ pre, b < a := fun b hb' => (List.pairwise_append.mp hp).2.2 b hb' a List.mem_cons_self
    have hp2 : ((pre ++ [a]) ++ l).Pairwise (· < ·) := by simpa using hp
    simp only [List.foldl_cons, stepW]
    by_cases q : w c < w a
    · rw [if_pos q]
      obtain ⟨d, e1, e2, e3⟩ := fold_first w l (pre ++ [a]) a hp2 (by simp) (fun b hb' => by
        rcases List.mem_append.mp hb' with z | z
        · have := (hb b z).1
          exact ⟨by grind, fun _ => by grind⟩
        · simp at z; subst z; exact ⟨Rat.le_refl, fun z => by omega⟩)
      exact ⟨d, e1, by simpa using e2, by simpa using e3⟩
    · rw [if_neg q]
      obtain ⟨d, e1, e2, e3⟩ := fold_first w l (pre ++ [a]) c hp2 (by simp [hc]) (fun b hb' => by
        rcases List.mem_append.mp hb' with z | z
        · exact hb b z
        · simp at z; subst z; exact ⟨by grind, fun z => by have := hlt c hc; omega⟩)
      exact ⟨d, e1, by simpa using e2, by simpa using e3⟩
theorem by_best {g w : Nat → Rat} {na : Nat} (hn : 1 ≤ na) : ∃ a, ((List.range na).filter fun a => decide (g a = topR ((List.range na).map g))).foldl (stepW w) none = some a ∧ IsBest g w na a := by
  obtain ⟨h1, a0, ha0, ea0⟩ := topR_ok (g := g) hn
  generalize topR ((List.range na).map g) = tp at h1 ea0 ⊢
  have hm : ∀ b, b ∈ ((List.range na).filter fun a => decide (g a = tp)) ↔ b < na ∧ g b = tp := fun b => by simp
  have hs : ((List.range na).filter fun a => decide (g a = tp)).Pairwise (· < ·) := List.Pairwise.filter _ List.pairwise_lt_range
  generalize ((List.range na).filter fun a => decide (g a = tp)) = L at hm hs
  cases L with
  | nil => exact absurd ((hm a0).mpr ⟨ha0, ea0⟩) (by simp)
  | cons c l =>
    obtain ⟨d, e1, e2, e3⟩ := fold_first w l [c] c (by simpa using hs) (by simp) (fun b hb => by
      simp at hb; subst hb; exact ⟨Rat.le_refl, fun z => by omega⟩)
    refine ⟨d, by simpa [stepW] using e1, ?_⟩
    have hd := (hm d).mp (by simpa using e2)
    refine ⟨hd.1, fun b hb => ?_, fun b hb => ?_⟩
    · have := h1 b hb
      unfold Lx
      by_cases z : g b = tp
      · have := (e3 b (by simpa using (hm b).mpr ⟨hb, z⟩)).1
        grind
      · grind
    · have hbn : b < na := by omega
      have := h1 b hbn
      unfold Lx
      by_cases z : g b = tp
      · have := (e3 b (by simpa using (hm b).mpr ⟨hbn, z⟩)).2 hb
        grind
      · grind
def lawDone (m : Mt) (x : List Rat) (na : Nat) : Nat := (List.range' 1 (na - 1)).foldl (doneStep (cnt x m.gs) (cnt x m.ws)) 0
theorem actBy_done {m : Mt} {x : List Rat} {na : Nat} (hn : 1 ≤ na) : actBy m x na = some (lawDone m x na) ∧ lawDone m x na < na := by
  obtain ⟨a, e, hb⟩ := by_best (g := cnt x m.gs) (w := cnt x m.ws) hn
  have hd := done_best (cnt x m.gs) (cnt x m.ws) (na - 1)
  rw [show na - 1 + 1 = na by omega] at hd
  have := hb.uniq hd
  subst this
  exact ⟨e, hd.lt⟩
end Sw

end

section
/-! Tellings: the verdicts. -/
namespace Sw
open PySem (Str)
theorem sum_nn : ∀ {x : List Rat}, (∀ q ∈ x, 0 ≤ q) → 0 ≤ x.sum
  | [], _ => by simp [Rat.le_refl]
  | a :: r, h => by
    have h1 := h a List.mem_cons_self
    have h2 := sum_nn (x := r) fun q hq => h q (List.mem_cons_of_mem _ hq)
    rw [List.sum_cons]
    grind
theorem said_sum : ∀ {x : List Rat}, (∀ q ∈ x, 0 ≤ q) → (isSaid x = true ↔ 0 < x.sum)
  | [], _ => by simp [isSaid]
  | a :: r, h => by
    have h1 := h a List.mem_cons_self
    have h2 := sum_nn (x := r) fun q hq => h q (List.mem_cons_of_mem _ hq)
    have ih := said_sum (x := r) fun q hq => h q (List.mem_cons_of_mem _ hq)
    rw [List.sum_cons]
    have e : isSaid (a :: r) = (decide (0 < a) || isSaid r) := rfl
    rw [e, Bool.or_eq_true, decide_eq_true_eq, ih]
    grind
def belV (x : List Rat) : PV := if isSaid x then pvR (x.map (· / x.sum)) else .non
def actV (m : Mt) (x : List Rat) (na : Nat) : PV := if isSaid x then .int (lawDone m x na) else .non
def valR (m : Mt) (t : List (List Rat)) (nw na : Nat) (rows : List (List Int)) : Rat := ((saidL m t nw).map fun w => cnt (wtsOf m.ch t w) rows (lawDone m (wtsOf m.ch t w) na)).sum
section
variable {T : Tab} {n fuel : Nat} {h : Store} {m : Mt} {na nw : Nat} {t : List (List Rat)}
theorem saidL_mem {w : Nat} : w ∈ saidL m t nw ↔ w < nw ∧ isSaid (wtsOf m.ch t w) = true := by simp [saidL]
theorem optI_done (K : MtOk m na) (x : List Rat) : optI (actBy m x na) = .int (lawDone m x na) := by
  rw [(actBy_done (m := m) (x := x) (na := na) (by have := K.al; omega)).1]
  rfl
theorem done_lt (K : MtOk m na) (x : List Rat) : lawDone m x na < na := (actBy_done (m := m) (x := x) (na := na) (by have := K.al; omega)).2
theorem beliefs_ok (M : Tels T) (hf : 16400 ≤ fuel) (K : MtOk m na) (R : TbR t m.ps.length nw) : callV (calls T fuel (n + 7)) 28 [m.obj, pvT t] h = .ok (.p (.lst ((List.range nw).map fun w => belV (wtsOf m.ch t w)))) h := by
  have pu := K.pu
  have wu := R.wu
  rw [callV_at M.f28 rfl]
  have lp := forGo_inv (b := evS T (calls T fuel (n + 6)) (.seq (.ite (.cmp .in_ (.var 4) (.var 2))
    (.seq (.append (.var 3) (.bi .tuple (.lc (.val (.idx (.var 2) (.var 4))) (.name 5) [5] (.pv (.bl true)) (.call 4 (.cons (.var 5) (.cons (.call 6 (.cons (.idx (.var 2) (.var 4)) .nil)) .nil)))))) .pass)
    (.seq (.append (.var 3) (.pv .non)) .pass)) .pass)) (t := .name 4) (val := fun (w : Nat) => PV.int w) (xs := List.range nw)
    (fun pre ρ h => ∃ o, ρ = [some (.p m.obj), some (.p (pvT t)), some (.p (saidD m t nw)), some (.loc 0), o, none] ∧ h = [.lst (pre.map fun w => belV (wtsOf m.ch t w))])
    (fun pre w post ρ h e ⟨o, hρ, hh⟩ => by
      subst hρ hh
      have hw : w < nw := List.mem_range.mp (by rw [e]; simp)
      have hpl : pre.length < nw := by
        have := congrArg List.length e
        simp at this
        omega
      have hps : pre.length < sizeMax := by unfold sizeMax; omega
      refine ⟨_, [some (.p m.obj), some (.p (pvT t)), some (.p (saidD m t nw)), some (.loc 0), some (.p (.int w)), none], [.lst ((pre ++ [w]).map fun w => belV (wtsOf m.ch t w))], rfl, ?_, ⟨_, rfl, rfl⟩⟩
      have ein : cmp2 .in_ (.int w) (saidD m t nw) = some (decide (w ∈ saidL m t nw)) := in_nat _
      by_cases q : w ∈ saidL m t nw
      · have hsd := (saidL_mem.mp q).2
        have hl := wts_len K R (w := w)
        have hs : m.ps.length ≤ sizeMax := by unfold sizeMax; omega
        have hx : idx2 (saidD m t nw) (.int w) = some (wtV m t w) := idx_nat q
        have hnn := wts_nn K R hw
        have hsum := (said_sum hnn).mp hsd
        have sm := wts_sm K R hw
        have tot := fun h => total_ok M.toNums hf (n := n + 3) (h := h) (l := wtsOf m.ch t w) (k := 13) sm (by rw [hl]; omega)
        have ssm := Sm.sum sm
        rw [hl] at ssm
        have ew : wtV m t w = .lst ((wtsOf m.ch t w).map frac) := rfl
        have it : itemsOf (wtV m t w) = some ((wtsOf m.ch t w).map frac) := rfl
        have c1 := lc_map (f := lcP T (calls T fuel (n + 6)) (.pv (.bl true)) (.call 4 (.cons (.var 5) (.cons (.call 6 (.cons (.idx (.var 2) (.var 4)) .nil)) .nil)))) (t := .name 5) (ρ := [some (.p m.obj), some (.p (pvT t)), some (.p (saidD m t nw)), some (.loc 0), some (.p (.int w)), none]) (val := frac) (res := fun x => frac (x / (wtsOf m.ch t w).sum)) (h := [.lst (pre.map fun w => belV (wtsOf m.ch t w))]) (xs := wtsOf m.ch t w) (acc := []) fun v hv =>
          ⟨_, rfl, by
            have ov := over_ok M.toNums hf (n := n + 4) (h := [.lst (pre.map fun w => belV (wtsOf m.ch t w))]) (sm v hv) ssm (by grind) (by
              have := Nat.mul_le_mul_right (13 + 1) pu
              omega)
            have t2 := tot [.lst (pre.map fun w => belV (wtsOf m.ch t w))]
            rw [← ew] at t2
            simp (implicitDefEqProofs := false) [lcP, hx, t2, ov]⟩
        simp (implicitDefEqProofs := false) only [List.nil_append] at c1
        have eb : belV (wtsOf m.ch t w) = .tup ((wtsOf m.ch t w).map fun x => frac (x / (wtsOf m.ch t w).sum)) := by simp [belV, hsd, pvR, Function.comp_def]
        simp (implicitDefEqProofs := false) [ein, q, isLst, hx, it, c1, hl, hs, appV, hps, eb]
      · have hsd : isSaid (wtsOf m.ch t w) = false := by
          cases z : isSaid (wtsOf m.ch t w) with
          | false => rfl
          | true => exact absurd (saidL_mem.mpr ⟨hw, z⟩) q
        simp (implicitDefEqProofs := false) [ein, q, isLst, appV, hps, belV, hsd])
    (ρ := [some (.p m.obj), some (.p (pvT t)), some (.p (saidD m t nw)), some (.loc 0), none, none]) (h := [.lst []]) ⟨_, rfl, rfl⟩
  obtain ⟨ρ', h', e1, o, e2, e3⟩ := lp
  subst e2 e3
  have s0 : (0 : Nat) ≤ sizeMax := by decide
  simp (implicitDefEqProofs := false) only [tb28, startE, List.map_cons, List.map_nil]
  simp (implicitDefEqProofs := false) [checkTable_ok M.toMats hf K R (n := n + 1), saidWords_ok M hf K R (n := n + 2), setAll, s0, words_ok M K R (n := n + 5), rgL, e1, finV, fz, toP]
theorem actsAfter_ok (M : Tels T) (hf : 16400 ≤ fuel) (K : MtOk m na) (R : TbR t m.ps.length nw) : callV (calls T fuel (n + 7)) 29 [m.obj, pvT t] h = .ok (.p (.lst ((List.range nw).map fun w => actV m (wtsOf m.ch t w) na))) h := by
  have pu := K.pu
  have wu := R.wu
  have hs : nw ≤ sizeMax := by unfold sizeMax; omega
  rw [callV_at M.f29 rfl]
  simp (implicitDefEqProofs := false) only [tb29, startE, List.map_cons, List.map_nil]
  simp (implicitDefEqProofs := false) [checkTable_ok M.toMats hf K R (n := n + 1), saidWords_ok M hf K R (n := n + 2), words_ok M K R (n := n + 5), rgL]
  rw [lc_map (val := fun (w : Nat) => PV.int w) (res := fun w => actV m (wtsOf m.ch t w) na)]
  · simp (implicitDefEqProofs := false) [hs]
  · intro w hw
    have hw := List.mem_range.mp hw
    have ein : cmp2 .in_ (.int w) (saidD m t nw) = some (decide (w ∈ saidL m t nw)) := in_nat _
    refine ⟨_, rfl, ?_⟩
    by_cases q : w ∈ saidL m t nw
    · have hsd := (saidL_mem.mp q).2
      have hx : idx2 (saidD m t nw) (.int w) = some (wtV m t w) := idx_nat q
      have ab := actBy_ok M.toMats hf K (n := n) (h := []) (wts_sm K R hw) (by rw [wts_len K R]; omega) (by omega)
      rw [optI_done K] at ab
      simp (implicitDefEqProofs := false) [lcP, ein, q, hx, wtV, ab, actV, hsd]
    · have hsd : isSaid (wtsOf m.ch t w) = false := by
        cases z : isSaid (wtsOf m.ch t w) with
        | false => rfl
        | true => exact absurd (saidL_mem.mpr ⟨hw, z⟩) q
      simp (implicitDefEqProofs := false) [lcP, ein, q, actV, hsd]
theorem saidL_len : (saidL m t nw).length ≤ nw := by
  have := List.length_filter_le (fun w => isSaid (wtsOf m.ch t w)) (List.range nw)
  rw [List.length_range] at this
  exact this
theorem val_sm (K : MtOk m na) (R : TbR t m.ps.length nw) (rows : List (List Int)) (hr : ∀ r ∈ rows, ∀ z ∈ r, -9 ≤ z ∧ z ≤ 9) : ∀ q ∈ (saidL m t nw).map (fun w => cnt (wtsOf m.ch t w) rows (lawDone m (wtsOf m.ch t w) na)), Sm 73 q := fun q hq => by
  obtain ⟨w, hw, rfl⟩ := List.mem_map.mp hq
  exact cnt_sm (wts_sm K R (saidL_mem.mp hw).1) hr (by rw [wts_len K R]; exact K.pu)
theorem worth_ok (M : Tels T) (hf : 16400 ≤ fuel) (K : MtOk m na) (R : TbR t m.ps.length nw) : callV (calls T fuel (n + 7)) 30 [m.obj, pvT t] h = .ok (.p (frac (valR m t nw na m.ws))) h := by
  have pu := K.pu
  have wu := R.wu
  have sl := saidL_len (m := m) (t := t) (nw := nw)
  have hs : (saidL m t nw).length ≤ sizeMax := by unfold sizeMax; omega
  rw [callV_at M.f30 rfl]
  simp (implicitDefEqProofs := false) only [tb30, startE, List.map_cons, List.map_nil]
  simp (implicitDefEqProofs := false) [checkTable_ok M.toMats hf K R (n := n + 1), saidWords_ok M hf K R (n := n + 2), saidD, natD, Function.comp_def]
  rw [lc_map (val := wtV m t) (res := fun w => frac (cnt (wtsOf m.ch t w) m.ws (lawDone m (wtsOf m.ch t w) na)))]
  · have := total_ok M.toNums hf (n := n + 3) (h := []) (l := (saidL m t nw).map (fun w => cnt (wtsOf m.ch t w) m.ws (lawDone m (wtsOf m.ch t w) na))) (k := 73) (val_sm K R m.ws fun r hr z hz => by have := (K.wr r hr).2 z hz; omega) (by
      rw [List.length_map]
      have := Nat.mul_le_mul_right (73 + 1) (Nat.le_trans sl wu)
      omega)
    rw [List.map_map] at this
    simp only [Function.comp_def] at this
    simp (implicitDefEqProofs := false) [hs, this, valR]
  · intro w hw
    have hw := saidL_mem.mp hw
    have ab := actBy_ok M.toMats hf K (n := n) (h := []) (wts_sm K R hw.1) (by rw [wts_len K R]; omega) (by omega)
    rw [optI_done K] at ab
    have sb := summed_ok M.toMats hf (n := n + 2) (h := []) (wts_sm K R hw.1) (K.wB (done_lt K (wtsOf m.ch t w))) (by rw [wts_len K R]; omega) (by omega)
    exact ⟨_, rfl, by simp (implicitDefEqProofs := false) [lcP, wtV, fld_aims M.toMats, ab, sb]⟩
theorem gain_ok (M : Tels T) (hf : 16400 ≤ fuel) (K : MtOk m na) (R : TbR t m.ps.length nw) : callV (calls T fuel (n + 7)) 31 [m.obj, pvT t] h = .ok (.p (frac (valR m t nw na m.gs))) h := by
  have pu := K.pu
  have wu := R.wu
  have sl := saidL_len (m := m) (t := t) (nw := nw)
  have hs : (saidL m t nw).length ≤ sizeMax := by unfold sizeMax; omega
  rw [callV_at M.f31 rfl]
  simp (implicitDefEqProofs := false) only [tb31, startE, List.map_cons, List.map_nil]
  simp (implicitDefEqProofs := false) [checkTable_ok M.toMats hf K R (n := n + 1), saidWords_ok M hf K R (n := n + 2), saidD, natD, Function.comp_def]
  rw [lc_map (val := wtV m t) (res := fun w => frac (cnt (wtsOf m.ch t w) m.gs (lawDone m (wtsOf m.ch t w) na)))]
  · have := total_ok M.toNums hf (n := n + 3) (h := []) (l := (saidL m t nw).map (fun w => cnt (wtsOf m.ch t w) m.gs (lawDone m (wtsOf m.ch t w) na))) (k := 73) (val_sm K R m.gs fun r hr z hz => (K.gr r hr).2 z hz) (by
      rw [List.length_map]
      have := Nat.mul_le_mul_right (73 + 1) (Nat.le_trans sl wu)
      omega)
    rw [List.map_map] at this
    simp only [Function.comp_def] at this
    simp (implicitDefEqProofs := false) [hs, this, valR]
  · intro w hw
    have hw := saidL_mem.mp hw
    have ab := actBy_ok M.toMats hf K (n := n) (h := []) (wts_sm K R hw.1) (by rw [wts_len K R]; omega) (by omega)
    rw [optI_done K] at ab
    have sb := summed_ok M.toMats hf (n := n + 2) (h := []) (wts_sm K R hw.1) (K.gB (done_lt K (wtsOf m.ch t w))) (by rw [wts_len K R]; omega) (by omega)
    exact ⟨_, rfl, by simp (implicitDefEqProofs := false) [lcP, wtV, fld_own M.toMats, ab, sb]⟩
end
end Sw

end

section
/-! Tellings: swerves; the two plain tables. -/
namespace Sw
open PySem (Str)
def pk (p : Nat × Nat) : PV := .tup [.int p.1, .int p.2]
def prD (L : List (Nat × Nat)) (v : Nat × Nat → PV) : List (PV × PV) := L.map fun p => (pk p, v p)
theorem eqv_pk (p q : Nat × Nat) : PV.eqv (pk p) (pk q) = decide (p = q) := by
  have z : ∀ a b : Nat, (((a : Int)) == (b : Int)) = decide (a = b) := fun a b => by
    by_cases c : a = b
    · simp [c]
    · have : ¬ ((a : Int) = b) := by omega
      simp [c, this]
  obtain ⟨a, b⟩ := p
  obtain ⟨c, d⟩ := q
  simp only [pk, PV.eqv, PV.eqvAll, z]
  by_cases h1 : a = c <;> by_cases h2 : b = d <;> simp [h1, h2]
theorem kind_pk (p : Nat × Nat) : (pk p).keyKind = some .deep := by
  obtain ⟨a, b⟩ := p
  rfl
theorem fits_pk (L : List (Nat × Nat)) (v : Nat × Nat → PV) (p : Nat × Nat) : keyFits (prD L v) (pk p) = true := by
  unfold keyFits
  rw [kind_pk]
  cases L with
  | nil => rfl
  | cons q r =>
    have : kindOf (prD (q :: r) v) = some .deep := kind_pk q
    simp only [this]
    rfl
theorem put_pk {L : List (Nat × Nat)} {v : Nat × Nat → PV} {p : Nat × Nat} (h : p ∉ L) : dPut (prD L v) (pk p) (v p) = prD (L ++ [p]) v := by
  rw [dPut_new]
  · simp [prD]
  · intro q hq
    obtain ⟨r, hr, rfl⟩ := List.mem_map.mp hq
    rw [eqv_pk, decide_eq_false_iff_not]
    exact fun e => h (e ▸ hr)
theorem find_pk {v : Nat × Nat → PV} {p : Nat × Nat} : ∀ {L : List (Nat × Nat)}, p ∈ L → dFind (prD L v) (pk p) = some (v p)
  | [], h => by cases h
  | q :: r, h => by
    simp only [prD, List.map_cons, dFind, eqv_pk]
    by_cases e : q = p
    · subst e; simp
    · have : p ∈ r := by
        rcases List.mem_cons.mp h with z | z
        · exact absurd z.symm e
        · exact z
      have ih := find_pk (v := v) this
      simp only [prD] at ih
      simp [e, ih]
theorem eq_prD {L : List (Nat × Nat)} {v : Nat × Nat → Rat} (h : L ≠ []) : cmp2 .eq (.dct (prD L fun p => frac (v p))) (.dct (prD L fun p => frac (v p))) = some true := by
  have k1 : kindOf (prD L fun p => frac (v p)) = some .deep := by
    cases L with
    | nil => exact absurd rfl h
    | cons q r => exact kind_pk q
  have e1 : ((prD L fun p => frac (v p)).all fun p => eqOk p.2 p.2) = true := by
    rw [List.all_eq_true]
    intro q hq
    obtain ⟨r, hr, rfl⟩ := List.mem_map.mp hq
    simp [eqOk, plain_frac, depth_frac]
  have e2 : dictOk (prD L fun p => frac (v p)) (prD L fun p => frac (v p)) = true := by
    simp only [dictOk, k1, e1]
    rfl
  have e3 : dictEq (prD L fun p => frac (v p)) (prD L fun p => frac (v p)) = true := by
    simp only [dictEq, beq_self_eq_true, Bool.true_and, List.all_eq_true]
    intro q hq
    obtain ⟨r, hr, rfl⟩ := List.mem_map.mp hq
    simp only [pairEq]
    rw [find_pk (v := fun p => frac (v p)) hr]
    show PV.eqv (frac (v r)) (frac (v r)) = true
    rw [eqv_frac]
    simp
  simp only [cmp2, eqPV, e2, e3, if_true]
theorem ne_prD {L : List (Nat × Nat)} {v : Nat × Nat → Rat} (h : L ≠ []) : cmp2 .ne (.dct (prD L fun p => frac (v p))) (.dct (prD L fun p => frac (v p))) = some false := by
  have := eq_prD (v := v) h
  simp only [cmp2] at this ⊢
  rw [this]
  rfl
/-! ### mirror -/
def swvR (m : Mt) (t : List (List Rat)) (na : Nat) (p : Nat × Nat) : Rat := cnt (wtsOf m.ch t p.1) m.gs (lawDone m (wtsOf m.ch t p.1) na) - cnt (wtsOf m.ch t p.1) m.gs p.2
def pairsW (m : Mt) (t : List (List Rat)) (na w : Nat) : List (Nat × Nat) := ((List.range na).filter fun a => decide (a ≠ lawDone m (wtsOf m.ch t w) na)).map fun a => (w, a)
def swL (m : Mt) (t : List (List Rat)) (nw na : Nat) : List (Nat × Nat) := (saidL m t nw).flatMap (pairsW m t na)
theorem pairsW_fst {m : Mt} {t : List (List Rat)} {na w : Nat} {p : Nat × Nat} (h : p ∈ pairsW m t na w) : p.1 = w ∧ p.2 < na := by
  obtain ⟨a, ha, rfl⟩ := List.mem_map.mp h
  exact ⟨rfl, List.mem_range.mp (List.mem_filter.mp ha).1⟩
theorem filter_len {α : Type} (p : α → Bool) (l : List α) : (l.filter p).length ≤ l.length := List.length_filter_le p l
theorem flat_len {m : Mt} {t : List (List Rat)} {na : Nat} : ∀ l : List Nat, (l.flatMap (pairsW m t na)).length ≤ l.length * na
  | [] => by simp
  | a :: r => by
    have ih := flat_len (m := m) (t := t) (na := na) r
    have : (pairsW m t na a).length ≤ na := by
      unfold pairsW
      rw [List.length_map]
      have := filter_len (fun b => decide (b ≠ lawDone m (wtsOf m.ch t a) na)) (List.range na)
      rwa [List.length_range] at this
    rw [List.flatMap_cons, List.length_append, List.length_cons, Nat.add_mul]
    omega
section
variable {T : Tab} {n fuel : Nat} {h : Store} {m : Mt} {na nw : Nat} {t : List (List Rat)}
theorem swerves_ok (M : Tels T) (hf : 16400 ≤ fuel) (K : MtOk m na) (R : TbR t m.ps.length nw) : callV (calls T fuel (n + 7)) 32 [m.obj, pvT t] h = .ok (.p (.dct (prD (swL m t nw na) fun p => frac (swvR m t na p)))) h := by
  have pu := K.pu
  have wu := R.wu
  have au := K.au
  have sll := saidL_len (m := m) (t := t) (nw := nw)
  have snd : (saidL m t nw).Nodup := List.Pairwise.filter _ List.nodup_range
  rw [callV_at M.f32 rfl]
  have lp := forGo_inv (b := evS T (calls T fuel (n + 6)) (.seq (.set 5 (.call 24 (.cons (.var 0) (.cons (.var 4) .nil))))
    (.seq (.for_ (.val (.call 17 (.cons (.var 0) .nil))) (.name 6)
    (.seq (.ite (.cmp .ne (.var 6) (.var 5))
    (.seq (.iset (.var 2) (.tup (.cons (.var 3) (.cons (.var 6) .nil))) (.call 2 (.cons (.call 22 (.cons (.var 4) (.cons (.fld (.var 0) 4) (.cons (.var 5) .nil)))) (.cons (.call 22 (.cons (.var 4) (.cons (.fld (.var 0) 4) (.cons (.var 6) .nil)))) .nil)))) .pass)
    .pass) .pass)) .pass))) (t := .tup (.cons (.name 3) (.cons (.name 4) .nil))) (val := fun (w : Nat) => .tup [PV.int w, wtV m t w]) (xs := saidL m t nw)
    (fun pre ρ h => ∃ o3 o4 o5 o6, ρ = [some (.p m.obj), some (.p (pvT t)), some (.loc 0), o3, o4, o5, o6] ∧ h = [.dct (prD (pre.flatMap (pairsW m t na)) fun p => frac (swvR m t na p))])
    (fun pre w post ρ h e ⟨o3, o4, o5, o6, hρ, hh⟩ => by
      subst hρ hh
      have hwm : w ∈ saidL m t nw := by rw [e]; simp
      have hw := saidL_mem.mp hwm
      have hnp : w ∉ pre := fun z => by
        rw [e] at snd
        have := (List.nodup_append.mp snd).2.2 w z w List.mem_cons_self
        exact this rfl
      have hpl : pre.length ≤ 4 := by
        have := congrArg List.length e
        simp at this
        omega
      have hfl := flat_len (m := m) (t := t) (na := na) pre
      have ab := fun h => actBy_ok M.toMats hf K (n := n) (h := h) (wts_sm K R hw.1) (by rw [wts_len K R]; omega) (by omega)
      rw [optI_done K] at ab
      have dl := done_lt K (wtsOf m.ch t w)
      have sd := fun h => summed_ok M.toMats hf (n := n + 2) (h := h) (wts_sm K R hw.1) (K.gB dl) (by rw [wts_len K R]; omega) (by omega)
      have lp2 := forGo_inv (b := evS T (calls T fuel (n + 6)) (.seq (.ite (.cmp .ne (.var 6) (.var 5))
        (.seq (.iset (.var 2) (.tup (.cons (.var 3) (.cons (.var 6) .nil))) (.call 2 (.cons (.call 22 (.cons (.var 4) (.cons (.fld (.var 0) 4) (.cons (.var 5) .nil)))) (.cons (.call 22 (.cons (.var 4) (.cons (.fld (.var 0) 4) (.cons (.var 6) .nil)))) .nil)))) .pass)
        .pass) .pass)) (t := .name 6) (val := fun (a : Nat) => PV.int a) (xs := List.range na)
        (fun pr ρ h => ∃ o6, ρ = [some (.p m.obj), some (.p (pvT t)), some (.loc 0), some (.p (.int w)), some (.p (wtV m t w)), some (.p (.int (lawDone m (wtsOf m.ch t w) na))), o6] ∧ h = [.dct (prD (pre.flatMap (pairsW m t na) ++ (pr.filter fun a => decide (a ≠ lawDone m (wtsOf m.ch t w) na)).map fun a => (w, a)) fun p => frac (swvR m t na p))])
        (fun pr a po ρ h e ⟨o6, hρ, hh⟩ => by
          subst hρ hh
          have ha : a < na := List.mem_range.mp (by rw [e]; simp)
          have hap : a ∉ pr := fun z => by
            have nd : (List.range na).Nodup := List.nodup_range
            rw [e] at nd
            exact (List.nodup_append.mp nd).2.2 a z a List.mem_cons_self rfl
          have hprl : pr.length ≤ 4 := by
            have := congrArg List.length e
            simp at this
            omega
          refine ⟨_, [some (.p m.obj), some (.p (pvT t)), some (.loc 0), some (.p (.int w)), some (.p (wtV m t w)), some (.p (.int (lawDone m (wtsOf m.ch t w) na))), some (.p (.int a))], [.dct (prD (pre.flatMap (pairsW m t na) ++ ((pr ++ [a]).filter fun a => decide (a ≠ lawDone m (wtsOf m.ch t w) na)).map fun a => (w, a)) fun p => frac (swvR m t na p))], rfl, ?_, ⟨_, rfl, rfl⟩⟩
          by_cases c : a = lawDone m (wtsOf m.ch t w) na
          · have c2 : (a : Int) = (lawDone m (wtsOf m.ch t w) na : Nat) := by omega
            simp (implicitDefEqProofs := false) [c, List.filter_append]
          · have c2 : ¬ ((a : Int) = (lawDone m (wtsOf m.ch t w) na : Nat)) := by omega
            have sa := fun h => summed_ok M.toMats hf (n := n + 2) (h := h) (wts_sm K R hw.1) (K.gB ha) (by rw [wts_len K R]; omega) (by omega)
            have cs : ∀ a, a < na → Sm 73 (cnt (wtsOf m.ch t w) m.gs a) := fun a ha => cnt_sm (wts_sm K R hw.1) (fun r hr => (K.gB ha r hr).2) (by rw [wts_len K R]; omega)
            have mi := fun h => minus_ok M.toNums hf (n := n + 4) (h := h) (cs _ dl) (cs a ha) (by omega)
            generalize hL : pre.flatMap (pairsW m t na) ++ (pr.filter fun a => decide (a ≠ lawDone m (wtsOf m.ch t w) na)).map (fun a => (w, a)) = L
            have hpn : (w, a) ∉ L := by
              rw [← hL]
              intro z
              rcases List.mem_append.mp z with z | z
              · obtain ⟨w', hw', hz⟩ := List.mem_flatMap.mp z
                have e0 : w = w' := (pairsW_fst hz).1
                exact hnp (e0 ▸ hw')
              · obtain ⟨a', ha', ez⟩ := List.mem_map.mp z
                cases ez
                exact hap (List.mem_filter.mp ha').1
            have hLl : L.length < sizeMax := by
              rw [← hL, List.length_append, List.length_map]
              have := filter_len (fun a => decide (a ≠ lawDone m (wtsOf m.ch t w) na)) pr
              have := Nat.mul_le_mul hpl au
              unfold sizeMax
              omega
            have hLl2 : (prD L fun p => frac (swvR m t na p)).length < sizeMax := by simpa [prD] using hLl
            have pt := put_pk (v := fun p => frac (swvR m t na p)) hpn
            have ft := fits_pk L (fun p => frac (swvR m t na p)) (w, a)
            have ek : PV.tup [.int w, .int a] = pk (w, a) := rfl
            have ev : frac (cnt (wtsOf m.ch t w) m.gs (lawDone m (wtsOf m.ch t w) na) - cnt (wtsOf m.ch t w) m.gs a) = frac (swvR m t na (w, a)) := rfl
            have s2 : (2 : Nat) ≤ sizeMax := by decide
            have eL : pre.flatMap (pairsW m t na) ++ ((pr ++ [a]).filter fun a => decide (a ≠ lawDone m (wtsOf m.ch t w) na)).map (fun a => (w, a)) = L ++ [(w, a)] := by
              rw [← hL]
              simp [List.filter_append, c]
            rw [eL]
            simp (implicitDefEqProofs := false) [c2, wtV, fld_own M.toMats, sd, sa, mi, s2, ek, ev, isetV, ft, hLl2, pt])
        (ρ := [some (.p m.obj), some (.p (pvT t)), some (.loc 0), some (.p (.int w)), some (.p (wtV m t w)), some (.p (.int (lawDone m (wtsOf m.ch t w) na))), o6]) (h := [.dct (prD (pre.flatMap (pairsW m t na)) fun p => frac (swvR m t na p))]) ⟨_, rfl, by simp⟩
      obtain ⟨ρ', h', e1, o, e2, e3⟩ := lp2
      subst e2 e3
      refine ⟨_, _, _, rfl, ?_, ⟨some (.p (.int w)), some (.p (wtV m t w)), some (.p (.int (lawDone m (wtsOf m.ch t w) na))), o, rfl, rfl⟩⟩
      have ew : wtV m t w = .lst ((wtsOf m.ch t w).map frac) := rfl
      rw [ew] at e1
      simp (implicitDefEqProofs := false) [ew, ab, acts_ok M.toMats K (n := n + 4), rgL, e1, pairsW])
    (ρ := [some (.p m.obj), some (.p (pvT t)), some (.loc 0), none, none, none, none]) (h := [.dct []]) ⟨_, _, _, _, rfl, rfl⟩
  obtain ⟨ρ', h', e1, o3, o4, o5, o6, e2, e3⟩ := lp
  subst e2 e3
  simp (implicitDefEqProofs := false) only [tb32, startE, List.map_cons, List.map_nil]
  simp (implicitDefEqProofs := false) [checkTable_ok M.toMats hf K R (n := n + 1), saidWords_ok M hf K R (n := n + 2), saidD, natD, Function.comp_def, e1, finV, fz, toP, swL]
end
end Sw

end

section
/-! The two plain tables; the laws' own fractions and cells. -/
namespace Sw
open PySem (Str)
def wholeT (k : Nat) : List (List Rat) := (List.range k).map fun c => (List.range k).map fun o => if o = c then 1 else 0
def silentT (k : Nat) : List (List Rat) := List.replicate k [1]
theorem frac_01 (b : Prop) [Decidable b] : PV.tup [(if b then PV.int 1 else PV.int 0), .int 1] = frac (if b then 1 else 0) := by split <;> rfl
theorem pvT_whole (k : Nat) : PV.tup ((List.range k).map fun c => PV.tup ((List.range k).map fun o => frac (if o = c then 1 else 0))) = pvT (wholeT k) := by
  simp [pvT, wholeT, pvR, Function.comp_def]
section
variable {T : Tab} {n fuel : Nat} {h : Store} {m : Mt} {na nw : Nat} {t : List (List Rat)}
theorem whole_ok (M : Tels T) (K : MtOk m na) : callV (calls T fuel (n + 2)) 33 [m.obj] h = .ok (.p (pvT (wholeT m.ps.length))) h := by
  have pu := K.pu
  have hs : m.ps.length ≤ sizeMax := by unfold sizeMax; omega
  have rg := fun h => rg_nat (n := m.ps.length) (h := h) (by omega)
  have s2 : (2 : Nat) ≤ sizeMax := by decide
  rw [callV_at M.f33 rfl]
  simp (implicitDefEqProofs := false) only [tb33, startE, List.map_cons, List.map_nil]
  simp (implicitDefEqProofs := false) only [evS_seq, evS_expr, evE_call, evL_cons, evL_nil, evE_var, evS_retV, evE_bi, evE_lc, evI_range, evE_len]
  simp (implicitDefEqProofs := false) [-rgV_int, check_ok M.toMats (n := n), len_obj M.toMats K (n := n), rg]
  rw [lc_map (val := fun (i : Nat) => PV.int i) (res := fun c => PV.tup ((List.range m.ps.length).map fun o => frac (if o = c then 1 else 0)))]
  · simp (implicitDefEqProofs := false) [hs, pvT_whole]
  · intro c hc
    refine ⟨_, rfl, ?_⟩
    simp (implicitDefEqProofs := false) [-rgV_int, lcP, len_obj M.toMats K (n := n), rg]
    rw [lc_map (val := fun (i : Nat) => PV.int i) (res := fun o => frac (if o = c then 1 else 0))]
    · simp (implicitDefEqProofs := false) [hs]
    · intro o ho
      refine ⟨_, rfl, ?_⟩
      by_cases e : o = c
      · have e2 : (o : Int) = c := by omega
        simp (implicitDefEqProofs := false) [lcP, e2, s2, e]
        rfl
      · have e2 : ¬ ((o : Int) = c) := by omega
        simp (implicitDefEqProofs := false) [lcP, e2, s2, e]
        rfl
theorem silent_ok (M : Tels T) (K : MtOk m na) : callV (calls T fuel (n + 2)) 34 [m.obj] h = .ok (.p (pvT (silentT m.ps.length))) h := by
  have pu := K.pu
  have hs : m.ps.length ≤ sizeMax := by unfold sizeMax; omega
  have rg := fun h => rg_nat (n := m.ps.length) (h := h) (by omega)
  have s2 : (2 : Nat) ≤ sizeMax := by decide
  have s1 : (1 : Nat) ≤ sizeMax := by decide
  rw [callV_at M.f34 rfl]
  simp (implicitDefEqProofs := false) only [tb34, startE, List.map_cons, List.map_nil]
  simp (implicitDefEqProofs := false) [-rgV_int, check_ok M.toMats (n := n), len_obj M.toMats K (n := n), rg]
  rw [lc_map (val := fun (i : Nat) => PV.int i) (res := fun c => pvR [1])]
  · have e : (List.range m.ps.length).map (fun _ => pvR [1]) = (silentT m.ps.length).map pvR := by
      simp [silentT, List.map_const']
    simp (implicitDefEqProofs := false) [hs, pvT, e]
  · intro c hc
    refine ⟨_, rfl, ?_⟩
    simp (implicitDefEqProofs := false) [lcP, s1, s2]
    rfl
end
/-! ### the laws' fractions -/
def lbLow : S := (.seq (.par [2, 3] (.cons (.bi .abs (.var 0)) (.cons (.bi .abs (.var 1)) .nil)))
  (.seq (.while_ (.cmp .ne (.var 3) (.pv (.int 0)))
  (.seq (.par [2, 3] (.cons (.var 3) (.cons (.op .mod (.bi .int (.var 2)) (.var 3)) .nil)))
  .pass))
  (.seq (.set 2 (.ite (.cmp .gt (.var 1) (.pv (.int 0))) (.var 2) (.op .sub (.pv (.int 0)) (.var 2))))
  (.seq (.retV (.tup (.cons (.op .fdiv (.var 0) (.var 2)) (.cons (.op .fdiv (.var 1) (.var 2)) .nil))))
  .pass))))
def lbPlus (low : Nat) : S := (.seq (.retV (.call low (.cons (.op .add (.op .mul (.idx (.var 0) (.pv (.int 0))) (.idx (.var 1) (.pv (.int 1)))) (.op .mul (.idx (.var 1) (.pv (.int 0))) (.idx (.var 0) (.pv (.int 1))))) (.cons (.op .mul (.idx (.var 0) (.pv (.int 1))) (.idx (.var 1) (.pv (.int 1)))) .nil))))
  .pass)
def lbTimes (low : Nat) : S := (.seq (.retV (.call low (.cons (.op .mul (.idx (.var 0) (.pv (.int 0))) (.idx (.var 1) (.pv (.int 0)))) (.cons (.op .mul (.idx (.var 0) (.pv (.int 1))) (.idx (.var 1) (.pv (.int 1)))) .nil))))
  .pass)
def lbMinus (plus : Nat) : S := (.seq (.retV (.call plus (.cons (.var 0) (.cons (.tup (.cons (.op .sub (.pv (.int 0)) (.idx (.var 1) (.pv (.int 0)))) (.cons (.idx (.var 1) (.pv (.int 1))) .nil))) .nil))))
  .pass)
def lbLess : S := (.seq (.retV (.cmp .lt (.op .mul (.idx (.var 0) (.pv (.int 0))) (.idx (.var 1) (.pv (.int 1)))) (.op .mul (.idx (.var 1) (.pv (.int 0))) (.idx (.var 0) (.pv (.int 1))))))
  .pass)
def lbSum (plus : Nat) : S := (.seq (.set 1 (.tup (.cons (.pv (.int 0)) (.cons (.pv (.int 1)) .nil))))
  (.seq (.for_ (.val (.var 0)) (.name 2)
  (.seq (.set 1 (.call plus (.cons (.var 1) (.cons (.var 2) .nil))))
  .pass))
  (.seq (.retV (.var 1))
  .pass)))
def lbOver (low : Nat) : S := (.seq (.retV (.call low (.cons (.op .mul (.idx (.var 0) (.pv (.int 0))) (.idx (.var 1) (.pv (.int 1)))) (.cons (.op .mul (.idx (.var 0) (.pv (.int 1))) (.idx (.var 1) (.pv (.int 0)))) .nil))))
  .pass)
def lbCell : S := (.seq (.ite (.cmp .lt (.var 1) (.len (.var 0)))
  (.seq (.retV (.idx (.var 0) (.var 1)))
  .pass)
  .pass)
  (.seq (.ite (.cmp .eq (.var 0) (.lst .nil))
  (.seq (.retV (.op .mul (.var 1) (.pv (.int 48271))))
  .pass)
  .pass)
  (.seq (.retV (.op .mod (.bi .int (.op .mul (.op .add (.idx (.var 0) (.op .mod (.bi .int (.var 1)) (.len (.var 0)))) (.var 1)) (.pv (.int 48271)))) (.pv (.int 2147483647))))
  .pass)))
def cell (s : List Int) (k : Nat) : Int := if k < s.length then s.getD k 0 else if s = [] then k * 48271 else ((s.getD (k % s.length) 0 + k) * 48271) % 2147483647
section
variable {T : Tab} {n fuel i low : Nat} {h : Store}
theorem cell_ok (hF : T.fns[i]? = some ⟨2, 2, lbCell⟩) {s : List Int} {k : Nat} : callV (calls T fuel (n + 1)) i [.lst (s.map .int), .int k] h = .ok (.p (.int (cell s k))) h := by
  rw [callV_at hF rfl]
  have get : ∀ j, j < s.length → idx2 (.lst (s.map .int)) (.int j) = some (.int (s.getD j 0)) := fun j hj => idx_l (by rw [List.getElem?_map, List.getElem?_eq_getElem hj, List.getD_eq_getElem?_getD, List.getElem?_eq_getElem hj]; rfl)
  have sm : smallInt 48271 = true := by decide
  have s0 : (0 : Nat) ≤ sizeMax := by decide
  unfold cell
  by_cases c1 : k < s.length
  · have c2 : (k : Int) < s.length := by omega
    simp (implicitDefEqProofs := false) [lbCell, startE, c2, c1, get k c1]
  · have c2 : ¬ ((k : Int) < s.length) := by omega
    cases s with
    | nil =>
      have e0 : cmp2 .eq (.lst []) (.lst []) = some true := rfl
      have c3 : ¬ ((k : Int) < 0) := by omega
      simp (implicitDefEqProofs := false) [lbCell, startE, s0, e0, c3, op2_mul_sr sm]
    | cons a r =>
      have e0 : cmp2 .eq (.lst ((a :: r).map .int)) (.lst []) = some false := by
        have pl : ∀ l : List Int, PV.plainAll (l.map .int) = true := fun l => by
          induction l with
          | nil => rfl
          | cons b r ih => simp [PV.plainAll, PV.plain, ih]
        have dl : ∀ l : List Int, PV.depthAll (l.map .int) = 0 := fun l => by
          induction l with
          | nil => rfl
          | cons b r ih => simp [PV.depthAll, PV.depth, ih]
        have e1 : eqPV (.lst ((a :: r).map .int)) (.lst []) = if eqOk (.lst ((a :: r).map .int)) (.lst []) then some (PV.eqv (.lst ((a :: r).map .int)) (.lst [])) else none := rfl
        have e2 : eqOk (.lst ((a :: r).map .int)) (.lst []) = true := by
          have p1 : (PV.lst ((a :: r).map .int)).plain = true := by simp only [PV.plain]; exact pl (a :: r)
          have p2 : (PV.lst ((a :: r).map .int)).depth = 1 := by simp only [PV.depth]; rw [dl (a :: r)]
          simp only [eqOk, p1, p2]
          rfl
        simp only [cmp2, e1, e2, if_true]
        rfl
      have hm : 0 < ((a :: r).length : Int) := by rw [List.length_cons]; omega
      have hm2 : k % (a :: r).length < (a :: r).length := Nat.mod_lt _ (by simp)
      have g2 := get _ hm2
      have em : op2 .mod (.int k) (.int ((a :: r).length : Nat)) = some (.int ((k % (a :: r).length : Nat))) := by rw [op2_mod_int hm]; simp
      simp (implicitDefEqProofs := false) only [lbCell, startE, evS_seq, evS_ite, evE_cmp, evE_var, evE_len, List.map_cons] at g2 e0 ⊢
      have c3 : ¬ ((k : Int) < (r.length : Int) + 1) := by simp at c2; omega
      simp (implicitDefEqProofs := false) [c3, s0, e0]
      have em2 : op2 .mod (.int k) (.int ((r.length : Int) + 1)) = some (.int ((k % (r.length + 1) : Nat))) := by simpa using em
      have g3 : idx2 (PV.lst (PV.int a :: r.map .int)) (.int ((k % (r.length + 1) : Nat))) = some (.int ((a :: r).getD (k % (a :: r).length) 0)) := by simpa using g2
      rw [em2]
      simp (implicitDefEqProofs := false) only [Option.map_some, Res.of_some, Res.bind_ok, fz_p, vw_p]
      rw [g3]
      simp (implicitDefEqProofs := false) [op2_mul_sr sm, op2_mod_int (show (0 : Int) < 2147483647 by decide), c1]
      simp at c1
      omega
theorem lawLow_ok (hF : T.fns[i]? = some ⟨2, 4, lbLow⟩) (hf : 16400 ≤ fuel) {a b : Int} (hb : 0 < b) (hB : Big b) : callV (calls T fuel (n + 1)) i [.int a, .int b] h = .ok (.p (frac (Rat.divInt a b))) h := by
  rw [callV_at hF rfl]
  have fu : (calls T fuel n).fuel = fuel := by cases n <;> rfl
  let E : Nat → Nat → Env := fun x y => [some (.p (.int a)), some (.p (.int b)), some (.p (.int x)), some (.p (.int y))]
  have lp := gcd_loop (h := []) (t := evB T (calls T fuel n) (.cmp .ne (.var 3) (.pv (.int 0)))) (b := evS T (calls T fuel n) (.seq (.par [2, 3] (.cons (.var 3) (.cons (.op .mod (.bi .int (.var 2)) (.var 3)) .nil))) .pass)) E
    (fun x y => by simp [E, evB]) (fun x y hy => by
      have : (0 : Int) < y := by omega
      simp [E, op2_mod_int this, setAll]) 8192 fuel a.natAbs b.natAbs (by omega) hB
  have hg : 0 < Nat.gcd a.natAbs b.natAbs := Nat.gcd_pos_of_pos_right _ (by omega)
  have hgb : Big (Nat.gcd a.natAbs b.natAbs : Int) := by
    have : Nat.gcd a.natAbs b.natAbs ≤ b.natAbs := Nat.gcd_le_right _ (by omega)
    unfold Big at *
    omega
  have eg : (Nat.gcd a.natAbs b.natAbs : Int) = (Int.gcd b a : Int) := by rw [Nat.gcd_comm]; rfl
  have hg2 : (0 : Int) < Int.gcd b a := by omega
  have hb2 : Big (Int.gcd b a : Int) := by rw [← eg]; exact hgb
  simp only [lbLow, startE, evS_seq, evS_par, evVs_cons, evE_bi, evE_var, List.map_cons, List.map_nil]
  simp [bi1, absI, setAll, fu]
  have lp2 := lp
  simp only [E] at lp2
  rw [lp2]
  simp only [RS.seq_nx, evS_set, evE_ite, evE_cmp, evE_var, evE_pv, eg, evS_seq]
  simp [hb, op2_fdiv_big hg2 hb2, sizeMax]
  have := divInt_frac (a := a) (show b ≠ 0 by omega)
  rwa [Int.sign_eq_one_of_pos hb, Int.one_mul, Int.one_mul] at this
/-- the two fraction functions that the others call -/
def LowIs (T : Tab) (fuel low : Nat) : Prop := ∀ (n : Nat) (h : Store) (a b : Int), 0 < b → Big b → callV (calls T fuel (n + 1)) low [.int a, .int b] h = .ok (.p (frac (Rat.divInt a b))) h
theorem dd_pos (p q : Rat) : (0 : Int) < p.den * q.den := by
  have h1 := p.den_nz
  have h2 := q.den_nz
  exact Int.mul_pos (by omega) (by omega)
theorem lawPlus_ok (L : LowIs T fuel low) (hF : T.fns[i]? = some ⟨2, 2, lbPlus low⟩) {p q : Rat} {a b : Nat} (hp : Sm a p) (hq : Sm b q) (hk : a + b ≤ 8192 := by omega) : callV (calls T fuel (n + 2)) i [frac p, frac q] h = .ok (.p (frac (p + q))) h := by
  rw [callV_at hF rfl, add_raw, Int.natCast_mul]
  simp (implicitDefEqProofs := false) [lbPlus, startE, op2_mul_big hp.bn hq.bd, op2_mul_big hq.bn hp.bd, op2_mul_big hp.bd hq.bd, L n _ _ _ (dd_pos p q) (dd_big hp hq hk)]
theorem lawTimes_ok (L : LowIs T fuel low) (hF : T.fns[i]? = some ⟨2, 2, lbTimes low⟩) {p q : Rat} {a b : Nat} (hp : Sm a p) (hq : Sm b q) (hk : a + b ≤ 8192 := by omega) : callV (calls T fuel (n + 2)) i [frac p, frac q] h = .ok (.p (frac (p * q))) h := by
  rw [callV_at hF rfl, mul_raw, Int.natCast_mul]
  simp (implicitDefEqProofs := false) [lbTimes, startE, op2_mul_big hp.bn hq.bn, op2_mul_big hp.bd hq.bd, L n _ _ _ (dd_pos p q) (dd_big hp hq hk)]
theorem Sm.neg {k : Nat} {q : Rat} (h : Sm k q) : Sm k (-q) := ⟨by rw [Rat.neg_num, Int.natAbs_neg]; exact h.num, by rw [Rat.neg_den]; exact h.den⟩
theorem frac_neg (q : Rat) : PV.tup [.int (0 - q.num), .int q.den] = frac (-q) := by
  simp only [frac, Rat.neg_num, Rat.neg_den, Int.zero_sub]
theorem lawMinus_ok {plus : Nat} (L : LowIs T fuel low) (hP : T.fns[plus]? = some ⟨2, 2, lbPlus low⟩) (hF : T.fns[i]? = some ⟨2, 2, lbMinus plus⟩) {p q : Rat} {a b : Nat} (hp : Sm a p) (hq : Sm b q) (hk : a + b ≤ 8192 := by omega) : callV (calls T fuel (n + 3)) i [frac p, frac q] h = .ok (.p (frac (p - q))) h := by
  have s2 : (2 : Nat) ≤ sizeMax := by decide
  rw [callV_at hF rfl, Rat.sub_eq_add_neg]
  simp only [lbMinus, startE, evS_seq, evS_retV, evE_call, evL_cons, evL_nil, evE_var, evE_tup, evE_op, evE_idx, evE_pv, List.map_cons, List.map_nil]
  simp (implicitDefEqProofs := false) [s2, -Int.zero_sub, frac_neg, lawPlus_ok L hP hp hq.neg (n := n)]
theorem lawLess_ok (hF : T.fns[i]? = some ⟨2, 2, lbLess⟩) {p q : Rat} {a b : Nat} (hp : Sm a p) (hq : Sm b q) (hk : a + b ≤ 8192 := by omega) : callV (calls T fuel (n + 1)) i [frac p, frac q] h = .ok (.p (.bl (decide (p < q)))) h := by
  rw [callV_at hF rfl]
  simp (implicitDefEqProofs := false) [lbLess, startE, op2_mul_big hp.bn hq.bd, op2_mul_big hq.bn hp.bd, Rat.lt_iff]
theorem lawOver_ok (L : LowIs T fuel low) (hF : T.fns[i]? = some ⟨2, 2, lbOver low⟩) {p q : Rat} {a b : Nat} (hp : Sm a p) (hq : Sm b q) (hz : 0 < q) (hk : a + b ≤ 8192 := by omega) : callV (calls T fuel (n + 2)) i [frac p, frac q] h = .ok (.p (frac (p / q))) h := by
  have hn : 0 < q.num := num_pos.mpr hz
  have e : p / q = Rat.divInt (p.num * q.den) (p.den * q.num) := by
    rw [Rat.div_def, Rat.inv_def]
    have h1 : Rat.divInt p.num p.den * Rat.divInt q.den q.num = Rat.divInt (p.num * q.den) (p.den * q.num) := Rat.divInt_mul_divInt _ _
    rw [divInt_nd] at h1
    exact h1
  have hd : (0 : Int) < (p.den : Int) * q.num := Int.mul_pos (by have := p.den_nz; omega) hn
  have hB : Big ((p.den : Int) * q.num) := by
    unfold Big
    rw [Int.natAbs_mul, Int.natAbs_natCast]
    exact Nat.lt_of_lt_of_le (mul_lt_pow hp.den hq.num) (pow_le hk)
  rw [callV_at hF rfl, e]
  simp (implicitDefEqProofs := false) [lbOver, startE, op2_mul_big hp.bn hq.bd, op2_mul_big hp.bd hq.bn, L n _ _ _ hd hB]
theorem lawSum_ok {plus : Nat} (L : LowIs T fuel low) (hP : T.fns[plus]? = some ⟨2, 2, lbPlus low⟩) (hF : T.fns[i]? = some ⟨1, 3, lbSum plus⟩) {l : List Rat} {k : Nat} (hl : ∀ q ∈ l, Sm k q) (hk : l.length * (k + 1) + 1 + k ≤ 8192) : callV (calls T fuel (n + 3)) i [.lst (l.map frac)] h = .ok (.p (frac l.sum)) h := by
  rw [callV_at hF rfl]
  have lp := forGo_inv (b := evS T (calls T fuel (n + 2)) (.seq (.set 1 (.call plus (.cons (.var 1) (.cons (.var 2) .nil)))) .pass)) (t := .name 2) (val := frac) (xs := l)
    (fun pre ρ h => ∃ o, ρ = [some (.p (.lst (l.map frac))), some (.p (frac pre.sum)), o] ∧ h = []) (fun pre x post ρ h e ⟨o, hρ, hh⟩ => by
      subst hρ hh
      have h1 : Sm (pre.length * (k + 1) + 1) pre.sum := Sm.sum fun q hq => hl q (by rw [e]; exact List.mem_append_left _ hq)
      have h2 : Sm k x := hl x (by rw [e]; simp)
      have h3 : pre.length ≤ l.length := by rw [e]; simp
      have h4 : pre.length * (k + 1) ≤ l.length * (k + 1) := Nat.mul_le_mul_right _ h3
      refine ⟨_, [some (.p (.lst (l.map frac))), some (.p (frac (pre ++ [x]).sum)), some (.p (frac x))], [], rfl, ?_, ⟨_, rfl, rfl⟩⟩
      have e1 : (pre ++ [x]).sum = pre.sum + x := by rw [List.sum_append]; simp [Rat.add_zero]
      simp only [evS_seq, evS_set, evE_call, evL_cons, evE_var, e1]
      simp (implicitDefEqProofs := false) [lawPlus_ok L hP h1 h2]) (ρ := [some (.p (.lst (l.map frac))), some (.p (frac 0)), none]) (h := []) ⟨_, rfl, rfl⟩
  obtain ⟨ρ', h', e1, o, e2, e3⟩ := lp
  subst e2 e3
  have ez : PV.tup [.int 0, .int 1] = frac 0 := rfl
  have s2 : (2 : Nat) ≤ sizeMax := by decide
  simp only [lbSum, startE, List.map_cons, List.map_nil]
  simp (implicitDefEqProofs := false) [s2, ez, itemsOf, e1]
end
end Sw

end

section
/-! A thing is equal to itself; enumerate over any list. -/
namespace Sw
open PySem (Str)
theorem eqv_refl : ∀ p : PV, p.plain = true → PV.eqv p p = true := by
  intro p
  refine PV.rec (motive_1 := fun p => p.plain = true → PV.eqv p p = true) (motive_2 := fun ps => PV.plainAll ps = true → PV.eqvAll ps ps = true) (motive_3 := fun _ => True) (motive_4 := fun _ => True) ?_ ?_ ?_ ?_ ?_ ?_ ?_ ?_ ?_ ?_ ?_ ?_ ?_ p
  · intro _; rfl
  · intro b _; cases b <;> rfl
  · intro i _; simp
  · intro s _; simp [PV.eqv]
  · intro xs ih h; simp only [PV.plain] at h; simp only [PV.eqv]; exact ih h
  · intro xs ih h; simp only [PV.plain] at h; simp only [PV.eqv]; exact ih h
  · intro kvs _ h; simp [PV.plain] at h
  · intro c fs _ h; simp [PV.plain] at h
  · intro _; rfl
  · intro x xs h1 h2 h
    simp only [PV.plainAll, Bool.and_eq_true] at h
    simp [PV.eqvAll, h1 h.1, h2 h.2]
  · trivial
  · intros; trivial
  · intros; trivial
theorem plainAll_map {α : Type} {f : α → PV} : ∀ {l : List α}, (∀ x ∈ l, (f x).plain = true) → PV.plainAll (l.map f) = true
  | [], _ => rfl
  | a :: r, h => by simp [PV.plainAll, h a List.mem_cons_self, plainAll_map fun x hx => h x (List.mem_cons_of_mem _ hx)]
theorem depthAll_map {α : Type} {f : α → PV} {k : Nat} : ∀ {l : List α}, (∀ x ∈ l, (f x).depth ≤ k) → PV.depthAll (l.map f) ≤ k
  | [], _ => Nat.zero_le _
  | a :: r, h => by
    have h1 := h a List.mem_cons_self
    have h2 := depthAll_map (k := k) fun x hx => h x (List.mem_cons_of_mem _ hx)
    simp only [List.map_cons, PV.depthAll]
    omega
structure Dat (p : PV) (k : Nat) : Prop where
  pl : p.plain = true
  dp : p.depth ≤ k
theorem Dat.int (i : Int) : Dat (.int i) 0 := ⟨rfl, Nat.le_refl _⟩
theorem Dat.non : Dat .non 0 := ⟨rfl, Nat.le_refl _⟩
theorem Dat.mono {p : PV} {a b : Nat} (h : Dat p a) (hab : a ≤ b) : Dat p b := ⟨h.pl, Nat.le_trans h.dp hab⟩
theorem Dat.tup {α : Type} {f : α → PV} {k : Nat} {l : List α} (h : ∀ x ∈ l, Dat (f x) k) : Dat (.tup (l.map f)) (k + 1) := ⟨by simp only [PV.plain]; exact plainAll_map fun x hx => (h x hx).pl, by
  simp only [PV.depth]
  have := depthAll_map (k := k) (f := f) (l := l) fun x hx => (h x hx).dp
  omega⟩
theorem Dat.lst {α : Type} {f : α → PV} {k : Nat} {l : List α} (h : ∀ x ∈ l, Dat (f x) k) : Dat (.lst (l.map f)) (k + 1) := ⟨by simp only [PV.plain]; exact plainAll_map fun x hx => (h x hx).pl, by
  simp only [PV.depth]
  have := depthAll_map (k := k) (f := f) (l := l) fun x hx => (h x hx).dp
  omega⟩
theorem Dat.frac (q : Rat) : Dat (frac q) 1 := ⟨rfl, Nat.le_refl _⟩
theorem Dat.pvI (l : List Int) : Dat (pvI l) 1 := Dat.tup fun x _ => .int x
theorem Dat.pvM (l : List (List Int)) : Dat (pvM l) 2 := Dat.tup fun x _ => .pvI x
theorem Dat.pvR (l : List Rat) : Dat (pvR l) 2 := Dat.tup fun x _ => .frac x
theorem Dat.pvT (l : List (List Rat)) : Dat (pvT l) 3 := Dat.tup fun x _ => .pvR x
theorem ne_tup {xs : List PV} {k : Nat} (h : Dat (.tup xs) k) (hk : k ≤ 60 := by omega) : cmp2 .ne (.tup xs) (.tup xs) = some false := by
  have e1 : eqPV (.tup xs) (.tup xs) = if eqOk (.tup xs) (.tup xs) then some (PV.eqv (.tup xs) (.tup xs)) else none := rfl
  have := h.dp
  have e2 : eqOk (.tup xs) (.tup xs) = true := by
    simp only [eqOk, h.pl, Bool.true_and, Bool.and_self, decide_eq_true_eq]
    omega
  simp only [cmp2, e1, e2, if_true, eqv_refl _ h.pl]
  rfl
theorem ne_lst {xs : List PV} {k : Nat} (h : Dat (.lst xs) k) (hk : k ≤ 60 := by omega) : cmp2 .ne (.lst xs) (.lst xs) = some false := by
  have e1 : eqPV (.lst xs) (.lst xs) = if eqOk (.lst xs) (.lst xs) then some (PV.eqv (.lst xs) (.lst xs)) else none := rfl
  have := h.dp
  have e2 : eqOk (.lst xs) (.lst xs) = true := by
    simp only [eqOk, h.pl, Bool.true_and, Bool.and_self, decide_eq_true_eq]
    omega
  simp only [cmp2, e1, e2, if_true, eqv_refl _ h.pl]
  rfl
theorem enum_list {α : Type} (f : α → PV) : ∀ (l : List α) (k : Nat), enumPV k (l.map f) = ((List.range' k l.length).zip l).map fun p => .tup [.int p.1, f p.2]
  | [], k => rfl
  | a :: r, k => by simp [List.range'_succ, enumPV, enum_list f r (k + 1)]
theorem enum_list0 {α : Type} (f : α → PV) (l : List α) : enumPV 0 (l.map f) = ((List.range l.length).zip l).map fun p => .tup [.int p.1, f p.2] := by
  rw [List.range_eq_range']
  exact enum_list f l 0
end Sw

end

section
/-! The tables of the text (printed by gen.py). -/
namespace K1
open PySem Sw
def sls (l : List String) : List Str := l.map Str.ofString
def top (i : Nat) : Stmt := PySem.Challenge.pw_saywhat_k01_whole_tellings.main.body.getD i (.Pass ⟨0, 0, 0, 0⟩)
def names : List (Str × Gk) := [((Str.ofString "lowest"), .fn 0),
  ((Str.ofString "plus"), .fn 1),
  ((Str.ofString "minus"), .fn 2),
  ((Str.ofString "times"), .fn 3),
  ((Str.ofString "over"), .fn 4),
  ((Str.ofString "is_less"), .fn 5),
  ((Str.ofString "total"), .fn 6),
  ((Str.ofString "is_integer"), .fn 7),
  ((Str.ofString "are_integers"), .fn 8),
  ((Str.ofString "are_rows"), .fn 9),
  ((Str.ofString "check_matter"), .fn 16),
  ((Str.ofString "acts_of"), .fn 17),
  ((Str.ofString "is_chance"), .fn 18),
  ((Str.ofString "is_table"), .fn 19),
  ((Str.ofString "check_table"), .fn 20),
  ((Str.ofString "weights_of"), .fn 21),
  ((Str.ofString "summed_by"), .fn 22),
  ((Str.ofString "best_acts"), .fn 23),
  ((Str.ofString "act_by"), .fn 24),
  ((Str.ofString "words_of"), .fn 25),
  ((Str.ofString "is_said"), .fn 26),
  ((Str.ofString "said_words"), .fn 27),
  ((Str.ofString "beliefs"), .fn 28),
  ((Str.ofString "acts_after"), .fn 29),
  ((Str.ofString "worth_of"), .fn 30),
  ((Str.ofString "gain_of"), .fn 31),
  ((Str.ofString "swerves"), .fn 32),
  ((Str.ofString "whole_table"), .fn 33),
  ((Str.ofString "silent_table"), .fn 34),
  ((Str.ofString "_law_cell_at"), .fn 35),
  ((Str.ofString "_law_low"), .fn 36),
  ((Str.ofString "_law_plus"), .fn 37),
  ((Str.ofString "_law_times"), .fn 38),
  ((Str.ofString "_law_minus"), .fn 39),
  ((Str.ofString "_law_less"), .fn 40),
  ((Str.ofString "_law_sum"), .fn 41),
  ((Str.ofString "_law_over"), .fn 42),
  ((Str.ofString "_law_matter"), .fn 43),
  ((Str.ofString "_law_chance"), .fn 44),
  ((Str.ofString "_law_table"), .fn 45),
  ((Str.ofString "_law_shares"), .fn 46),
  ((Str.ofString "_law_count"), .fn 47),
  ((Str.ofString "_law_done"), .fn 48),
  ((Str.ofString "_law_value"), .fn 49),
  ((Str.ofString "_law_told_right"), .fn 50),
  ((Str.ofString "law"), .fn 51),
  ((Str.ofString "Matter"), .cls 0),
  ((Str.ofString "MAX_PART"), .cst (.int (6))),
  ((Str.ofString "MIN_CASES"), .cst (.int (2))),
  ((Str.ofString "MAX_CASES"), .cst (.int (4))),
  ((Str.ofString "MAX_GAIN"), .cst (.int (9))),
  ((Str.ofString "MAX_WORTH"), .cst (.int (9))),
  ((Str.ofString "MIN_ACTS"), .cst (.int (2))),
  ((Str.ofString "MAX_ACTS"), .cst (.int (4))),
  ((Str.ofString "NONE"), .cst (.tup [.int (0), .int (1)])),
  ((Str.ofString "MAX_WORDS"), .cst (.int (4))),
  ((Str.ofString "ONE"), .cst (.tup [.int (1), .int (1)])),
  ((Str.ofString "len"), .free),
  ((Str.ofString "tuple"), .free),
  ((Str.ofString "range"), .free),
  ((Str.ofString "int"), .free),
  ((Str.ofString "all"), .free),
  ((Str.ofString "sum"), .free),
  ((Str.ofString "isinstance"), .free),
  ((Str.ofString "abs"), .free),
  ((Str.ofString "enumerate"), .free),
  ((Str.ofString "zip"), .free),
  ((Str.ofString "bool"), .free),
  ((Str.ofString "list"), .free),
  ((Str.ofString "any"), .free)]
def attrs : List Str := (sls ["parts", "gains", "worths", "shares", "own", "aims", "chances", "many_acts"])
def tb : Tb := { names := names, attrs := attrs, nF := 52, nC := 1, sF := [], sM := [], sC := [] }
/-- lowest -/
def d0 : DefI := ⟨.glo (Str.ofString "lowest"), (Str.ofString "lowest"), (Str.ofString "lowest"), top 7, (sls ["top", "bottom"]), (sls ["top", "bottom", "one", "other", "sign"]), (sls [])⟩
/-- plus -/
def d1 : DefI := ⟨.glo (Str.ofString "plus"), (Str.ofString "plus"), (Str.ofString "plus"), top 8, (sls ["one", "other"]), (sls ["one", "other"]), (sls [])⟩
/-- minus -/
def d2 : DefI := ⟨.glo (Str.ofString "minus"), (Str.ofString "minus"), (Str.ofString "minus"), top 9, (sls ["one", "other"]), (sls ["one", "other"]), (sls [])⟩
/-- times -/
def d3 : DefI := ⟨.glo (Str.ofString "times"), (Str.ofString "times"), (Str.ofString "times"), top 10, (sls ["one", "other"]), (sls ["one", "other"]), (sls [])⟩
/-- over -/
def d4 : DefI := ⟨.glo (Str.ofString "over"), (Str.ofString "over"), (Str.ofString "over"), top 11, (sls ["one", "other"]), (sls ["one", "other"]), (sls [])⟩
/-- is_less -/
def d5 : DefI := ⟨.glo (Str.ofString "is_less"), (Str.ofString "is_less"), (Str.ofString "is_less"), top 12, (sls ["one", "other"]), (sls ["one", "other"]), (sls [])⟩
/-- total -/
def d6 : DefI := ⟨.glo (Str.ofString "total"), (Str.ofString "total"), (Str.ofString "total"), top 13, (sls ["some"]), (sls ["some", "found", "one"]), (sls [])⟩
/-- is_integer -/
def d7 : DefI := ⟨.glo (Str.ofString "is_integer"), (Str.ofString "is_integer"), (Str.ofString "is_integer"), top 23, (sls ["value", "low", "high"]), (sls ["value", "low", "high"]), (sls [])⟩
/-- are_integers -/
def d8 : DefI := ⟨.glo (Str.ofString "are_integers"), (Str.ofString "are_integers"), (Str.ofString "are_integers"), top 24, (sls ["value", "low", "high"]), (sls ["value", "low", "high", "one"]), (sls [])⟩
/-- are_rows -/
def d9 : DefI := ⟨.glo (Str.ofString "are_rows"), (Str.ofString "are_rows"), (Str.ofString "are_rows"), top 25, (sls ["value", "many", "low", "high"]), (sls ["value", "many", "low", "high", "row"]), (sls [])⟩
/-- Matter.__init__ -/
def d10 : DefI := ⟨.meth (Str.ofString "Matter") (Str.ofString "__init__"), (Str.ofString "__init__"), (Str.ofString "Matter.__init__"), L2.inClass (top 26) 1, (sls ["self", "parts", "gains", "worths"]), (sls ["self", "parts", "gains", "worths", "part"]), (sls [])⟩
/-- Matter.parts -/
def d11 : DefI := ⟨.prop (Str.ofString "Matter") (Str.ofString "parts"), (Str.ofString "parts"), (Str.ofString "Matter.parts"), L2.inClass (top 26) 2, (sls ["self"]), (sls ["self"]), (sls [])⟩
/-- Matter.gains -/
def d12 : DefI := ⟨.prop (Str.ofString "Matter") (Str.ofString "gains"), (Str.ofString "gains"), (Str.ofString "Matter.gains"), L2.inClass (top 26) 3, (sls ["self"]), (sls ["self"]), (sls [])⟩
/-- Matter.worths -/
def d13 : DefI := ⟨.prop (Str.ofString "Matter") (Str.ofString "worths"), (Str.ofString "worths"), (Str.ofString "Matter.worths"), L2.inClass (top 26) 4, (sls ["self"]), (sls ["self"]), (sls [])⟩
/-- Matter.__len__ -/
def d14 : DefI := ⟨.meth (Str.ofString "Matter") (Str.ofString "__len__"), (Str.ofString "__len__"), (Str.ofString "Matter.__len__"), L2.inClass (top 26) 5, (sls ["self"]), (sls ["self"]), (sls [])⟩
/-- Matter.many_acts -/
def d15 : DefI := ⟨.meth (Str.ofString "Matter") (Str.ofString "many_acts"), (Str.ofString "many_acts"), (Str.ofString "Matter.many_acts"), L2.inClass (top 26) 8, (sls ["self"]), (sls ["self"]), (sls [])⟩
/-- check_matter -/
def d16 : DefI := ⟨.glo (Str.ofString "check_matter"), (Str.ofString "check_matter"), (Str.ofString "check_matter"), top 27, (sls ["matter"]), (sls ["matter"]), (sls [])⟩
/-- acts_of -/
def d17 : DefI := ⟨.glo (Str.ofString "acts_of"), (Str.ofString "acts_of"), (Str.ofString "acts_of"), top 28, (sls ["matter"]), (sls ["matter"]), (sls [])⟩
/-- is_chance -/
def d18 : DefI := ⟨.glo (Str.ofString "is_chance"), (Str.ofString "is_chance"), (Str.ofString "is_chance"), top 29, (sls ["value"]), (sls ["value", "one"]), (sls [])⟩
/-- is_table -/
def d19 : DefI := ⟨.glo (Str.ofString "is_table"), (Str.ofString "is_table"), (Str.ofString "is_table"), top 30, (sls ["matter", "value"]), (sls ["matter", "value", "row", "one"]), (sls [])⟩
/-- check_table -/
def d20 : DefI := ⟨.glo (Str.ofString "check_table"), (Str.ofString "check_table"), (Str.ofString "check_table"), top 31, (sls ["matter", "table"]), (sls ["matter", "table"]), (sls [])⟩
/-- weights_of -/
def d21 : DefI := ⟨.glo (Str.ofString "weights_of"), (Str.ofString "weights_of"), (Str.ofString "weights_of"), top 32, (sls ["matter", "table", "word"]), (sls ["matter", "table", "word", "chance", "row"]), (sls [])⟩
/-- summed_by -/
def d22 : DefI := ⟨.glo (Str.ofString "summed_by"), (Str.ofString "summed_by"), (Str.ofString "summed_by"), top 33, (sls ["weights", "rows", "act"]), (sls ["weights", "rows", "act", "weight", "row"]), (sls [])⟩
/-- best_acts -/
def d23 : DefI := ⟨.glo (Str.ofString "best_acts"), (Str.ofString "best_acts"), (Str.ofString "best_acts"), top 34, (sls ["matter", "weights"]), (sls ["matter", "weights", "gains", "act", "most", "one"]), (sls [])⟩
/-- act_by -/
def d24 : DefI := ⟨.glo (Str.ofString "act_by"), (Str.ofString "act_by"), (Str.ofString "act_by"), top 35, (sls ["matter", "weights"]), (sls ["matter", "weights", "best", "act"]), (sls [])⟩
/-- words_of -/
def d25 : DefI := ⟨.glo (Str.ofString "words_of"), (Str.ofString "words_of"), (Str.ofString "words_of"), top 37, (sls ["table"]), (sls ["table"]), (sls [])⟩
/-- is_said -/
def d26 : DefI := ⟨.glo (Str.ofString "is_said"), (Str.ofString "is_said"), (Str.ofString "is_said"), top 38, (sls ["weights"]), (sls ["weights", "one"]), (sls [])⟩
/-- said_words -/
def d27 : DefI := ⟨.glo (Str.ofString "said_words"), (Str.ofString "said_words"), (Str.ofString "said_words"), top 39, (sls ["matter", "table"]), (sls ["matter", "table", "rows", "word", "weights"]), (sls [])⟩
/-- beliefs -/
def d28 : DefI := ⟨.glo (Str.ofString "beliefs"), (Str.ofString "beliefs"), (Str.ofString "beliefs"), top 40, (sls ["matter", "table"]), (sls ["matter", "table", "said", "found", "word", "one"]), (sls ["found"])⟩
/-- acts_after -/
def d29 : DefI := ⟨.glo (Str.ofString "acts_after"), (Str.ofString "acts_after"), (Str.ofString "acts_after"), top 41, (sls ["matter", "table"]), (sls ["matter", "table", "said", "word"]), (sls [])⟩
/-- worth_of -/
def d30 : DefI := ⟨.glo (Str.ofString "worth_of"), (Str.ofString "worth_of"), (Str.ofString "worth_of"), top 42, (sls ["matter", "table"]), (sls ["matter", "table", "said", "weights"]), (sls [])⟩
/-- gain_of -/
def d31 : DefI := ⟨.glo (Str.ofString "gain_of"), (Str.ofString "gain_of"), (Str.ofString "gain_of"), top 43, (sls ["matter", "table"]), (sls ["matter", "table", "said", "weights"]), (sls [])⟩
/-- swerves -/
def d32 : DefI := ⟨.glo (Str.ofString "swerves"), (Str.ofString "swerves"), (Str.ofString "swerves"), top 44, (sls ["matter", "table"]), (sls ["matter", "table", "found", "word", "weights", "done", "act"]), (sls ["found"])⟩
/-- whole_table -/
def d33 : DefI := ⟨.glo (Str.ofString "whole_table"), (Str.ofString "whole_table"), (Str.ofString "whole_table"), top 45, (sls ["matter"]), (sls ["matter", "one", "case"]), (sls [])⟩
/-- silent_table -/
def d34 : DefI := ⟨.glo (Str.ofString "silent_table"), (Str.ofString "silent_table"), (Str.ofString "silent_table"), top 46, (sls ["matter"]), (sls ["matter", "case"]), (sls [])⟩
/-- _law_cell_at -/
def d35 : DefI := ⟨.glo (Str.ofString "_law_cell_at"), (Str.ofString "_law_cell_at"), (Str.ofString "_law_cell_at"), top 48, (sls ["_law_script", "_law_k"]), (sls ["_law_script", "_law_k"]), (sls [])⟩
/-- _law_low -/
def d36 : DefI := ⟨.glo (Str.ofString "_law_low"), (Str.ofString "_law_low"), (Str.ofString "_law_low"), top 50, (sls ["_law_top", "_law_bottom"]), (sls ["_law_top", "_law_bottom", "_law_one", "_law_other"]), (sls [])⟩
/-- _law_plus -/
def d37 : DefI := ⟨.glo (Str.ofString "_law_plus"), (Str.ofString "_law_plus"), (Str.ofString "_law_plus"), top 51, (sls ["_law_one", "_law_other"]), (sls ["_law_one", "_law_other"]), (sls [])⟩
/-- _law_times -/
def d38 : DefI := ⟨.glo (Str.ofString "_law_times"), (Str.ofString "_law_times"), (Str.ofString "_law_times"), top 52, (sls ["_law_one", "_law_other"]), (sls ["_law_one", "_law_other"]), (sls [])⟩
/-- _law_minus -/
def d39 : DefI := ⟨.glo (Str.ofString "_law_minus"), (Str.ofString "_law_minus"), (Str.ofString "_law_minus"), top 53, (sls ["_law_one", "_law_other"]), (sls ["_law_one", "_law_other"]), (sls [])⟩
/-- _law_less -/
def d40 : DefI := ⟨.glo (Str.ofString "_law_less"), (Str.ofString "_law_less"), (Str.ofString "_law_less"), top 54, (sls ["_law_one", "_law_other"]), (sls ["_law_one", "_law_other"]), (sls [])⟩
/-- _law_sum -/
def d41 : DefI := ⟨.glo (Str.ofString "_law_sum"), (Str.ofString "_law_sum"), (Str.ofString "_law_sum"), top 55, (sls ["_law_some"]), (sls ["_law_some", "_law_found", "_law_one"]), (sls [])⟩
/-- _law_over -/
def d42 : DefI := ⟨.glo (Str.ofString "_law_over"), (Str.ofString "_law_over"), (Str.ofString "_law_over"), top 56, (sls ["_law_one", "_law_other"]), (sls ["_law_one", "_law_other"]), (sls [])⟩
/-- _law_matter -/
def d43 : DefI := ⟨.glo (Str.ofString "_law_matter"), (Str.ofString "_law_matter"), (Str.ofString "_law_matter"), top 57, (sls ["_law_script", "_law_at"]), (sls ["_law_script", "_law_at", "_law_many", "_law_acts", "_law_gains", "_law_worths", "_law_parts", "_law_place", "_law_act"]), (sls ["_law_gains", "_law_worths"])⟩
/-- _law_chance -/
def d44 : DefI := ⟨.glo (Str.ofString "_law_chance"), (Str.ofString "_law_chance"), (Str.ofString "_law_chance"), top 58, (sls ["_law_plain", "_law_place"]), (sls ["_law_plain", "_law_place"]), (sls [])⟩
/-- _law_table -/
def d45 : DefI := ⟨.glo (Str.ofString "_law_table"), (Str.ofString "_law_table"), (Str.ofString "_law_table"), top 59, (sls ["_law_script", "_law_at", "_law_plain", "_law_words"]), (sls ["_law_script", "_law_at", "_law_plain", "_law_words", "_law_rows", "_law_place", "_law_some", "_law_word", "_law_one"]), (sls ["_law_rows"])⟩
/-- _law_shares -/
def d46 : DefI := ⟨.glo (Str.ofString "_law_shares"), (Str.ofString "_law_shares"), (Str.ofString "_law_shares"), top 60, (sls ["_law_plain", "_law_table_here", "_law_word"]), (sls ["_law_plain", "_law_table_here", "_law_word", "_law_place", "_law_row"]), (sls [])⟩
/-- _law_count -/
def d47 : DefI := ⟨.glo (Str.ofString "_law_count"), (Str.ofString "_law_count"), (Str.ofString "_law_count"), top 61, (sls ["_law_shares_here", "_law_rows", "_law_act"]), (sls ["_law_shares_here", "_law_rows", "_law_act", "_law_one", "_law_row"]), (sls [])⟩
/-- _law_done -/
def d48 : DefI := ⟨.glo (Str.ofString "_law_done"), (Str.ofString "_law_done"), (Str.ofString "_law_done"), top 62, (sls ["_law_plain", "_law_shares_here"]), (sls ["_law_plain", "_law_shares_here", "_law_top", "_law_act", "_law_own", "_law_other", "_law_more", "_law_less_here"]), (sls [])⟩
/-- _law_value -/
def d49 : DefI := ⟨.glo (Str.ofString "_law_value"), (Str.ofString "_law_value"), (Str.ofString "_law_value"), top 63, (sls ["_law_plain", "_law_table_here", "_law_rows"]), (sls ["_law_plain", "_law_table_here", "_law_rows", "_law_found", "_law_word", "_law_shares_here"]), (sls [])⟩
/-- _law_told_right -/
def d50 : DefI := ⟨.glo (Str.ofString "_law_told_right"), (Str.ofString "_law_told_right"), (Str.ofString "_law_told_right"), top 64, (sls ["_law_plain", "_law_matter_here", "_law_table_here"]), (sls ["_law_plain", "_law_matter_here", "_law_table_here", "_law_words", "_law_held", "_law_acts", "_law_lost", "_law_word", "_law_shares_here", "_law_whole", "_law_done_here", "_law_one", "_law_act", "_law_more"]), (sls ["_law_held", "_law_acts", "_law_lost"])⟩
/-- law -/
def d51 : DefI := ⟨.glo (Str.ofString "law"), (Str.ofString "law"), (Str.ofString "law"), top 65, (sls ["_law_script"]), (sls ["_law_script", "_law_plain", "_law_matter_here", "_law_many", "_law_every", "_law_one", "_law_place", "_law_tables", "_law_turn", "_law_table_here"]), (sls ["_law_tables"])⟩
def ds : List DefI := [d0, d1, d2, d3, d4, d5, d6, d7, d8, d9, d10, d11, d12, d13, d14, d15, d16, d17, d18, d19, d20, d21, d22, d23, d24, d25, d26, d27, d28, d29, d30, d31, d32, d33, d34, d35, d36, d37, d38, d39, d40, d41, d42, d43, d44, d45, d46, d47, d48, d49, d50, d51]
def cls : List Cls := [⟨[(0, .prop 11), (1, .prop 12), (2, .prop 13), (3, .slot 3), (4, .slot 2), (5, .slot 0), (6, .slot 1), (7, .meth 15)], 4, 10, some 14, none⟩]
def cn : List Str := (sls ["Matter"])
end K1

end

section
namespace K1
open PySem Sw
def b0 : S := (.seq (.par [2, 3] (.cons (.bi .abs (.var 0)) (.cons (.bi .abs (.var 1)) .nil)))
  (.seq (.while_ (.cmp .ne (.var 3) (.pv (.int 0)))
  (.seq (.par [2, 3] (.cons (.var 3) (.cons (.op .mod (.var 2) (.var 3)) .nil)))
  .pass))
  (.seq (.set 4 (.ite (.cmp .lt (.var 1) (.pv (.int 0))) (.neg (.pv (.int 1))) (.pv (.int 1))))
  (.seq (.retV (.tup (.cons (.op .fdiv (.op .mul (.var 4) (.var 0)) (.var 2)) (.cons (.op .fdiv (.op .mul (.var 4) (.var 1)) (.var 2)) .nil))))
  .pass))))
def b1 : S := (.seq (.retV (.call 0 (.cons (.op .add (.op .mul (.idx (.var 0) (.pv (.int 0))) (.idx (.var 1) (.pv (.int 1)))) (.op .mul (.idx (.var 1) (.pv (.int 0))) (.idx (.var 0) (.pv (.int 1))))) (.cons (.op .mul (.idx (.var 0) (.pv (.int 1))) (.idx (.var 1) (.pv (.int 1)))) .nil))))
  .pass)
def b2 : S := (.seq (.retV (.call 0 (.cons (.op .sub (.op .mul (.idx (.var 0) (.pv (.int 0))) (.idx (.var 1) (.pv (.int 1)))) (.op .mul (.idx (.var 1) (.pv (.int 0))) (.idx (.var 0) (.pv (.int 1))))) (.cons (.op .mul (.idx (.var 0) (.pv (.int 1))) (.idx (.var 1) (.pv (.int 1)))) .nil))))
  .pass)
def b3 : S := (.seq (.retV (.call 0 (.cons (.op .mul (.idx (.var 0) (.pv (.int 0))) (.idx (.var 1) (.pv (.int 0)))) (.cons (.op .mul (.idx (.var 0) (.pv (.int 1))) (.idx (.var 1) (.pv (.int 1)))) .nil))))
  .pass)
def b4 : S := (.seq (.retV (.call 0 (.cons (.op .mul (.idx (.var 0) (.pv (.int 0))) (.idx (.var 1) (.pv (.int 1)))) (.cons (.op .mul (.idx (.var 0) (.pv (.int 1))) (.idx (.var 1) (.pv (.int 0)))) .nil))))
  .pass)
def b5 : S := (.seq (.retV (.cmp .lt (.op .mul (.idx (.var 0) (.pv (.int 0))) (.idx (.var 1) (.pv (.int 1)))) (.op .mul (.idx (.var 1) (.pv (.int 0))) (.idx (.var 0) (.pv (.int 1))))))
  .pass)
def b6 : S := (.seq (.set 1 (.pv (.tup [(.int 0), (.int 1)])))
  (.seq (.for_ (.val (.var 0)) (.name 2)
  (.seq (.set 1 (.call 1 (.cons (.var 1) (.cons (.var 2) .nil))))
  .pass))
  (.seq (.retV (.var 1))
  .pass)))
def b7 : S := (.seq (.retV (.and (.isi .int (.var 0)) (.and (.not (.isi .bool (.var 0))) (.chain .le .le (.var 1) (.var 0) (.var 2)))))
  .pass)
def b8 : S := (.seq (.retV (.and (.isi .tuple (.var 0)) (.bi .all (.lc (.val (.var 0)) (.name 3) [3] (.pv (.bl true)) (.call 7 (.cons (.var 3) (.cons (.var 1) (.cons (.var 2) .nil))))))))
  .pass)
def b9 : S := (.seq (.ite (.or (.not (.isi .tuple (.var 0))) (.or (.cmp .ne (.len (.var 0)) (.var 1)) (.not (.bi .all (.lc (.val (.var 0)) (.name 4) [4] (.pv (.bl true)) (.call 8 (.cons (.var 4) (.cons (.var 2) (.cons (.var 3) .nil)))))))))
  (.seq (.retV (.pv (.bl false)))
  .pass)
  .pass)
  (.seq (.retV (.and (.chain .le .le (.pv (.int 2)) (.len (.idx (.var 0) (.pv (.int 0)))) (.pv (.int 4))) (.bi .all (.lc (.val (.var 0)) (.name 4) [4] (.pv (.bl true)) (.cmp .eq (.len (.var 4)) (.len (.idx (.var 0) (.pv (.int 0)))))))))
  .pass))
def b10 : S := (.seq (.ite (.or (.not (.call 8 (.cons (.var 1) (.cons (.pv (.int 1)) (.cons (.pv (.int 6)) .nil))))) (.not (.chain .le .le (.pv (.int 2)) (.len (.var 1)) (.pv (.int 4)))))
  (.seq .never
  .pass)
  .pass)
  (.seq (.ite (.not (.call 9 (.cons (.var 2) (.cons (.len (.var 1)) (.cons (.neg (.pv (.int 9))) (.cons (.pv (.int 9)) .nil))))))
  (.seq .never
  .pass)
  .pass)
  (.seq (.ite (.or (.not (.call 9 (.cons (.var 3) (.cons (.len (.var 1)) (.cons (.pv (.int 0)) (.cons (.pv (.int 9)) .nil)))))) (.cmp .ne (.len (.idx (.var 3) (.pv (.int 0)))) (.len (.idx (.var 2) (.pv (.int 0))))))
  (.seq .never
  .pass)
  .pass)
  (.seq (.fset (.var 0) 3 (.var 1))
  (.seq (.fset (.var 0) 4 (.var 2))
  (.seq (.fset (.var 0) 5 (.var 3))
  (.seq (.fset (.var 0) 6 (.lc (.val (.var 1)) (.name 4) [4] (.pv (.bl true)) (.call 0 (.cons (.var 4) (.cons (.bi .sum (.var 1)) .nil)))))
  .pass)))))))
def b11 : S := (.seq (.retV (.fld (.var 0) 3))
  .pass)
def b12 : S := (.seq (.retV (.fld (.var 0) 4))
  .pass)
def b13 : S := (.seq (.retV (.fld (.var 0) 5))
  .pass)
def b14 : S := (.seq (.retV (.len (.fld (.var 0) 3)))
  .pass)
def b15 : S := (.seq (.retV (.len (.idx (.fld (.var 0) 4) (.pv (.int 0)))))
  .pass)
def b16 : S := (.seq (.ite (.not (.isi (.cls 0) (.var 0)))
  (.seq .never
  .pass)
  .pass)
  .pass)
def b17 : S := (.seq (.retV (.bi .rangeL1 (.meth (.var 0) 7 .nil)))
  .pass)
def b18 : S := (.seq (.ite (.or (.not (.isi .tuple (.var 0))) (.cmp .ne (.len (.var 0)) (.pv (.int 2))))
  (.seq (.retV (.pv (.bl false)))
  .pass)
  .pass)
  (.seq (.ite (.not (.bi .all (.lc (.val (.var 0)) (.name 1) [1] (.pv (.bl true)) (.and (.isi .int (.var 1)) (.not (.isi .bool (.var 1)))))))
  (.seq (.retV (.pv (.bl false)))
  .pass)
  .pass)
  (.seq (.retV (.and (.chain .le .le (.pv (.int 0)) (.idx (.var 0) (.pv (.int 0))) (.idx (.var 0) (.pv (.int 1)))) (.and (.cmp .ge (.idx (.var 0) (.pv (.int 1))) (.pv (.int 1))) (.cmp .eq (.call 0 (.cons (.idx (.var 0) (.pv (.int 0))) (.cons (.idx (.var 0) (.pv (.int 1))) .nil))) (.var 0)))))
  .pass)))
def b19 : S := (.seq (.ite (.or (.not (.isi .tuple (.var 1))) (.cmp .ne (.len (.var 1)) (.len (.var 0))))
  (.seq (.retV (.pv (.bl false)))
  .pass)
  .pass)
  (.seq (.ite (.not (.bi .all (.lc (.val (.var 1)) (.name 2) [2] (.pv (.bl true)) (.and (.isi .tuple (.var 2)) (.chain .le .le (.pv (.int 1)) (.len (.var 2)) (.pv (.int 4)))))))
  (.seq (.retV (.pv (.bl false)))
  .pass)
  .pass)
  (.seq (.ite (.not (.bi .all (.lc (.val (.var 1)) (.name 2) [2] (.pv (.bl true)) (.and (.cmp .eq (.len (.var 2)) (.len (.idx (.var 1) (.pv (.int 0))))) (.bi .all (.lc (.val (.var 2)) (.name 3) [3] (.pv (.bl true)) (.call 18 (.cons (.var 3) .nil))))))))
  (.seq (.retV (.pv (.bl false)))
  .pass)
  .pass)
  (.seq (.retV (.bi .all (.lc (.val (.var 1)) (.name 2) [2] (.pv (.bl true)) (.cmp .eq (.call 6 (.cons (.bi .list (.var 2)) .nil)) (.pv (.tup [(.int 1), (.int 1)]))))))
  .pass))))
def b20 : S := (.seq (.expr (.call 16 (.cons (.var 0) .nil)))
  (.seq (.ite (.not (.call 19 (.cons (.var 0) (.cons (.var 1) .nil))))
  (.seq .never
  .pass)
  .pass)
  .pass))
def b21 : S := (.seq (.retV (.lc (.zip (.fld (.var 0) 6) (.var 1)) (.tup (.cons (.name 3) (.cons (.name 4) .nil))) [3, 4] (.pv (.bl true)) (.call 3 (.cons (.var 3) (.cons (.idx (.var 4) (.var 2)) .nil)))))
  .pass)
def b22 : S := (.seq (.retV (.call 6 (.cons (.lc (.zip (.var 0) (.var 1)) (.tup (.cons (.name 3) (.cons (.name 4) .nil))) [3, 4] (.pv (.bl true)) (.call 3 (.cons (.var 3) (.cons (.tup (.cons (.idx (.var 4) (.var 2)) (.cons (.pv (.int 1)) .nil))) .nil)))) .nil)))
  .pass)
def b23 : S := (.seq (.set 2 (.lc (.val (.call 17 (.cons (.var 0) .nil))) (.name 3) [3] (.pv (.bl true)) (.call 22 (.cons (.var 1) (.cons (.fld (.var 0) 4) (.cons (.var 3) .nil))))))
  (.seq (.set 4 (.idx (.var 2) (.pv (.int 0))))
  (.seq (.for_ (.val (.var 2)) (.name 5)
  (.seq (.set 4 (.ite (.call 5 (.cons (.var 4) (.cons (.var 5) .nil))) (.var 5) (.var 4)))
  .pass))
  (.seq (.retV (.lc (.enum (.var 2)) (.tup (.cons (.name 3) (.cons (.name 5) .nil))) [3, 5] (.cmp .eq (.var 5) (.var 4)) (.var 3)))
  .pass))))
def b24 : S := (.seq (.set 2 (.pv .non))
  (.seq (.for_ (.val (.call 23 (.cons (.var 0) (.cons (.var 1) .nil)))) (.name 3)
  (.seq (.ite (.or (.cmp .is_ (.var 2) (.pv .non)) (.call 5 (.cons (.call 22 (.cons (.var 1) (.cons (.fld (.var 0) 5) (.cons (.var 2) .nil)))) (.cons (.call 22 (.cons (.var 1) (.cons (.fld (.var 0) 5) (.cons (.var 3) .nil)))) .nil))))
  (.seq (.set 2 (.var 3))
  .pass)
  .pass)
  .pass))
  (.seq (.retV (.var 2))
  .pass)))
def b25 : S := (.seq (.retV (.bi .rangeL1 (.len (.idx (.var 0) (.pv (.int 0))))))
  .pass)
def b26 : S := (.seq (.retV (.bi .any (.lc (.val (.var 0)) (.name 1) [1] (.pv (.bl true)) (.cmp .gt (.idx (.var 1) (.pv (.int 0))) (.pv (.int 0))))))
  .pass)
def b27 : S := (.seq (.set 2 (.dc (.val (.call 25 (.cons (.var 1) .nil))) (.name 3) [3] (.pv (.bl true)) (.var 3) (.call 21 (.cons (.var 0) (.cons (.var 1) (.cons (.var 3) .nil))))))
  (.seq (.retV (.dc (.items (.var 2)) (.tup (.cons (.name 3) (.cons (.name 4) .nil))) [3, 4] (.call 26 (.cons (.var 4) .nil)) (.var 3) (.var 4)))
  .pass))
def b28 : S := (.seq (.expr (.call 20 (.cons (.var 0) (.cons (.var 1) .nil))))
  (.seq (.par [2, 3] (.cons (.call 27 (.cons (.var 0) (.cons (.var 1) .nil))) (.cons (.newL .nil) .nil)))
  (.seq (.for_ (.val (.call 25 (.cons (.var 1) .nil))) (.name 4)
  (.seq (.ite (.cmp .in_ (.var 4) (.var 2))
  (.seq (.append (.var 3) (.bi .tuple (.lc (.val (.idx (.var 2) (.var 4))) (.name 5) [5] (.pv (.bl true)) (.call 4 (.cons (.var 5) (.cons (.call 6 (.cons (.idx (.var 2) (.var 4)) .nil)) .nil))))))
  .pass)
  (.seq (.append (.var 3) (.pv .non))
  .pass))
  .pass))
  (.seq (.retV (.var 3))
  .pass))))
def b29 : S := (.seq (.expr (.call 20 (.cons (.var 0) (.cons (.var 1) .nil))))
  (.seq (.set 2 (.call 27 (.cons (.var 0) (.cons (.var 1) .nil))))
  (.seq (.retV (.lc (.val (.call 25 (.cons (.var 1) .nil))) (.name 3) [3] (.pv (.bl true)) (.ite (.cmp .in_ (.var 3) (.var 2)) (.call 24 (.cons (.var 0) (.cons (.idx (.var 2) (.var 3)) .nil))) (.pv .non))))
  .pass)))
def b30 : S := (.seq (.expr (.call 20 (.cons (.var 0) (.cons (.var 1) .nil))))
  (.seq (.set 2 (.call 27 (.cons (.var 0) (.cons (.var 1) .nil))))
  (.seq (.retV (.call 6 (.cons (.lc (.values (.var 2)) (.name 3) [3] (.pv (.bl true)) (.call 22 (.cons (.var 3) (.cons (.fld (.var 0) 5) (.cons (.call 24 (.cons (.var 0) (.cons (.var 3) .nil))) .nil))))) .nil)))
  .pass)))
def b31 : S := (.seq (.expr (.call 20 (.cons (.var 0) (.cons (.var 1) .nil))))
  (.seq (.set 2 (.call 27 (.cons (.var 0) (.cons (.var 1) .nil))))
  (.seq (.retV (.call 6 (.cons (.lc (.values (.var 2)) (.name 3) [3] (.pv (.bl true)) (.call 22 (.cons (.var 3) (.cons (.fld (.var 0) 4) (.cons (.call 24 (.cons (.var 0) (.cons (.var 3) .nil))) .nil))))) .nil)))
  .pass)))
def b32 : S := (.seq (.expr (.call 20 (.cons (.var 0) (.cons (.var 1) .nil))))
  (.seq (.set 2 .newD)
  (.seq (.for_ (.items (.call 27 (.cons (.var 0) (.cons (.var 1) .nil)))) (.tup (.cons (.name 3) (.cons (.name 4) .nil)))
  (.seq (.set 5 (.call 24 (.cons (.var 0) (.cons (.var 4) .nil))))
  (.seq (.for_ (.val (.call 17 (.cons (.var 0) .nil))) (.name 6)
  (.seq (.ite (.cmp .ne (.var 6) (.var 5))
  (.seq (.iset (.var 2) (.tup (.cons (.var 3) (.cons (.var 6) .nil))) (.call 2 (.cons (.call 22 (.cons (.var 4) (.cons (.fld (.var 0) 4) (.cons (.var 5) .nil)))) (.cons (.call 22 (.cons (.var 4) (.cons (.fld (.var 0) 4) (.cons (.var 6) .nil)))) .nil))))
  .pass)
  .pass)
  .pass))
  .pass)))
  (.seq (.retV (.var 2))
  .pass))))
def b33 : S := (.seq (.expr (.call 16 (.cons (.var 0) .nil)))
  (.seq (.retV (.bi .tuple (.lc (.range (.len (.var 0))) (.name 2) [2] (.pv (.bl true)) (.bi .tuple (.lc (.range (.len (.var 0))) (.name 1) [1] (.pv (.bl true)) (.tup (.cons (.ite (.cmp .eq (.var 1) (.var 2)) (.pv (.int 1)) (.pv (.int 0))) (.cons (.pv (.int 1)) .nil))))))))
  .pass))
def b34 : S := (.seq (.expr (.call 16 (.cons (.var 0) .nil)))
  (.seq (.retV (.bi .tuple (.lc (.range (.len (.var 0))) (.name 1) [1] (.pv (.bl true)) (.tup (.cons (.tup (.cons (.pv (.int 1)) (.cons (.pv (.int 1)) .nil))) .nil)))))
  .pass))
def b35 : S := (.seq (.ite (.cmp .lt (.var 1) (.len (.var 0)))
  (.seq (.retV (.idx (.var 0) (.var 1)))
  .pass)
  .pass)
  (.seq (.ite (.cmp .eq (.var 0) (.lst .nil))
  (.seq (.retV (.op .mul (.var 1) (.pv (.int 48271))))
  .pass)
  .pass)
  (.seq (.retV (.op .mod (.bi .int (.op .mul (.op .add (.idx (.var 0) (.op .mod (.bi .int (.var 1)) (.len (.var 0)))) (.var 1)) (.pv (.int 48271)))) (.pv (.int 2147483647))))
  .pass)))
def b36 : S := (.seq (.par [2, 3] (.cons (.bi .abs (.var 0)) (.cons (.bi .abs (.var 1)) .nil)))
  (.seq (.while_ (.cmp .ne (.var 3) (.pv (.int 0)))
  (.seq (.par [2, 3] (.cons (.var 3) (.cons (.op .mod (.bi .int (.var 2)) (.var 3)) .nil)))
  .pass))
  (.seq (.set 2 (.ite (.cmp .gt (.var 1) (.pv (.int 0))) (.var 2) (.op .sub (.pv (.int 0)) (.var 2))))
  (.seq (.retV (.tup (.cons (.op .fdiv (.var 0) (.var 2)) (.cons (.op .fdiv (.var 1) (.var 2)) .nil))))
  .pass))))
def b37 : S := (.seq (.retV (.call 36 (.cons (.op .add (.op .mul (.idx (.var 0) (.pv (.int 0))) (.idx (.var 1) (.pv (.int 1)))) (.op .mul (.idx (.var 1) (.pv (.int 0))) (.idx (.var 0) (.pv (.int 1))))) (.cons (.op .mul (.idx (.var 0) (.pv (.int 1))) (.idx (.var 1) (.pv (.int 1)))) .nil))))
  .pass)
def b38 : S := (.seq (.retV (.call 36 (.cons (.op .mul (.idx (.var 0) (.pv (.int 0))) (.idx (.var 1) (.pv (.int 0)))) (.cons (.op .mul (.idx (.var 0) (.pv (.int 1))) (.idx (.var 1) (.pv (.int 1)))) .nil))))
  .pass)
def b39 : S := (.seq (.retV (.call 37 (.cons (.var 0) (.cons (.tup (.cons (.op .sub (.pv (.int 0)) (.idx (.var 1) (.pv (.int 0)))) (.cons (.idx (.var 1) (.pv (.int 1))) .nil))) .nil))))
  .pass)
def b40 : S := (.seq (.retV (.cmp .lt (.op .mul (.idx (.var 0) (.pv (.int 0))) (.idx (.var 1) (.pv (.int 1)))) (.op .mul (.idx (.var 1) (.pv (.int 0))) (.idx (.var 0) (.pv (.int 1))))))
  .pass)
def b41 : S := (.seq (.set 1 (.tup (.cons (.pv (.int 0)) (.cons (.pv (.int 1)) .nil))))
  (.seq (.for_ (.val (.var 0)) (.name 2)
  (.seq (.set 1 (.call 37 (.cons (.var 1) (.cons (.var 2) .nil))))
  .pass))
  (.seq (.retV (.var 1))
  .pass)))
def b42 : S := (.seq (.retV (.call 36 (.cons (.op .mul (.idx (.var 0) (.pv (.int 0))) (.idx (.var 1) (.pv (.int 1)))) (.cons (.op .mul (.idx (.var 0) (.pv (.int 1))) (.idx (.var 1) (.pv (.int 0)))) .nil))))
  .pass)
def b43 : S := (.seq (.par [2, 3, 4, 5] (.cons (.op .add (.pv (.int 2)) (.op .mod (.bi .int (.call 35 (.cons (.var 0) (.cons (.var 1) .nil)))) (.pv (.int 3)))) (.cons (.op .add (.pv (.int 2)) (.op .mod (.bi .int (.call 35 (.cons (.var 0) (.cons (.op .add (.var 1) (.pv (.int 1))) .nil)))) (.pv (.int 3)))) (.cons (.newL .nil) (.cons (.newL .nil) .nil)))))
  (.seq (.set 6 (.bi .tuple (.lc (.range (.var 2)) (.name 7) [7] (.pv (.bl true)) (.op .add (.pv (.int 1)) (.op .mod (.bi .int (.call 35 (.cons (.var 0) (.cons (.op .add (.op .add (.var 1) (.pv (.int 2))) (.var 7)) .nil)))) (.pv (.int 6)))))))
  (.seq (.for_ (.range (.var 2)) (.name 7)
  (.seq (.append (.var 4) (.bi .tuple (.lc (.range (.var 3)) (.name 8) [8] (.pv (.bl true)) (.op .sub (.op .mod (.bi .int (.call 35 (.cons (.var 0) (.cons (.op .add (.op .add (.op .add (.var 1) (.pv (.int 6))) (.op .mul (.pv (.int 4)) (.var 7))) (.var 8)) .nil)))) (.pv (.int 19))) (.pv (.int 9))))))
  (.seq (.append (.var 5) (.bi .tuple (.lc (.range (.var 3)) (.name 8) [8] (.pv (.bl true)) (.op .mod (.bi .int (.call 35 (.cons (.var 0) (.cons (.op .add (.op .add (.op .add (.var 1) (.pv (.int 22))) (.op .mul (.pv (.int 4)) (.var 7))) (.var 8)) .nil)))) (.pv (.int 10))))))
  .pass)))
  (.seq (.retV (.tup (.cons (.var 6) (.cons (.bi .tuple (.var 4)) (.cons (.bi .tuple (.var 5)) .nil)))))
  .pass))))
def b44 : S := (.seq (.retV (.call 36 (.cons (.idx (.idx (.var 0) (.pv (.int 0))) (.var 1)) (.cons (.bi .sum (.idx (.var 0) (.pv (.int 0)))) .nil))))
  .pass)
def b45 : S := (.seq (.set 4 (.newL .nil))
  (.seq (.for_ (.range (.len (.idx (.var 2) (.pv (.int 0))))) (.name 5)
  (.seq (.set 6 (.lc (.range (.var 3)) (.name 7) [7] (.pv (.bl true)) (.op .mod (.bi .int (.call 35 (.cons (.var 0) (.cons (.op .add (.op .add (.var 1) (.op .mul (.pv (.int 5)) (.var 5))) (.var 7)) .nil)))) (.pv (.int 4)))))
  (.seq (.ite (.or (.cmp .eq (.bi .sum (.var 6)) (.pv (.int 0))) (.cmp .eq (.op .mod (.bi .int (.call 35 (.cons (.var 0) (.cons (.op .add (.op .add (.var 1) (.op .mul (.pv (.int 5)) (.var 5))) (.pv (.int 4))) .nil)))) (.pv (.int 3))) (.pv (.int 0))))
  (.seq (.set 6 (.lc (.range (.var 3)) (.name 7) [7] (.pv (.bl true)) (.ite (.cmp .eq (.var 7) (.op .mod (.bi .int (.call 35 (.cons (.var 0) (.cons (.op .add (.var 1) (.op .mul (.pv (.int 5)) (.var 5))) .nil)))) (.var 3))) (.pv (.int 1)) (.pv (.int 0)))))
  .pass)
  .pass)
  (.seq (.append (.var 4) (.bi .tuple (.lc (.val (.var 6)) (.name 8) [8] (.pv (.bl true)) (.call 36 (.cons (.var 8) (.cons (.bi .sum (.var 6)) .nil))))))
  .pass))))
  (.seq (.retV (.bi .tuple (.var 4)))
  .pass)))
def b46 : S := (.seq (.retV (.lc (.enum (.var 1)) (.tup (.cons (.name 3) (.cons (.name 4) .nil))) [3, 4] (.pv (.bl true)) (.call 38 (.cons (.call 44 (.cons (.var 0) (.cons (.var 3) .nil))) (.cons (.idx (.var 4) (.var 2)) .nil)))))
  .pass)
def b47 : S := (.seq (.retV (.call 41 (.cons (.lc (.zip (.var 0) (.var 1)) (.tup (.cons (.name 3) (.cons (.name 4) .nil))) [3, 4] (.pv (.bl true)) (.call 38 (.cons (.var 3) (.cons (.tup (.cons (.idx (.var 4) (.var 2)) (.cons (.pv (.int 1)) .nil))) .nil)))) .nil)))
  .pass)
def b48 : S := (.seq (.set 2 (.pv (.int 0)))
  (.seq (.for_ (.range2 (.pv (.int 1)) (.len (.idx (.idx (.var 0) (.pv (.int 1))) (.pv (.int 0))))) (.name 3)
  (.seq (.par [4, 5] (.cons (.call 47 (.cons (.var 1) (.cons (.idx (.var 0) (.pv (.int 1))) (.cons (.var 3) .nil)))) (.cons (.call 47 (.cons (.var 1) (.cons (.idx (.var 0) (.pv (.int 1))) (.cons (.var 2) .nil)))) .nil)))
  (.seq (.par [6, 7] (.cons (.call 47 (.cons (.var 1) (.cons (.idx (.var 0) (.pv (.int 2))) (.cons (.var 3) .nil)))) (.cons (.call 47 (.cons (.var 1) (.cons (.idx (.var 0) (.pv (.int 2))) (.cons (.var 2) .nil)))) .nil)))
  (.seq (.ite (.or (.call 40 (.cons (.var 5) (.cons (.var 4) .nil))) (.and (.cmp .eq (.var 4) (.var 5)) (.call 40 (.cons (.var 7) (.cons (.var 6) .nil)))))
  (.seq (.set 2 (.var 3))
  .pass)
  .pass)
  .pass))))
  (.seq (.retV (.var 2))
  .pass)))
def b49 : S := (.seq (.set 3 (.tup (.cons (.pv (.int 0)) (.cons (.pv (.int 1)) .nil))))
  (.seq (.for_ (.range (.len (.idx (.var 1) (.pv (.int 0))))) (.name 4)
  (.seq (.set 5 (.call 46 (.cons (.var 0) (.cons (.var 1) (.cons (.var 4) .nil)))))
  (.seq (.ite (.cmp .gt (.idx (.call 41 (.cons (.var 5) .nil)) (.pv (.int 0))) (.pv (.int 0)))
  (.seq (.set 3 (.call 37 (.cons (.var 3) (.cons (.call 47 (.cons (.var 5) (.cons (.var 2) (.cons (.call 48 (.cons (.var 0) (.cons (.var 5) .nil))) .nil)))) .nil))))
  .pass)
  .pass)
  .pass)))
  (.seq (.retV (.var 3))
  .pass)))
def b50 : S := (.seq (.par [3, 4, 5, 6] (.cons (.len (.idx (.var 2) (.pv (.int 0)))) (.cons (.newL .nil) (.cons (.newL .nil) (.cons .newD .nil)))))
  (.seq (.for_ (.range (.var 3)) (.name 7)
  (.seq (.set 8 (.call 46 (.cons (.var 0) (.cons (.var 2) (.cons (.var 7) .nil)))))
  (.seq (.set 9 (.call 41 (.cons (.var 8) .nil)))
  (.seq (.ite (.cmp .eq (.idx (.var 9) (.pv (.int 0))) (.pv (.int 0)))
  (.seq (.append (.var 4) (.pv .non))
  (.seq (.append (.var 5) (.pv .non))
  .pass))
  (.seq (.set 10 (.call 48 (.cons (.var 0) (.cons (.var 8) .nil))))
  (.seq (.append (.var 4) (.bi .tuple (.lc (.val (.var 8)) (.name 11) [11] (.pv (.bl true)) (.call 42 (.cons (.var 11) (.cons (.var 9) .nil))))))
  (.seq (.append (.var 5) (.var 10))
  (.seq (.for_ (.range (.len (.idx (.idx (.var 0) (.pv (.int 1))) (.pv (.int 0))))) (.name 12)
  (.seq (.ite (.cmp .ne (.var 12) (.var 10))
  (.seq (.set 13 (.call 47 (.cons (.var 8) (.cons (.idx (.var 0) (.pv (.int 1))) (.cons (.var 12) .nil)))))
  (.seq (.iset (.var 6) (.tup (.cons (.var 7) (.cons (.var 12) .nil))) (.call 39 (.cons (.call 47 (.cons (.var 8) (.cons (.idx (.var 0) (.pv (.int 1))) (.cons (.var 10) .nil)))) (.cons (.var 13) .nil))))
  .pass))
  .pass)
  .pass))
  .pass)))))
  .pass))))
  (.seq (.ite (.or (.cmp .ne (.call 28 (.cons (.var 1) (.cons (.var 2) .nil))) (.var 4)) (.or (.cmp .ne (.call 29 (.cons (.var 1) (.cons (.var 2) .nil))) (.var 5)) (.cmp .ne (.call 32 (.cons (.var 1) (.cons (.var 2) .nil))) (.var 6))))
  (.seq (.retV (.pv (.bl false)))
  .pass)
  .pass)
  (.seq (.ite (.not (.cmp .eq (.call 30 (.cons (.var 1) (.cons (.var 2) .nil))) (.call 49 (.cons (.var 0) (.cons (.var 2) (.cons (.idx (.var 0) (.pv (.int 2))) .nil))))))
  (.seq (.retV (.pv (.bl false)))
  .pass)
  .pass)
  (.seq (.retV (.cmp .eq (.call 31 (.cons (.var 1) (.cons (.var 2) .nil))) (.call 49 (.cons (.var 0) (.cons (.var 2) (.cons (.idx (.var 0) (.pv (.int 1))) .nil))))))
  .pass)))))
def b51 : S := (.seq (.set 1 (.call 43 (.cons (.var 0) (.cons (.pv (.int 0)) .nil))))
  (.seq (.par [2, 3] (.cons (.make 0 (.cons (.idx (.var 1) (.pv (.int 0))) (.cons (.idx (.var 1) (.pv (.int 1))) (.cons (.idx (.var 1) (.pv (.int 2))) .nil)))) (.cons (.len (.idx (.var 1) (.pv (.int 0)))) .nil)))
  (.seq (.ite (.or (.cmp .ne (.fld (.var 2) 0) (.idx (.var 1) (.pv (.int 0)))) (.or (.cmp .ne (.fld (.var 2) 1) (.idx (.var 1) (.pv (.int 1)))) (.or (.cmp .ne (.fld (.var 2) 2) (.idx (.var 1) (.pv (.int 2)))) (.cmp .ne (.len (.var 2)) (.var 3)))))
  (.seq (.retV (.pv (.bl false)))
  .pass)
  .pass)
  (.seq (.set 4 (.lc (.range (.var 3)) (.name 6) [6] (.pv (.bl true)) (.bi .tuple (.lc (.range (.var 3)) (.name 5) [5] (.pv (.bl true)) (.tup (.cons (.ite (.cmp .eq (.var 5) (.var 6)) (.pv (.int 1)) (.pv (.int 0))) (.cons (.pv (.int 1)) .nil)))))))
  (.seq (.ite (.or (.cmp .ne (.call 33 (.cons (.var 2) .nil)) (.bi .tuple (.var 4))) (.cmp .ne (.call 34 (.cons (.var 2) .nil)) (.op .mul (.tup (.cons (.tup (.cons (.tup (.cons (.pv (.int 1)) (.cons (.pv (.int 1)) .nil))) .nil)) .nil)) (.var 3))))
  (.seq (.retV (.pv (.bl false)))
  .pass)
  .pass)
  (.seq (.set 7 (.newL (.cons (.bi .tuple (.var 4)) (.cons (.op .mul (.tup (.cons (.tup (.cons (.tup (.cons (.pv (.int 1)) (.cons (.pv (.int 1)) .nil))) .nil)) .nil)) (.var 3)) .nil))))
  (.seq (.for_ (.range (.pv (.int 3))) (.name 8)
  (.seq (.append (.var 7) (.call 45 (.cons (.var 0) (.cons (.op .add (.pv (.int 40)) (.op .mul (.pv (.int 21)) (.var 8))) (.cons (.var 1) (.cons (.op .add (.pv (.int 1)) (.op .mod (.bi .int (.call 35 (.cons (.var 0) (.cons (.op .add (.pv (.int 105)) (.var 8)) .nil)))) (.pv (.int 4)))) .nil))))))
  .pass))
  (.seq (.retV (.bi .all (.lc (.val (.var 7)) (.name 9) [9] (.pv (.bl true)) (.call 50 (.cons (.var 1) (.cons (.var 2) (.cons (.var 9) .nil)))))))
  .pass))))))))
def T : Tab := ⟨[⟨2, 5, b0⟩, ⟨2, 2, b1⟩, ⟨2, 2, b2⟩, ⟨2, 2, b3⟩, ⟨2, 2, b4⟩, ⟨2, 2, b5⟩, ⟨1, 3, b6⟩, ⟨3, 3, b7⟩, ⟨3, 4, b8⟩, ⟨4, 5, b9⟩, ⟨4, 5, b10⟩, ⟨1, 1, b11⟩, ⟨1, 1, b12⟩, ⟨1, 1, b13⟩, ⟨1, 1, b14⟩, ⟨1, 1, b15⟩, ⟨1, 1, b16⟩, ⟨1, 1, b17⟩, ⟨1, 2, b18⟩, ⟨2, 4, b19⟩, ⟨2, 2, b20⟩, ⟨3, 5, b21⟩, ⟨3, 5, b22⟩, ⟨2, 6, b23⟩, ⟨2, 4, b24⟩, ⟨1, 1, b25⟩, ⟨1, 2, b26⟩, ⟨2, 5, b27⟩, ⟨2, 6, b28⟩, ⟨2, 4, b29⟩, ⟨2, 4, b30⟩, ⟨2, 4, b31⟩, ⟨2, 7, b32⟩, ⟨1, 3, b33⟩, ⟨1, 2, b34⟩, ⟨2, 2, b35⟩, ⟨2, 4, b36⟩, ⟨2, 2, b37⟩, ⟨2, 2, b38⟩, ⟨2, 2, b39⟩, ⟨2, 2, b40⟩, ⟨1, 3, b41⟩, ⟨2, 2, b42⟩, ⟨2, 9, b43⟩, ⟨2, 2, b44⟩, ⟨4, 9, b45⟩, ⟨3, 5, b46⟩, ⟨3, 5, b47⟩, ⟨2, 8, b48⟩, ⟨3, 6, b49⟩, ⟨3, 14, b50⟩, ⟨1, 10, b51⟩], cls⟩
def loose : List Str := (sls ["SayError", "BadMatter", "BadTable", "NONE", "ONE", "lowest", "plus", "minus", "times", "over", "is_less", "total", "MIN_CASES", "MAX_CASES", "MIN_ACTS", "MAX_ACTS", "MAX_PART", "MAX_GAIN", "MAX_WORTH", "MAX_WORDS", "is_integer", "are_integers", "are_rows", "Matter", "check_matter", "acts_of", "is_chance", "is_table", "check_table", "weights_of", "summed_by", "best_acts", "act_by", "words_of", "is_said", "said_words", "beliefs", "acts_after", "worth_of", "gain_of", "swerves", "whole_table", "silent_table", "_law_cell_at", "_law_pick", "_law_low", "_law_plus", "_law_times", "_law_minus", "_law_less", "_law_sum", "_law_over", "_law_matter", "_law_chance", "_law_table", "_law_shares", "_law_count", "_law_done", "_law_value", "_law_told_right"])
def pg : Pg := ⟨tb, cn, ds, T⟩
theorem bd0 : BindI d0 := fun _ _ _ _ _ _ us hl => match us, hl with | [_, _], _ => rfl
theorem bd1 : BindI d1 := fun _ _ _ _ _ _ us hl => match us, hl with | [_, _], _ => rfl
theorem bd2 : BindI d2 := fun _ _ _ _ _ _ us hl => match us, hl with | [_, _], _ => rfl
theorem bd3 : BindI d3 := fun _ _ _ _ _ _ us hl => match us, hl with | [_, _], _ => rfl
theorem bd4 : BindI d4 := fun _ _ _ _ _ _ us hl => match us, hl with | [_, _], _ => rfl
theorem bd5 : BindI d5 := fun _ _ _ _ _ _ us hl => match us, hl with | [_, _], _ => rfl
theorem bd6 : BindI d6 := fun _ _ _ _ _ _ us hl => match us, hl with | [_], _ => rfl
theorem bd7 : BindI d7 := fun _ _ _ _ _ _ us hl => match us, hl with | [_, _, _], _ => rfl
theorem bd8 : BindI d8 := fun _ _ _ _ _ _ us hl => match us, hl with | [_, _, _], _ => rfl
theorem bd9 : BindI d9 := fun _ _ _ _ _ _ us hl => match us, hl with | [_, _, _, _], _ => rfl
theorem bd10 : BindI d10 := fun _ _ _ _ _ _ us hl => match us, hl with | [_, _, _, _], _ => rfl
theorem bd11 : BindI d11 := fun _ _ _ _ _ _ us hl => match us, hl with | [_], _ => rfl
theorem bd12 : BindI d12 := fun _ _ _ _ _ _ us hl => match us, hl with | [_], _ => rfl
theorem bd13 : BindI d13 := fun _ _ _ _ _ _ us hl => match us, hl with | [_], _ => rfl
theorem bd14 : BindI d14 := fun _ _ _ _ _ _ us hl => match us, hl with | [_], _ => rfl
theorem bd15 : BindI d15 := fun _ _ _ _ _ _ us hl => match us, hl with | [_], _ => rfl
theorem bd16 : BindI d16 := fun _ _ _ _ _ _ us hl => match us, hl with | [_], _ => rfl
theorem bd17 : BindI d17 := fun _ _ _ _ _ _ us hl => match us, hl with | [_], _ => rfl
theorem bd18 : BindI d18 := fun _ _ _ _ _ _ us hl => match us, hl with | [_], _ => rfl
theorem bd19 : BindI d19 := fun _ _ _ _ _ _ us hl => match us, hl with | [_, _], _ => rfl
theorem bd20 : BindI d20 := fun _ _ _ _ _ _ us hl => match us, hl with | [_, _], _ => rfl
theorem bd21 : BindI d21 := fun _ _ _ _ _ _ us hl => match us, hl with | [_, _, _], _ => rfl
theorem bd22 : BindI d22 := fun _ _ _ _ _ _ us hl => match us, hl with | [_, _, _], _ => rfl
theorem bd23 : BindI d23 := fun _ _ _ _ _ _ us hl => match us, hl with | [_, _], _ => rfl
theorem bd24 : BindI d24 := fun _ _ _ _ _ _ us hl => match us, hl with | [_, _], _ => rfl
theorem bd25 : BindI d25 := fun _ _ _ _ _ _ us hl => match us, hl with | [_], _ => rfl
theorem bd26 : BindI d26 := fun _ _ _ _ _ _ us hl => match us, hl with | [_], _ => rfl
theorem bd27 : BindI d27 := fun _ _ _ _ _ _ us hl => match us, hl with | [_, _], _ => rfl
theorem bd28 : BindI d28 := fun _ _ _ _ _ _ us hl => match us, hl with | [_, _], _ => rfl
theorem bd29 : BindI d29 := fun _ _ _ _ _ _ us hl => match us, hl with | [_, _], _ => rfl
theorem bd30 : BindI d30 := fun _ _ _ _ _ _ us hl => match us, hl with | [_, _], _ => rfl
theorem bd31 : BindI d31 := fun _ _ _ _ _ _ us hl => match us, hl with | [_, _], _ => rfl
theorem bd32 : BindI d32 := fun _ _ _ _ _ _ us hl => match us, hl with | [_, _], _ => rfl
theorem bd33 : BindI d33 := fun _ _ _ _ _ _ us hl => match us, hl with | [_], _ => rfl
theorem bd34 : BindI d34 := fun _ _ _ _ _ _ us hl => match us, hl with | [_], _ => rfl
theorem bd35 : BindI d35 := fun _ _ _ _ _ _ us hl => match us, hl with | [_, _], _ => rfl
theorem bd36 : BindI d36 := fun _ _ _ _ _ _ us hl => match us, hl with | [_, _], _ => rfl
theorem bd37 : BindI d37 := fun _ _ _ _ _ _ us hl => match us, hl with | [_, _], _ => rfl
theorem bd38 : BindI d38 := fun _ _ _ _ _ _ us hl => match us, hl with | [_, _], _ => rfl
theorem bd39 : BindI d39 := fun _ _ _ _ _ _ us hl => match us, hl with | [_, _], _ => rfl
theorem bd40 : BindI d40 := fun _ _ _ _ _ _ us hl => match us, hl with | [_, _], _ => rfl
theorem bd41 : BindI d41 := fun _ _ _ _ _ _ us hl => match us, hl with | [_], _ => rfl
theorem bd42 : BindI d42 := fun _ _ _ _ _ _ us hl => match us, hl with | [_, _], _ => rfl
theorem bd43 : BindI d43 := fun _ _ _ _ _ _ us hl => match us, hl with | [_, _], _ => rfl
theorem bd44 : BindI d44 := fun _ _ _ _ _ _ us hl => match us, hl with | [_, _], _ => rfl
theorem bd45 : BindI d45 := fun _ _ _ _ _ _ us hl => match us, hl with | [_, _, _, _], _ => rfl
theorem bd46 : BindI d46 := fun _ _ _ _ _ _ us hl => match us, hl with | [_, _, _], _ => rfl
theorem bd47 : BindI d47 := fun _ _ _ _ _ _ us hl => match us, hl with | [_, _, _], _ => rfl
theorem bd48 : BindI d48 := fun _ _ _ _ _ _ us hl => match us, hl with | [_, _], _ => rfl
theorem bd49 : BindI d49 := fun _ _ _ _ _ _ us hl => match us, hl with | [_, _, _], _ => rfl
theorem bd50 : BindI d50 := fun _ _ _ _ _ _ us hl => match us, hl with | [_, _, _], _ => rfl
theorem bd51 : BindI d51 := fun _ _ _ _ _ _ us hl => match us, hl with | [_], _ => rfl
theorem cd0 : codeOfD tb d0 = some b0 := by kernel_rfl
theorem cd1 : codeOfD tb d1 = some b1 := by kernel_rfl
theorem cd2 : codeOfD tb d2 = some b2 := by kernel_rfl
theorem cd3 : codeOfD tb d3 = some b3 := by kernel_rfl
theorem cd4 : codeOfD tb d4 = some b4 := by kernel_rfl
theorem cd5 : codeOfD tb d5 = some b5 := by kernel_rfl
theorem cd6 : codeOfD tb d6 = some b6 := by kernel_rfl
theorem cd7 : codeOfD tb d7 = some b7 := by kernel_rfl
theorem cd8 : codeOfD tb d8 = some b8 := by kernel_rfl
theorem cd9 : codeOfD tb d9 = some b9 := by kernel_rfl
theorem cd10 : codeOfD tb d10 = some b10 := by kernel_rfl
theorem cd11 : codeOfD tb d11 = some b11 := by kernel_rfl
theorem cd12 : codeOfD tb d12 = some b12 := by kernel_rfl
theorem cd13 : codeOfD tb d13 = some b13 := by kernel_rfl
theorem cd14 : codeOfD tb d14 = some b14 := by kernel_rfl
theorem cd15 : codeOfD tb d15 = some b15 := by kernel_rfl
theorem cd16 : codeOfD tb d16 = some b16 := by kernel_rfl
theorem cd17 : codeOfD tb d17 = some b17 := by kernel_rfl
theorem cd18 : codeOfD tb d18 = some b18 := by kernel_rfl
theorem cd19 : codeOfD tb d19 = some b19 := by kernel_rfl
theorem cd20 : codeOfD tb d20 = some b20 := by kernel_rfl
theorem cd21 : codeOfD tb d21 = some b21 := by kernel_rfl
theorem cd22 : codeOfD tb d22 = some b22 := by kernel_rfl
theorem cd23 : codeOfD tb d23 = some b23 := by kernel_rfl
theorem cd24 : codeOfD tb d24 = some b24 := by kernel_rfl
theorem cd25 : codeOfD tb d25 = some b25 := by kernel_rfl
theorem cd26 : codeOfD tb d26 = some b26 := by kernel_rfl
theorem cd27 : codeOfD tb d27 = some b27 := by kernel_rfl
theorem cd28 : codeOfD tb d28 = some b28 := by kernel_rfl
theorem cd29 : codeOfD tb d29 = some b29 := by kernel_rfl
theorem cd30 : codeOfD tb d30 = some b30 := by kernel_rfl
theorem cd31 : codeOfD tb d31 = some b31 := by kernel_rfl
theorem cd32 : codeOfD tb d32 = some b32 := by kernel_rfl
theorem cd33 : codeOfD tb d33 = some b33 := by kernel_rfl
theorem cd34 : codeOfD tb d34 = some b34 := by kernel_rfl
theorem cd35 : codeOfD tb d35 = some b35 := by kernel_rfl
theorem cd36 : codeOfD tb d36 = some b36 := by kernel_rfl
theorem cd37 : codeOfD tb d37 = some b37 := by kernel_rfl
theorem cd38 : codeOfD tb d38 = some b38 := by kernel_rfl
theorem cd39 : codeOfD tb d39 = some b39 := by kernel_rfl
theorem cd40 : codeOfD tb d40 = some b40 := by kernel_rfl
theorem cd41 : codeOfD tb d41 = some b41 := by kernel_rfl
theorem cd42 : codeOfD tb d42 = some b42 := by kernel_rfl
theorem cd43 : codeOfD tb d43 = some b43 := by kernel_rfl
theorem cd44 : codeOfD tb d44 = some b44 := by kernel_rfl
theorem cd45 : codeOfD tb d45 = some b45 := by kernel_rfl
theorem cd46 : codeOfD tb d46 = some b46 := by kernel_rfl
theorem cd47 : codeOfD tb d47 = some b47 := by kernel_rfl
theorem cd48 : codeOfD tb d48 = some b48 := by kernel_rfl
theorem cd49 : codeOfD tb d49 = some b49 := by kernel_rfl
theorem cd50 : codeOfD tb d50 = some b50 := by kernel_rfl
theorem cd51 : codeOfD tb d51 = some b51 := by kernel_rfl
theorem bds : AllD BindI ds := ⟨bd0, bd1, bd2, bd3, bd4, bd5, bd6, bd7, bd8, bd9, bd10, bd11, bd12, bd13, bd14, bd15, bd16, bd17, bd18, bd19, bd20, bd21, bd22, bd23, bd24, bd25, bd26, bd27, bd28, bd29, bd30, bd31, bd32, bd33, bd34, bd35, bd36, bd37, bd38, bd39, bd40, bd41, bd42, bd43, bd44, bd45, bd46, bd47, bd48, bd49, bd50, bd51, trivial⟩
theorem cds : AllC tb ds T.fns := ⟨⟨cd0, rfl, rfl⟩, ⟨cd1, rfl, rfl⟩, ⟨cd2, rfl, rfl⟩, ⟨cd3, rfl, rfl⟩, ⟨cd4, rfl, rfl⟩, ⟨cd5, rfl, rfl⟩, ⟨cd6, rfl, rfl⟩, ⟨cd7, rfl, rfl⟩, ⟨cd8, rfl, rfl⟩, ⟨cd9, rfl, rfl⟩, ⟨cd10, rfl, rfl⟩, ⟨cd11, rfl, rfl⟩, ⟨cd12, rfl, rfl⟩, ⟨cd13, rfl, rfl⟩, ⟨cd14, rfl, rfl⟩, ⟨cd15, rfl, rfl⟩, ⟨cd16, rfl, rfl⟩, ⟨cd17, rfl, rfl⟩, ⟨cd18, rfl, rfl⟩, ⟨cd19, rfl, rfl⟩, ⟨cd20, rfl, rfl⟩, ⟨cd21, rfl, rfl⟩, ⟨cd22, rfl, rfl⟩, ⟨cd23, rfl, rfl⟩, ⟨cd24, rfl, rfl⟩, ⟨cd25, rfl, rfl⟩, ⟨cd26, rfl, rfl⟩, ⟨cd27, rfl, rfl⟩, ⟨cd28, rfl, rfl⟩, ⟨cd29, rfl, rfl⟩, ⟨cd30, rfl, rfl⟩, ⟨cd31, rfl, rfl⟩, ⟨cd32, rfl, rfl⟩, ⟨cd33, rfl, rfl⟩, ⟨cd34, rfl, rfl⟩, ⟨cd35, rfl, rfl⟩, ⟨cd36, rfl, rfl⟩, ⟨cd37, rfl, rfl⟩, ⟨cd38, rfl, rfl⟩, ⟨cd39, rfl, rfl⟩, ⟨cd40, rfl, rfl⟩, ⟨cd41, rfl, rfl⟩, ⟨cd42, rfl, rfl⟩, ⟨cd43, rfl, rfl⟩, ⟨cd44, rfl, rfl⟩, ⟨cd45, rfl, rfl⟩, ⟨cd46, rfl, rfl⟩, ⟨cd47, rfl, rfl⟩, ⟨cd48, rfl, rfl⟩, ⟨cd49, rfl, rfl⟩, ⟨cd50, rfl, rfl⟩, ⟨cd51, rfl, rfl⟩, trivial⟩
theorem text : TextOk pg := ⟨bds.at, cds.at, by decide +kernel, rfl, by decide, by decide, by decide +kernel, by decide +kernel⟩
end K1

end

section
namespace K1
open PySem PySem.Spec PyProof.Rows L2 Sw
abbrev R : PySem.W.OpenRow := PySem.W.OpenLaw.row PySem.Challenge.rw_saywhat_k01_whole_tellings
abbrev hk : PySem.W.Hook := pg.hook 6
def ob (s : PySem.W.SharedT) : AlS := pg.ob 6 s
theorem run (w : World) : HandSHeadRun.RunEq R (PySem.W.view R.prog [65]) hk ob 4000 loose w := by
  intro os
  kernel_rfl
end K1

end

section
open PySem PySem.W PySem.Calls PyProof.Rows
theorem K1.holds (plain : ∀ ns : List Int, ns.length ≤ 63 → ∃ h, (Sw.calls K1.T 100000 20).run 51 [.p (.lst (ns.map .int))] [] = .ok (.p (.bl true)) h) : PySem.Challenge.rw_saywhat_k01_whole_tellings.Holds := by
  w_on; o_law
  refine HandSHeadRun.head_any (r := OpenLaw.row PySem.Challenge.rw_saywhat_k01_whole_tellings) (q := view (OpenLaw.row PySem.Challenge.rw_saywhat_k01_whole_tellings).prog [65]) (H := K1.hk) (ob := K1.ob) (M := 4000) (loose := K1.loose) (d := HandSHeadRun.topDef (OpenLaw.row PySem.Challenge.rw_saywhat_k01_whole_tellings).prog 65) (kwd := []) (fun s => Sw.Pg.ob_eq K1.pg 6 s)
    (by kernel_rfl) (fun s => by kernel_rfl) K1.run (by kernel_rfl) (by kernel_rfl) (by kernel_rfl) (by rfl) (by first | assumption | decide +kernel) (by decide +kernel) ⟨rfl, rfl, rfl, rfl, rfl, by decide +kernel⟩ ?hw ?hc
  case hw => w_witness2
  case hc => exact Sw.Pg.walk (l := PySem.Challenge.rw_saywhat_k01_whole_tellings) K1.text (li := 51) (dl := K1.d51) (x := Str.ofString "_law_script") (nn := 19) (fuel := 100000) rfl rfl (by kernel_rfl) rfl (by kernel_rfl) ⟨rfl, by decide, by decide⟩ plain

end

section
/-! The law k01, plain. -/
namespace K1
open PySem (Str)
open Sw
theorem tels : Tels T where
  f0 := rfl
  f1 := rfl
  f2 := rfl
  f3 := rfl
  f4 := rfl
  f5 := rfl
  f6 := rfl
  f7 := rfl
  f8 := rfl
  f9 := rfl
  f10 := rfl
  f11 := rfl
  f12 := rfl
  f13 := rfl
  f14 := rfl
  f15 := rfl
  f16 := rfl
  f17 := rfl
  f18 := rfl
  f19 := rfl
  f20 := rfl
  f21 := rfl
  f22 := rfl
  f23 := rfl
  f24 := rfl
  f25 := rfl
  f26 := rfl
  f27 := rfl
  f28 := rfl
  f29 := rfl
  f30 := rfl
  f31 := rfl
  f32 := rfl
  f33 := rfl
  f34 := rfl
  a0 := rfl
  a1 := rfl
  a2 := rfl
  a3 := rfl
  a4 := rfl
  a5 := rfl
  a6 := rfl
  a7 := rfl
  ln := rfl
  ini := rfl
  c0 := rfl
section
variable {n fuel : Nat} {h : Store} {m : Mt} {na nw : Nat} {t : List (List Rat)}
theorem low (hf : 16400 ≤ fuel) : LowIs T fuel 36 := fun n h a b hb hB => lawLow_ok (i := 36) rfl hf hb hB
theorem cell1 (s : List Int) (k : Nat) : callV (calls T fuel (n + 1)) 35 [.lst (s.map .int), .int k] h = .ok (.p (.int (cell s k))) h := cell_ok (i := 35) rfl
/-! ### the matter that is drawn -/
def many (s : List Int) : Nat := (2 + cell s 0 % 3).toNat
def acts (s : List Int) : Nat := (2 + cell s 1 % 3).toNat
def mt (s : List Int) : Mt := ⟨(List.range (many s)).map fun p => 1 + cell s (2 + p) % 6, (List.range (many s)).map fun p => (List.range (acts s)).map fun a => cell s (6 + 4 * p + a) % 19 - 9,
  (List.range (many s)).map fun p => (List.range (acts s)).map fun a => cell s (22 + 4 * p + a) % 10⟩
theorem many_eq (s : List Int) : 2 + cell s 0 % 3 = (many s : Int) := by unfold many; omega
theorem acts_eq (s : List Int) : 2 + cell s 1 % 3 = (acts s : Int) := by unfold acts; omega
theorem many_b (s : List Int) : 2 ≤ many s ∧ many s ≤ 4 := by unfold many; omega
theorem acts_b (s : List Int) : 2 ≤ acts s ∧ acts s ≤ 4 := by unfold acts; omega
theorem mt_ps (s : List Int) : (mt s).ps.length = many s := by simp [mt]
theorem mt_ok (s : List Int) : MtOk (mt s) (acts s) where
  pl := by rw [mt_ps]; exact (many_b s).1
  pu := by rw [mt_ps]; exact (many_b s).2
  pb := fun p hp => by
    obtain ⟨i, hi, rfl⟩ := List.mem_map.mp hp
    omega
  gl := by simp [mt]
  wl := by simp [mt]
  al := (acts_b s).1
  au := (acts_b s).2
  gr := fun r hr => by
    obtain ⟨i, hi, rfl⟩ := List.mem_map.mp hr
    refine ⟨by simp, fun x hx => ?_⟩
    obtain ⟨j, hj, rfl⟩ := List.mem_map.mp hx
    omega
  wr := fun r hr => by
    obtain ⟨i, hi, rfl⟩ := List.mem_map.mp hr
    refine ⟨by simp, fun x hx => ?_⟩
    obtain ⟨j, hj, rfl⟩ := List.mem_map.mp hx
    omega
def plainV (m : Mt) : PV := .tup [pvI m.ps, pvM m.gs, pvM m.ws]
theorem matter_ok {s : List Int} : callV (calls T fuel (n + 2)) 43 [.lst (s.map .int), .int 0] h = .ok (.p (plainV (mt s))) h := by
  rw [callV_at (show T.fns[43]? = some ⟨2, 9, b43⟩ from rfl) rfl]
  have mb := many_b s
  have ab := acts_b s
  have c0 : ∀ h, callV (calls T fuel (n + 1)) 35 [.lst (s.map .int), .int 0] h = .ok (.p (.int (cell s 0))) h := fun h => cell1 s 0
  have c1 : ∀ h, callV (calls T fuel (n + 1)) 35 [.lst (s.map .int), .int 1] h = .ok (.p (.int (cell s 1))) h := fun h => cell1 s 1
  have c2 : ∀ (p : Nat) h, callV (calls T fuel (n + 1)) 35 [.lst (s.map .int), .int (2 + p)] h = .ok (.p (.int (cell s (2 + p)))) h := fun p h => by
    have := cell1 (n := n) (fuel := fuel) (h := h) s (2 + p); simpa using this
  have c6 : ∀ (p a : Nat) h, callV (calls T fuel (n + 1)) 35 [.lst (s.map .int), .int (6 + 4 * p + a)] h = .ok (.p (.int (cell s (6 + 4 * p + a)))) h := fun p a h => by
    have := cell1 (n := n) (fuel := fuel) (h := h) s (6 + 4 * p + a); simpa using this
  have c22 : ∀ (p a : Nat) h, callV (calls T fuel (n + 1)) 35 [.lst (s.map .int), .int (22 + 4 * p + a)] h = .ok (.p (.int (cell s (22 + 4 * p + a)))) h := fun p a h => by
    have := cell1 (n := n) (fuel := fuel) (h := h) s (22 + 4 * p + a); simpa using this
  have m3 : ∀ i : Int, op2 .mod (.int i) (.int 3) = some (.int (i % 3)) := fun i => op2_mod_int (by decide)
  have m6 : ∀ i : Int, op2 .mod (.int i) (.int 6) = some (.int (i % 6)) := fun i => op2_mod_int (by decide)
  have m19 : ∀ i : Int, op2 .mod (.int i) (.int 19) = some (.int (i % 19)) := fun i => op2_mod_int (by decide)
  have m10 : ∀ i : Int, op2 .mod (.int i) (.int 10) = some (.int (i % 10)) := fun i => op2_mod_int (by decide)
  have m4 : ∀ i : Int, op2 .mul (.int 4) (.int i) = some (.int (4 * i)) := fun i => op2_mul_sl (by decide)
  have s0 : (0 : Nat) ≤ sizeMax := by decide
  have s3 : (3 : Nat) ≤ sizeMax := by decide
  have ms : many s ≤ sizeMax := by unfold sizeMax; omega
  have as : acts s ≤ sizeMax := by unfold sizeMax; omega
  have rgm := fun h => rg_nat (n := many s) (h := h) (by omega)
  have rga := fun h => rg_nat (n := acts s) (h := h) (by omega)
  have l1 : ∀ h0 : Store, lcGo (lcP T (calls T fuel (n + 1)) (.pv (.bl true)) (.op .add (.pv (.int 1)) (.op .mod (.bi .int (.call 35 (.cons (.var 0) (.cons (.op .add (.op .add (.var 1) (.pv (.int 2))) (.var 7)) .nil)))) (.pv (.int 6))))) (.name 7) [some (.p (.lst (s.map .int))), some (.p (.int 0)), some (.p (.int (many s))), some (.p (.int (acts s))), some (.loc 0), some (.loc 1), none, none, none] ((List.range (many s)).map fun (i : Nat) => PV.int i) [] h0 = .ok ((mt s).ps.map .int) h0 := fun h0 => by
    have := lc_map (f := lcP T (calls T fuel (n + 1)) (.pv (.bl true)) (.op .add (.pv (.int 1)) (.op .mod (.bi .int (.call 35 (.cons (.var 0) (.cons (.op .add (.op .add (.var 1) (.pv (.int 2))) (.var 7)) .nil)))) (.pv (.int 6))))) (t := .name 7) (ρ := [some (.p (.lst (s.map .int))), some (.p (.int 0)), some (.p (.int (many s))), some (.p (.int (acts s))), some (.loc 0), some (.loc 1), none, none, none]) (val := fun (i : Nat) => PV.int i) (res := fun p => .int (1 + cell s (2 + p) % 6)) (h := h0) (xs := List.range (many s)) (acc := []) fun p hp =>
      ⟨_, rfl, by simp (implicitDefEqProofs := false) [lcP, c2, m6]⟩
    rw [this]
    simp [mt, Function.comp_def]
  have lp := forGo_inv (b := evS T (calls T fuel (n + 1)) (.seq (.append (.var 4) (.bi .tuple (.lc (.range (.var 3)) (.name 8) [8] (.pv (.bl true)) (.op .sub (.op .mod (.bi .int (.call 35 (.cons (.var 0) (.cons (.op .add (.op .add (.op .add (.var 1) (.pv (.int 6))) (.op .mul (.pv (.int 4)) (.var 7))) (.var 8)) .nil)))) (.pv (.int 19))) (.pv (.int 9))))))
      (.seq (.append (.var 5) (.bi .tuple (.lc (.range (.var 3)) (.name 8) [8] (.pv (.bl true)) (.op .mod (.bi .int (.call 35 (.cons (.var 0) (.cons (.op .add (.op .add (.op .add (.var 1) (.pv (.int 22))) (.op .mul (.pv (.int 4)) (.var 7))) (.var 8)) .nil)))) (.pv (.int 10)))))) .pass))) (t := .name 7) (val := fun (p : Nat) => PV.int p) (xs := List.range (many s))
    (fun pre ρ h => ∃ o7, ρ = [some (.p (.lst (s.map .int))), some (.p (.int 0)), some (.p (.int (many s))), some (.p (.int (acts s))), some (.loc 0), some (.loc 1), some (.p (pvI (mt s).ps)), o7, none] ∧
      h = [.lst ((pre.map fun p => (List.range (acts s)).map fun a => cell s (6 + 4 * p + a) % 19 - 9).map pvI), .lst ((pre.map fun p => (List.range (acts s)).map fun a => cell s (22 + 4 * p + a) % 10).map pvI)])
    (fun pre p post ρ h e ⟨o7, hρ, hh⟩ => by
      subst hρ hh
      have hpl : pre.length < sizeMax := by
        have := congrArg List.length e
        simp at this
        unfold sizeMax
        omega
      refine ⟨_, [some (.p (.lst (s.map .int))), some (.p (.int 0)), some (.p (.int (many s))), some (.p (.int (acts s))), some (.loc 0), some (.loc 1), some (.p (pvI (mt s).ps)), some (.p (.int p)), none],
        [.lst (((pre ++ [p]).map fun p => (List.range (acts s)).map fun a => cell s (6 + 4 * p + a) % 19 - 9).map pvI), .lst (((pre ++ [p]).map fun p => (List.range (acts s)).map fun a => cell s (22 + 4 * p + a) % 10).map pvI)], rfl, ?_, ⟨_, rfl, rfl⟩⟩
      have g1 : ∀ h0 : Store, lcGo (lcP T (calls T fuel (n + 1)) (.pv (.bl true)) (.op .sub (.op .mod (.bi .int (.call 35 (.cons (.var 0) (.cons (.op .add (.op .add (.op .add (.var 1) (.pv (.int 6))) (.op .mul (.pv (.int 4)) (.var 7))) (.var 8)) .nil)))) (.pv (.int 19))) (.pv (.int 9)))) (.name 8) [some (.p (.lst (s.map .int))), some (.p (.int 0)), some (.p (.int (many s))), some (.p (.int (acts s))), some (.loc 0), some (.loc 1), some (.p (pvI (mt s).ps)), some (.p (.int p)), none] ((List.range (acts s)).map fun (i : Nat) => PV.int i) [] h0 = .ok (((List.range (acts s)).map fun a => cell s (6 + 4 * p + a) % 19 - 9).map .int) h0 := fun h0 => by
        have := lc_map (f := lcP T (calls T fuel (n + 1)) (.pv (.bl true)) (.op .sub (.op .mod (.bi .int (.call 35 (.cons (.var 0) (.cons (.op .add (.op .add (.op .add (.var 1) (.pv (.int 6))) (.op .mul (.pv (.int 4)) (.var 7))) (.var 8)) .nil)))) (.pv (.int 19))) (.pv (.int 9)))) (t := .name 8) (ρ := [some (.p (.lst (s.map .int))), some (.p (.int 0)), some (.p (.int (many s))), some (.p (.int (acts s))), some (.loc 0), some (.loc 1), some (.p (pvI (mt s).ps)), some (.p (.int p)), none]) (val := fun (i : Nat) => PV.int i) (res := fun a => .int (cell s (6 + 4 * p + a) % 19 - 9)) (h := h0) (xs := List.range (acts s)) (acc := []) fun a ha =>
          ⟨_, rfl, by simp (implicitDefEqProofs := false) [lcP, m4, c6, m19]⟩
        rw [this]
        simp [Function.comp_def]
      have g2 : ∀ h0 : Store, lcGo (lcP T (calls T fuel (n + 1)) (.pv (.bl true)) (.op .mod (.bi .int (.call 35 (.cons (.var 0) (.cons (.op .add (.op .add (.op .add (.var 1) (.pv (.int 22))) (.op .mul (.pv (.int 4)) (.var 7))) (.var 8)) .nil)))) (.pv (.int 10)))) (.name 8) [some (.p (.lst (s.map .int))), some (.p (.int 0)), some (.p (.int (many s))), some (.p (.int (acts s))), some (.loc 0), some (.loc 1), some (.p (pvI (mt s).ps)), some (.p (.int p)), none] ((List.range (acts s)).map fun (i : Nat) => PV.int i) [] h0 = .ok (((List.range (acts s)).map fun a => cell s (22 + 4 * p + a) % 10).map .int) h0 := fun h0 => by
        have := lc_map (f := lcP T (calls T fuel (n + 1)) (.pv (.bl true)) (.op .mod (.bi .int (.call 35 (.cons (.var 0) (.cons (.op .add (.op .add (.op .add (.var 1) (.pv (.int 22))) (.op .mul (.pv (.int 4)) (.var 7))) (.var 8)) .nil)))) (.pv (.int 10)))) (t := .name 8) (ρ := [some (.p (.lst (s.map .int))), some (.p (.int 0)), some (.p (.int (many s))), some (.p (.int (acts s))), some (.loc 0), some (.loc 1), some (.p (pvI (mt s).ps)), some (.p (.int p)), none]) (val := fun (i : Nat) => PV.int i) (res := fun a => .int (cell s (22 + 4 * p + a) % 10)) (h := h0) (xs := List.range (acts s)) (acc := []) fun a ha =>
          ⟨_, rfl, by simp (implicitDefEqProofs := false) [lcP, m4, c22, m10]⟩
        rw [this]
        simp [Function.comp_def]
      have ep : ∀ l : List Int, PV.tup (l.map .int) = pvI l := fun _ => rfl
      simp (implicitDefEqProofs := false) [-rgV_int, -List.map_map, isLst, rga, g1, g2, as, appV, hpl, ep])
    (ρ := [some (.p (.lst (s.map .int))), some (.p (.int 0)), some (.p (.int (many s))), some (.p (.int (acts s))), some (.loc 0), some (.loc 1), some (.p (pvI (mt s).ps)), none, none]) (h := [.lst [], .lst []]) ⟨_, rfl, rfl⟩
  obtain ⟨ρ', h', e1, o7, e2, e3⟩ := lp
  subst e2 e3
  have ep : PV.tup ((mt s).ps.map .int) = pvI (mt s).ps := rfl
  simp (implicitDefEqProofs := false) only [b43, startE, List.map_cons, List.map_nil]
  simp (implicitDefEqProofs := false) [-rgV_int, c0, c1, m3, many_eq, acts_eq, setAll, s0, rgm, l1, ms, ep, e1]
  simp (implicitDefEqProofs := false) [vw, view, s3, plainV, mt, pvM]
end
end K1

end

section
/-! The law k01: its own look at a table. -/
namespace K1
open PySem (Str)
open Sw
section
variable {n fuel : Nat} {h : Store} {m : Mt} {na nw : Nat} {t : List (List Rat)}
@[simp] theorem plain0 (m : Mt) : idx2 (plainV m) (.int 0) = some (pvI m.ps) := rfl
@[simp] theorem plain1 (m : Mt) : idx2 (plainV m) (.int 1) = some (pvM m.gs) := rfl
@[simp] theorem plain2 (m : Mt) : idx2 (plainV m) (.int 2) = some (pvM m.ws) := rfl
@[simp] theorem sum_pvI (l : List Int) : bi1 .sum (pvI l) = some (.int l.sum) := bi_sum_t l
theorem ch_at {p : Nat} (hp : p < m.ps.length) : gR m.ch p = Rat.divInt (gI m.ps p) m.ps.sum := by
  unfold gR gI Mt.ch
  rw [List.getD_eq_getElem?_getD, List.getD_eq_getElem?_getD, List.getElem?_map, List.getElem?_eq_getElem hp]
  rfl
theorem sum_big (K : MtOk m na) : Big m.ps.sum := by
  have := K.sum
  have : m.ps.sum.natAbs < 2 ^ 5 := by omega
  exact Nat.lt_of_lt_of_le this (pow_le (by omega))
theorem chance_ok (hf : 16400 ≤ fuel) (K : MtOk m na) {p : Nat} (hp : p < m.ps.length) : callV (calls T fuel (n + 2)) 44 [plainV m, .int p] h = .ok (.p (frac (gR m.ch p))) h := by
  rw [callV_at (show T.fns[44]? = some ⟨2, 2, b44⟩ from rfl) rfl, ch_at hp]
  have := K.sum
  simp (implicitDefEqProofs := false) [b44, startE, get_int hp, low hf n _ _ _ (show 0 < m.ps.sum by omega) (sum_big K)]
theorem ch_sm (K : MtOk m na) {p : Nat} (hp : p < m.ps.length) : Sm 5 (gR m.ch p) := by
  refine K.chS _ ?_
  unfold gR
  rw [List.getD_eq_getElem?_getD, List.getElem?_eq_getElem (by rw [Mt.ch_len]; exact hp)]
  exact List.getElem_mem _
theorem wts_enum (hl : t.length = m.ps.length) (w : Nat) : (((List.range t.length).zip t).map fun p => frac (gR m.ch p.1 * gR p.2 w)) = (wtsOf m.ch t w).map frac := by
  unfold wtsOf
  rw [List.map_map]
  refine List.ext_getElem (by simp [Mt.ch_len, hl]) fun i h1 h2 => ?_
  have hi : i < t.length := by simp at h1; exact h1
  have hc : i < m.ch.length := by rw [Mt.ch_len]; omega
  simp [gR, hc]
theorem shares_ok (hf : 16400 ≤ fuel) (K : MtOk m na) (R : TbR t m.ps.length nw) {w : Nat} (hw : w < nw) : callV (calls T fuel (n + 3)) 46 [plainV m, pvT t, .int w] h = .ok (.p (wtV m t w)) h := by
  have tl := R.tl
  have pu := K.pu
  have hs : m.ps.length ≤ sizeMax := by unfold sizeMax; omega
  rw [callV_at (show T.fns[46]? = some ⟨3, 5, b46⟩ from rfl) rfl]
  simp (implicitDefEqProofs := false) [b46, startE, pvT, enum_list0]
  rw [lc_map (val := fun p : Nat × List Rat => .tup [.int p.1, pvR p.2]) (res := fun p => frac (gR m.ch p.1 * gR p.2 w))]
  · rw [wts_enum tl]
    simp (implicitDefEqProofs := false) [tl, hs, wtV]
  · intro p hp
    have h1 : p.1 < m.ps.length := by rw [← tl]; exact List.mem_range.mp (zip_mem1 hp)
    have h2 := zip_mem2 hp
    have hl := R.rl p.2 h2
    have h3 := (R.rq p.2 h2 (gR p.2 w) (by
      unfold gR
      rw [List.getD_eq_getElem?_getD, List.getElem?_eq_getElem (by omega)]
      exact List.getElem_mem _)).2.2
    exact ⟨_, rfl, by simp (implicitDefEqProofs := false) [lcP, get_row (show w < p.2.length by omega), chance_ok hf K h1, lawTimes_ok (low hf) (i := 38) rfl (ch_sm K h1) h3]⟩
theorem count_ok (hf : 16400 ≤ fuel) {x : List Rat} {rows : List (List Int)} {a k : Nat} (hx : ∀ q ∈ x, Sm k q) (hr : ∀ r ∈ rows, a < r.length ∧ ∀ z ∈ r, -9 ≤ z ∧ z ≤ 9) (hl : x.length ≤ 4) (hk : k ≤ 1000) :
    callV (calls T fuel (n + 4)) 47 [.lst (x.map frac), pvM rows, .int a] h = .ok (.p (frac (cnt x rows a))) h := by
  rw [callV_at (show T.fns[47]? = some ⟨3, 5, b47⟩ from rfl) rfl]
  have hs : min x.length rows.length ≤ sizeMax := by unfold sizeMax; omega
  simp (implicitDefEqProofs := false) [b47, startE, pvM, zip_map]
  rw [lc_map (val := fun p : Rat × List Int => .tup [frac p.1, pvI p.2]) (res := fun p => frac (p.1 * ((gI p.2 a : Int) : Rat)))]
  · have hl2 : ((x.zip rows).map fun p => p.1 * ((gI p.2 a : Int) : Rat)).length ≤ 4 := by simp; omega
    have := lawSum_ok (low hf) (i := 41) (plus := 37) rfl rfl (n := n) (h := []) (l := (x.zip rows).map fun p => p.1 * ((gI p.2 a : Int) : Rat)) (k := k + 4) (fun q hq => by
      obtain ⟨p, hp, rfl⟩ := List.mem_map.mp hq
      exact (hx p.1 (zip_mem1 hp)).mul (Sm.getI (hr p.2 (zip_mem2 hp)).2)) (by
        have := Nat.mul_le_mul_right (k + 4 + 1) hl2
        omega)
    rw [List.map_map] at this
    simp (implicitDefEqProofs := false) [hs]
    simp only [Function.comp_def] at this
    rw [this]
    rfl
  · intro p hp
    have h1 := hx p.1 (zip_mem1 hp)
    have h2 := hr p.2 (zip_mem2 hp)
    have s1 : (2 : Nat) ≤ sizeMax := by decide
    exact ⟨_, rfl, by simp (implicitDefEqProofs := false) [lcP, get_int h2.1, s1, frac_int, lawTimes_ok (low hf) (i := 38) rfl h1 (Sm.getI h2.2)]⟩
theorem gs_head (K : MtOk m na) : ∃ g0, idx2 (pvM m.gs) (.int 0) = some (pvI g0) ∧ g0.length = na := by
  have gl := K.gl
  have pl := K.pl
  cases e : m.gs with
  | nil => rw [e] at gl; simp at gl; omega
  | cons a r => exact ⟨a, idx_h _ _, (K.gr a (by rw [e]; exact List.mem_cons_self)).1⟩
theorem done_ok (hf : 16400 ≤ fuel) (K : MtOk m na) {x : List Rat} {k : Nat} (hx : ∀ q ∈ x, Sm k q) (hl : x.length ≤ 4) (hk : k ≤ 500) :
    callV (calls T fuel (n + 5)) 48 [plainV m, .lst (x.map frac)] h = .ok (.p (.int (lawDone m x na))) h := by
  have au := K.au
  have al := K.al
  obtain ⟨g0, eg, lg⟩ := gs_head K
  have cg : ∀ a, a < na → Sm (4 * (k + 5) + 1) (cnt x m.gs a) := fun a ha => cnt_sm hx (fun r hr => (K.gB ha r hr).2) hl
  have cw : ∀ a, a < na → Sm (4 * (k + 5) + 1) (cnt x m.ws a) := fun a ha => cnt_sm hx (fun r hr => (K.wB ha r hr).2) hl
  have kg := fun a (ha : a < na) h => count_ok hf (n := n) (h := h) hx (K.gB ha) hl (by omega)
  have kw := fun a (ha : a < na) h => count_ok hf (n := n) (h := h) hx (K.wB ha) hl (by omega)
  rw [callV_at (show T.fns[48]? = some ⟨2, 8, b48⟩ from rfl) rfl]
  have lp := forGo_inv (b := evS T (calls T fuel (n + 4)) (.seq (.par [4, 5] (.cons (.call 47 (.cons (.var 1) (.cons (.idx (.var 0) (.pv (.int 1))) (.cons (.var 3) .nil)))) (.cons (.call 47 (.cons (.var 1) (.cons (.idx (.var 0) (.pv (.int 1))) (.cons (.var 2) .nil)))) .nil)))
    (.seq (.par [6, 7] (.cons (.call 47 (.cons (.var 1) (.cons (.idx (.var 0) (.pv (.int 2))) (.cons (.var 3) .nil)))) (.cons (.call 47 (.cons (.var 1) (.cons (.idx (.var 0) (.pv (.int 2))) (.cons (.var 2) .nil)))) .nil)))
    (.seq (.ite (.or (.call 40 (.cons (.var 5) (.cons (.var 4) .nil))) (.and (.cmp .eq (.var 4) (.var 5)) (.call 40 (.cons (.var 7) (.cons (.var 6) .nil)))))
    (.seq (.set 2 (.var 3)) .pass) .pass) .pass)))) (t := .name 3) (val := fun (a : Nat) => PV.int a) (xs := List.range' 1 (na - 1))
    (fun pre ρ h => ∃ o3 o4 o5 o6 o7, ρ = [some (.p (plainV m)), some (.p (.lst (x.map frac))), some (.p (.int (pre.foldl (doneStep (cnt x m.gs) (cnt x m.ws)) 0 : Nat))), o3, o4, o5, o6, o7] ∧ h = [] ∧ pre.foldl (doneStep (cnt x m.gs) (cnt x m.ws)) 0 < na)
    (fun pre a post ρ h e ⟨o3, o4, o5, o6, o7, hρ, hh, hc⟩ => by
      subst hρ hh
      have ha : a < na := by
        have : a ∈ List.range' 1 (na - 1) := by rw [e]; simp
        have := List.mem_range'_1.mp this
        omega
      generalize hC : pre.foldl (doneStep (cnt x m.gs) (cnt x m.ws)) 0 = c at hc
      have l1 := lawLess_ok (T := T) (i := 40) rfl (n := n + 3) (fuel := fuel) (h := []) (cg c hc) (cg a ha) (by omega)
      have l2 := lawLess_ok (T := T) (i := 40) rfl (n := n + 3) (fuel := fuel) (h := []) (cw c hc) (cw a ha) (by omega)
      refine ⟨_, [some (.p (plainV m)), some (.p (.lst (x.map frac))), some (.p (.int (doneStep (cnt x m.gs) (cnt x m.ws) c a : Nat))), some (.p (.int a)), some (.p (frac (cnt x m.gs a))), some (.p (frac (cnt x m.gs c))), some (.p (frac (cnt x m.ws a))), some (.p (frac (cnt x m.ws c)))], [], rfl, ?_, ⟨_, _, _, _, _, by rw [List.foldl_append, hC]; rfl, rfl, ?_⟩⟩
      · by_cases c1 : cnt x m.gs c < cnt x m.gs a
        · have ed : doneStep (cnt x m.gs) (cnt x m.ws) c a = a := by simp [doneStep, Lx, c1]
          simp (implicitDefEqProofs := false) [kg a ha, kg c hc, kw a ha, kw c hc, setAll, l1, c1, ed]
        · by_cases c2 : cnt x m.gs a = cnt x m.gs c
          · by_cases c3 : cnt x m.ws c < cnt x m.ws a
            · have ed : doneStep (cnt x m.gs) (cnt x m.ws) c a = a := by simp [doneStep, Lx, c2, c3]
              simp (implicitDefEqProofs := false) [kg a ha, kg c hc, kw a ha, kw c hc, setAll, l1, l2, c1, eq_true c2, c3, ed]
            · have ed : doneStep (cnt x m.gs) (cnt x m.ws) c a = c := by simp [doneStep, Lx, c2, c3, Rat.lt_irrefl]
              simp (implicitDefEqProofs := false) [kg a ha, kg c hc, kw a ha, kw c hc, setAll, l1, l2, c1, eq_true c2, c3, ed]
          · have ed : doneStep (cnt x m.gs) (cnt x m.ws) c a = c := by
              have : ¬ (cnt x m.gs c = cnt x m.gs a) := fun z => c2 z.symm
              simp [doneStep, Lx, c1, this]
            simp (implicitDefEqProofs := false) [kg a ha, kg c hc, kw a ha, kw c hc, setAll, l1, c1, c2, ed]
      · rw [List.foldl_append, hC]
        show doneStep (cnt x m.gs) (cnt x m.ws) c a < na
        unfold doneStep
        split <;> omega)
    (ρ := [some (.p (plainV m)), some (.p (.lst (x.map frac))), some (.p (.int 0)), none, none, none, none, none]) (h := []) ⟨_, _, _, _, _, rfl, rfl, by show 0 < na; omega⟩
  obtain ⟨ρ', h', e1, o3, o4, o5, o6, o7, e2, e3, _⟩ := lp
  subst e2 e3
  have er : ((List.range (na - 1)).map fun (i : Nat) => PV.int (1 + i)) = (List.range' 1 (na - 1)).map fun (i : Nat) => PV.int i := by
    rw [List.range'_eq_map_range, List.map_map]
    simp [Function.comp_def]
  have rc : (-1000000 : Int) < 1 ∧ (1 : Int) < 1000000 ∧ (na : Int) < 1000000 ∧ (-1000000 : Int) < na := by omega
  simp (implicitDefEqProofs := false) only [b48, startE, List.map_cons, List.map_nil]
  simp (implicitDefEqProofs := false) [eg, lg, rc.2.2.1, rc.2.2.2, er, e1, lawDone]
end
end K1

end

section
/-! The law k01: its verdicts. -/
namespace K1
open PySem (Str)
open Sw
section
variable {n fuel : Nat} {h : Store} {m : Mt} {na nw : Nat} {t : List (List Rat)}
theorem lsum_ok (hf : 16400 ≤ fuel) (K : MtOk m na) (R : TbR t m.ps.length nw) {w : Nat} (hw : w < nw) : callV (calls T fuel (n + 3)) 41 [wtV m t w] h = .ok (.p (frac (wtsOf m.ch t w).sum)) h := by
  have pu := K.pu
  exact lawSum_ok (low hf) (i := 41) (plus := 37) rfl rfl (k := 13) (wts_sm K R hw) (by rw [wts_len K R]; omega)
theorem value_ok (hf : 16400 ≤ fuel) (K : MtOk m na) (R : TbR t m.ps.length nw) {rows : List (List Int)} (hr : ∀ r ∈ rows, r.length = na ∧ ∀ z ∈ r, -9 ≤ z ∧ z ≤ 9) :
    callV (calls T fuel (n + 6)) 49 [plainV m, pvT t, pvM rows] h = .ok (.p (frac (valR m t nw na rows))) h := by
  have pu := K.pu
  have wu := R.wu
  obtain ⟨r0, rest, et, l0, i0⟩ := R.head K
  rw [callV_at (show T.fns[49]? = some ⟨3, 6, b49⟩ from rfl) rfl]
  have lp := forGo_inv (b := evS T (calls T fuel (n + 5)) (.seq (.set 5 (.call 46 (.cons (.var 0) (.cons (.var 1) (.cons (.var 4) .nil)))))
    (.seq (.ite (.cmp .gt (.idx (.call 41 (.cons (.var 5) .nil)) (.pv (.int 0))) (.pv (.int 0)))
    (.seq (.set 3 (.call 37 (.cons (.var 3) (.cons (.call 47 (.cons (.var 5) (.cons (.var 2) (.cons (.call 48 (.cons (.var 0) (.cons (.var 5) .nil))) .nil)))) .nil)))) .pass) .pass) .pass))) (t := .name 4) (val := fun (w : Nat) => PV.int w) (xs := List.range nw)
    (fun pre ρ h => ∃ o4 o5, ρ = [some (.p (plainV m)), some (.p (pvT t)), some (.p (pvM rows)), some (.p (frac ((pre.filter fun w => isSaid (wtsOf m.ch t w)).map fun w => cnt (wtsOf m.ch t w) rows (lawDone m (wtsOf m.ch t w) na)).sum)), o4, o5] ∧ h = [])
    (fun pre w post ρ h e ⟨o4, o5, hρ, hh⟩ => by
      subst hρ hh
      have hw : w < nw := List.mem_range.mp (by rw [e]; simp)
      have hpl : pre.length ≤ 4 := by
        have := congrArg List.length e
        simp at this
        omega
      have hnn := wts_nn K R hw
      have ss := said_sum hnn
      have sh := shares_ok hf K R hw (n := n + 2) (h := [])
      have ls := lsum_ok hf K R hw (n := n + 2) (h := [])
      have wl := wts_len K R (w := w)
      have dn := done_ok hf K (n := n) (h := []) (wts_sm K R hw) (by rw [wl]; omega) (by omega)
      have dl := done_lt K (wtsOf m.ch t w)
      have co := count_ok hf (n := n + 1) (h := []) (wts_sm K R hw) (rows := rows) (a := lawDone m (wtsOf m.ch t w) na) (fun r hr' => ⟨by rw [(hr r hr').1]; exact dl, (hr r hr').2⟩) (by rw [wl]; omega) (by omega)
      cases c : isSaid (wtsOf m.ch t w) with
      | true =>
        have hp : 0 < (wtsOf m.ch t w).sum.num := num_pos.mpr (ss.mp c)
        have s1 : Sm (4 * 74 + 1) ((pre.filter fun w => isSaid (wtsOf m.ch t w)).map fun w => cnt (wtsOf m.ch t w) rows (lawDone m (wtsOf m.ch t w) na)).sum := by
          refine (Sm.sum (k := 73) fun q hq => ?_).mono ?_
          · obtain ⟨w', hw', rfl⟩ := List.mem_map.mp hq
            have : w' < nw := List.mem_range.mp (by rw [e]; exact List.mem_append_left _ (List.mem_filter.mp hw').1)
            exact cnt_sm (wts_sm K R this) (fun r hr' => (hr r hr').2) (by rw [wts_len K R]; exact pu)
          · rw [List.length_map]
            have := filter_len (fun w => isSaid (wtsOf m.ch t w)) pre
            have := Nat.mul_le_mul_right (73 + 1) (Nat.le_trans this hpl)
            omega
        have s2 : Sm 73 (cnt (wtsOf m.ch t w) rows (lawDone m (wtsOf m.ch t w) na)) := cnt_sm (wts_sm K R hw) (fun r hr' => (hr r hr').2) (by rw [wl]; exact pu)
        have pl := lawPlus_ok (low hf) (i := 37) rfl (n := n + 3) (h := []) s1 s2
        have ef : ((pre ++ [w]).filter fun w => isSaid (wtsOf m.ch t w)) = (pre.filter fun w => isSaid (wtsOf m.ch t w)) ++ [w] := by simp [List.filter_append, c]
        refine ⟨_, [some (.p (plainV m)), some (.p (pvT t)), some (.p (pvM rows)), some (.p (frac (((pre ++ [w]).filter fun w => isSaid (wtsOf m.ch t w)).map fun w => cnt (wtsOf m.ch t w) rows (lawDone m (wtsOf m.ch t w) na)).sum)), some (.p (.int w)), some (.p (wtV m t w))], [], rfl, ?_, ⟨_, _, rfl, rfl⟩⟩
        have e2 : (((pre.filter fun w => isSaid (wtsOf m.ch t w)) ++ [w]).map fun w => cnt (wtsOf m.ch t w) rows (lawDone m (wtsOf m.ch t w) na)).sum = ((pre.filter fun w => isSaid (wtsOf m.ch t w)).map fun w => cnt (wtsOf m.ch t w) rows (lawDone m (wtsOf m.ch t w) na)).sum + cnt (wtsOf m.ch t w) rows (lawDone m (wtsOf m.ch t w) na) := by
          rw [List.map_append, List.sum_append]
          simp [Rat.add_zero]
        rw [ef, e2]
        have ew : wtV m t w = .lst ((wtsOf m.ch t w).map frac) := rfl
        rw [← ew] at dn co
        simp (implicitDefEqProofs := false) [sh, ls, hp, dn, co, pl]
      | false =>
        have hp : ¬ (0 < (wtsOf m.ch t w).sum.num) := fun z => by
          have := ss.mpr (num_pos.mp z)
          rw [c] at this
          cases this
        have ef : ((pre ++ [w]).filter fun w => isSaid (wtsOf m.ch t w)) = (pre.filter fun w => isSaid (wtsOf m.ch t w)) := by simp [List.filter_append, c]
        refine ⟨_, [some (.p (plainV m)), some (.p (pvT t)), some (.p (pvM rows)), some (.p (frac (((pre ++ [w]).filter fun w => isSaid (wtsOf m.ch t w)).map fun w => cnt (wtsOf m.ch t w) rows (lawDone m (wtsOf m.ch t w) na)).sum)), some (.p (.int w)), some (.p (wtV m t w))], [], rfl, ?_, ⟨_, _, rfl, rfl⟩⟩
        rw [ef]
        simp (implicitDefEqProofs := false) only [evS_seq, evS_set, evE_call, evL_cons, evL_nil, evE_var, evS_ite, evE_cmp, evE_idx, evE_pv]
        simp (implicitDefEqProofs := false) [sh, ls]
        rw [if_neg hp]
        simp)
    (ρ := [some (.p (plainV m)), some (.p (pvT t)), some (.p (pvM rows)), some (.p (frac 0)), none, none]) (h := []) ⟨_, _, rfl, rfl⟩
  obtain ⟨ρ', h', e1, o4, o5, e2, e3⟩ := lp
  subst e2 e3
  have ez : PV.tup [.int 0, .int 1] = frac 0 := rfl
  have s2 : (2 : Nat) ≤ sizeMax := by decide
  have rg := fun h => rg_nat (n := nw) (h := h) (by omega)
  simp (implicitDefEqProofs := false) only [b49, startE, List.map_cons, List.map_nil]
  simp (implicitDefEqProofs := false) [-rgV_int, s2, ez, i0, l0, rg, e1, valR, saidL]
theorem sw_ne (K : MtOk m na) (R : TbR t m.ps.length nw) : swL m t nw na ≠ [] := by
  have al := K.al
  obtain ⟨r0, rest, et, l0, i0⟩ := R.head K
  have h1 : r0.sum = 1 := R.rs r0 (by rw [et]; exact List.mem_cons_self)
  have hq := R.rq r0 (by rw [et]; exact List.mem_cons_self)
  have hs : isSaid r0 = true := (said_sum fun q hq' => (hq q hq').1).mpr (by rw [h1]; decide)
  obtain ⟨q, hqm, hq0⟩ := List.any_eq_true.mp hs
  obtain ⟨w, hw, ew⟩ := List.mem_iff_getElem.mp hqm
  have hq0 : 0 < q := of_decide_eq_true hq0
  have pl := K.pl
  obtain ⟨p0, pr, ep⟩ : ∃ p0 pr, m.ps = p0 :: pr := by
    cases e : m.ps with
    | nil => rw [e] at pl; simp at pl
    | cons a r => exact ⟨a, r, rfl⟩
  have hp0 := K.pb p0 (by rw [ep]; exact List.mem_cons_self)
  have hsum := K.sum
  have hc : 0 < Rat.divInt p0 m.ps.sum := by
    have h0 : 0 ≤ Rat.divInt p0 m.ps.sum := Rat.divInt_nonneg (by omega) (by omega)
    have h1 : Rat.divInt p0 m.ps.sum ≠ 0 := fun z => by
      have e0 : Rat.divInt p0 m.ps.sum = Rat.divInt 0 1 := z
      have := (Rat.divInt_eq_divInt_iff (show m.ps.sum ≠ 0 by omega) (show (1 : Int) ≠ 0 by decide)).mp e0
      omega
    grind
  have hm : Rat.divInt p0 m.ps.sum * gR r0 w ∈ wtsOf m.ch t w := by
    unfold wtsOf
    refine List.mem_map.mpr ⟨(Rat.divInt p0 m.ps.sum, r0), ?_, rfl⟩
    have : m.ch = Rat.divInt p0 m.ps.sum :: pr.map (fun p => Rat.divInt p m.ps.sum) := by unfold Mt.ch; rw [ep]; rfl
    rw [this, et]
    simp
  have eg : gR r0 w = q := by
    unfold gR
    rw [List.getD_eq_getElem?_getD, List.getElem?_eq_getElem hw, ← ew]
    rfl
  have hsd : isSaid (wtsOf m.ch t w) = true := List.any_eq_true.mpr ⟨_, hm, by
    rw [eg]
    exact decide_eq_true (Rat.mul_pos hc hq0)⟩
  have hwm : w ∈ saidL m t nw := saidL_mem.mpr ⟨by omega, hsd⟩
  intro z
  unfold swL at z
  have z2 := List.flatMap_eq_nil_iff.mp z w hwm
  unfold pairsW at z2
  rw [List.map_eq_nil_iff, List.filter_eq_nil_iff] at z2
  have hd := done_lt K (wtsOf m.ch t w)
  have a0 := z2 0 (List.mem_range.mpr (by omega))
  have a1 := z2 1 (List.mem_range.mpr (by omega))
  simp at a0 a1
  omega
theorem bel_dat (x : List Rat) : Dat (belV x) 2 := by
  unfold belV
  split
  · exact .pvR _
  · exact Dat.non.mono (by omega)
theorem act_dat (x : List Rat) : Dat (actV m x na) 2 := by
  unfold actV
  split
  · exact (Dat.int _).mono (by omega)
  · exact Dat.non.mono (by omega)
theorem told_ok (hf : 16400 ≤ fuel) (K : MtOk m na) (R : TbR t m.ps.length nw) : callV (calls T fuel (n + 8)) 50 [plainV m, m.obj, pvT t] h = .ok (.p (.bl true)) h := by
  have pu := K.pu
  have wu := R.wu
  have au := K.au
  obtain ⟨r0, rest, et, l0, i0⟩ := R.head K
  obtain ⟨g0, eg, lg⟩ := gs_head K
  have rgw := fun h => rg_nat (n := nw) (h := h) (by omega)
  have rga := fun h => rg_nat (n := na) (h := h) (by omega)
  rw [callV_at (show T.fns[50]? = some ⟨3, 14, b50⟩ from rfl) rfl]
  have lp := forGo_inv (b := evS T (calls T fuel (n + 7)) (.seq (.set 8 (.call 46 (.cons (.var 0) (.cons (.var 2) (.cons (.var 7) .nil)))))
    (.seq (.set 9 (.call 41 (.cons (.var 8) .nil)))
    (.seq (.ite (.cmp .eq (.idx (.var 9) (.pv (.int 0))) (.pv (.int 0)))
    (.seq (.append (.var 4) (.pv .non)) (.seq (.append (.var 5) (.pv .non)) .pass))
    (.seq (.set 10 (.call 48 (.cons (.var 0) (.cons (.var 8) .nil))))
    (.seq (.append (.var 4) (.bi .tuple (.lc (.val (.var 8)) (.name 11) [11] (.pv (.bl true)) (.call 42 (.cons (.var 11) (.cons (.var 9) .nil))))))
    (.seq (.append (.var 5) (.var 10))
    (.seq (.for_ (.range (.len (.idx (.idx (.var 0) (.pv (.int 1))) (.pv (.int 0))))) (.name 12)
    (.seq (.ite (.cmp .ne (.var 12) (.var 10))
    (.seq (.set 13 (.call 47 (.cons (.var 8) (.cons (.idx (.var 0) (.pv (.int 1))) (.cons (.var 12) .nil)))))
    (.seq (.iset (.var 6) (.tup (.cons (.var 7) (.cons (.var 12) .nil))) (.call 39 (.cons (.call 47 (.cons (.var 8) (.cons (.idx (.var 0) (.pv (.int 1))) (.cons (.var 10) .nil)))) (.cons (.var 13) .nil)))) .pass)) .pass) .pass)) .pass))))) .pass)))) (t := .name 7) (val := fun (w : Nat) => PV.int w) (xs := List.range nw)
    (fun pre ρ h => ∃ o7 o8 o9 o10 o12 o13, ρ = [some (.p (plainV m)), some (.p m.obj), some (.p (pvT t)), some (.p (.int nw)), some (.loc 0), some (.loc 1), some (.loc 2), o7, o8, o9, o10, none, o12, o13] ∧
      h = [.lst (pre.map fun w => belV (wtsOf m.ch t w)), .lst (pre.map fun w => actV m (wtsOf m.ch t w) na), .dct (prD ((pre.filter fun w => isSaid (wtsOf m.ch t w)).flatMap (pairsW m t na)) fun p => frac (swvR m t na p))])
    (fun pre w post ρ h e ⟨o7, o8, o9, o10, o12, o13, hρ, hh⟩ => by
      subst hρ hh
      have hw : w < nw := List.mem_range.mp (by rw [e]; simp)
      have hnp : w ∉ pre := fun z => by
        have nd : (List.range nw).Nodup := List.nodup_range
        rw [e] at nd
        exact (List.nodup_append.mp nd).2.2 w z w List.mem_cons_self rfl
      have hpl : pre.length ≤ 4 := by
        have := congrArg List.length e
        simp at this
        omega
      have hps : pre.length < sizeMax := by unfold sizeMax; omega
      have hnn := wts_nn K R hw
      have ss := said_sum hnn
      have sn := sum_nn hnn
      have wl := wts_len K R (w := w)
      have sh := fun h => shares_ok hf K R hw (n := n + 4) (h := h)
      have ls := fun h => lsum_ok hf K R hw (n := n + 4) (h := h)
      have ew : wtV m t w = .lst ((wtsOf m.ch t w).map frac) := rfl
      have dn := fun h => done_ok hf K (n := n + 2) (h := h) (wts_sm K R hw) (by rw [wl]; omega) (by omega)
      rw [← ew] at dn
      have dl := done_lt K (wtsOf m.ch t w)
      cases c : isSaid (wtsOf m.ch t w) with
      | false =>
        have hz : (wtsOf m.ch t w).sum = 0 := by
          have : ¬ (0 < (wtsOf m.ch t w).sum) := fun z => by
            have := ss.mpr z
            rw [c] at this
            cases this
          grind
        have ef : ((pre ++ [w]).filter fun w => isSaid (wtsOf m.ch t w)) = (pre.filter fun w => isSaid (wtsOf m.ch t w)) := by simp [List.filter_append, c]
        have eb : belV (wtsOf m.ch t w) = .non := by simp [belV, c]
        have ea : actV m (wtsOf m.ch t w) na = .non := by simp [actV, c]
        refine ⟨_, [some (.p (plainV m)), some (.p m.obj), some (.p (pvT t)), some (.p (.int nw)), some (.loc 0), some (.loc 1), some (.loc 2), some (.p (.int w)), some (.p (wtV m t w)), some (.p (frac (wtsOf m.ch t w).sum)), o10, none, o12, o13], _, rfl, ?_, ⟨_, _, _, _, _, _, rfl, rfl⟩⟩
        rw [ef]
        simp (implicitDefEqProofs := false) [sh, ls, hz, isLst, appV, hps, eb, ea]
      | true =>
        have hp : ¬ ((wtsOf m.ch t w).sum.num = 0) := by
          have := num_pos.mpr (ss.mp c)
          omega
        have ef : ((pre ++ [w]).filter fun w => isSaid (wtsOf m.ch t w)) = (pre.filter fun w => isSaid (wtsOf m.ch t w)) ++ [w] := by simp [List.filter_append, c]
        have hs : m.ps.length ≤ sizeMax := by unfold sizeMax; omega
        have hprl : (pre.filter fun w => isSaid (wtsOf m.ch t w)).length ≤ 4 := Nat.le_trans (filter_len _ _) hpl
        have hfl := flat_len (m := m) (t := t) (na := na) (pre.filter fun w => isSaid (wtsOf m.ch t w))
        have sm := wts_sm K R hw
        have ssm := Sm.sum sm
        rw [wl] at ssm
        have c1 : ∀ (h0 : Store), lcGo (lcP T (calls T fuel (n + 7)) (.pv (.bl true)) (.call 42 (.cons (.var 11) (.cons (.var 9) .nil)))) (.name 11) [some (.p (plainV m)), some (.p m.obj), some (.p (pvT t)), some (.p (.int nw)), some (.loc 0), some (.loc 1), some (.loc 2), some (.p (.int w)), some (.p (wtV m t w)), some (.p (frac (wtsOf m.ch t w).sum)), some (.p (.int (lawDone m (wtsOf m.ch t w) na))), none, o12, o13] ((wtsOf m.ch t w).map frac) [] h0 = .ok ((wtsOf m.ch t w).map fun x => frac (x / (wtsOf m.ch t w).sum)) h0 := fun h0 => by
          have := lc_map (f := lcP T (calls T fuel (n + 7)) (.pv (.bl true)) (.call 42 (.cons (.var 11) (.cons (.var 9) .nil)))) (t := .name 11) (ρ := [some (.p (plainV m)), some (.p m.obj), some (.p (pvT t)), some (.p (.int nw)), some (.loc 0), some (.loc 1), some (.loc 2), some (.p (.int w)), some (.p (wtV m t w)), some (.p (frac (wtsOf m.ch t w).sum)), some (.p (.int (lawDone m (wtsOf m.ch t w) na))), none, o12, o13]) (val := frac) (res := fun x => frac (x / (wtsOf m.ch t w).sum)) (h := h0) (xs := wtsOf m.ch t w) (acc := []) fun v hv =>
            ⟨_, rfl, by
              have ov := lawOver_ok (low hf) (i := 42) rfl (n := n + 5) (h := h0) (sm v hv) ssm (ss.mp c) (by
                have := Nat.mul_le_mul_right (13 + 1) pu
                omega)
              simp (implicitDefEqProofs := false) [lcP, ov]⟩
          rw [this]
          simp
        have eb : belV (wtsOf m.ch t w) = .tup ((wtsOf m.ch t w).map fun x => frac (x / (wtsOf m.ch t w).sum)) := by simp [belV, c, pvR, Function.comp_def]
        have ea : actV m (wtsOf m.ch t w) na = .int (lawDone m (wtsOf m.ch t w) na) := by simp [actV, c]
        have it : itemsOf (wtV m t w) = some ((wtsOf m.ch t w).map frac) := rfl
        have sd := fun h => count_ok hf (n := n + 3) (h := h) sm (K.gB dl) (by rw [wl]; omega) (by omega)
        rw [← ew] at sd
        have lp2 := forGo_inv (b := evS T (calls T fuel (n + 7)) (.seq (.ite (.cmp .ne (.var 12) (.var 10))
          (.seq (.set 13 (.call 47 (.cons (.var 8) (.cons (.idx (.var 0) (.pv (.int 1))) (.cons (.var 12) .nil)))))
          (.seq (.iset (.var 6) (.tup (.cons (.var 7) (.cons (.var 12) .nil))) (.call 39 (.cons (.call 47 (.cons (.var 8) (.cons (.idx (.var 0) (.pv (.int 1))) (.cons (.var 10) .nil)))) (.cons (.var 13) .nil)))) .pass)) .pass) .pass)) (t := .name 12) (val := fun (a : Nat) => PV.int a) (xs := List.range na)
          (fun pr ρ h => ∃ o12 o13, ρ = [some (.p (plainV m)), some (.p m.obj), some (.p (pvT t)), some (.p (.int nw)), some (.loc 0), some (.loc 1), some (.loc 2), some (.p (.int w)), some (.p (wtV m t w)), some (.p (frac (wtsOf m.ch t w).sum)), some (.p (.int (lawDone m (wtsOf m.ch t w) na))), none, o12, o13] ∧
            h = [.lst ((pre ++ [w]).map fun w => belV (wtsOf m.ch t w)), .lst ((pre ++ [w]).map fun w => actV m (wtsOf m.ch t w) na), .dct (prD ((pre.filter fun w => isSaid (wtsOf m.ch t w)).flatMap (pairsW m t na) ++ (pr.filter fun a => decide (a ≠ lawDone m (wtsOf m.ch t w) na)).map fun a => (w, a)) fun p => frac (swvR m t na p))])
          (fun pr a po ρ h e ⟨o12, o13, hρ, hh⟩ => by
            subst hρ hh
            have ha : a < na := List.mem_range.mp (by rw [e]; simp)
            have hap : a ∉ pr := fun z => by
              have nd : (List.range na).Nodup := List.nodup_range
              rw [e] at nd
              exact (List.nodup_append.mp nd).2.2 a z a List.mem_cons_self rfl
            have hprl2 : pr.length ≤ 4 := by
              have := congrArg List.length e
              simp at this
              omega
            by_cases q : a = lawDone m (wtsOf m.ch t w) na
            · refine ⟨_, _, _, rfl, ?_, ⟨some (.p (.int a)), o13, rfl, rfl⟩⟩
              simp (implicitDefEqProofs := false) [q, List.filter_append]
            · have q2 : ¬ ((a : Int) = (lawDone m (wtsOf m.ch t w) na : Nat)) := by omega
              have sa := fun h => count_ok hf (n := n + 3) (h := h) sm (K.gB ha) (by rw [wl]; omega) (by omega)
              rw [← ew] at sa
              have cs : ∀ a, a < na → Sm 73 (cnt (wtsOf m.ch t w) m.gs a) := fun a ha => cnt_sm sm (fun r hr => (K.gB ha r hr).2) (by rw [wl]; omega)
              have mi := fun h => lawMinus_ok (low hf) (i := 39) (plus := 37) rfl rfl (n := n + 4) (h := h) (cs _ dl) (cs a ha) (by omega)
              generalize hL : (pre.filter fun w => isSaid (wtsOf m.ch t w)).flatMap (pairsW m t na) ++ (pr.filter fun a => decide (a ≠ lawDone m (wtsOf m.ch t w) na)).map (fun a => (w, a)) = L
              have hpn : (w, a) ∉ L := by
                rw [← hL]
                intro z
                rcases List.mem_append.mp z with z | z
                · obtain ⟨w', hw', hz⟩ := List.mem_flatMap.mp z
                  have e0 : w = w' := (pairsW_fst hz).1
                  exact hnp (e0 ▸ (List.mem_filter.mp hw').1)
                · obtain ⟨a', ha', ez⟩ := List.mem_map.mp z
                  cases ez
                  exact hap (List.mem_filter.mp ha').1
              have hLl : L.length < sizeMax := by
                rw [← hL, List.length_append, List.length_map]
                have := filter_len (fun a => decide (a ≠ lawDone m (wtsOf m.ch t w) na)) pr
                have := Nat.mul_le_mul hprl au
                unfold sizeMax
                omega
              have hLl2 : (prD L fun p => frac (swvR m t na p)).length < sizeMax := by simpa [prD] using hLl
              have pt := put_pk (v := fun p => frac (swvR m t na p)) hpn
              have ft := fits_pk L (fun p => frac (swvR m t na p)) (w, a)
              have ek : PV.tup [.int w, .int a] = pk (w, a) := rfl
              have ev : frac (cnt (wtsOf m.ch t w) m.gs (lawDone m (wtsOf m.ch t w) na) - cnt (wtsOf m.ch t w) m.gs a) = frac (swvR m t na (w, a)) := rfl
              have s2 : (2 : Nat) ≤ sizeMax := by decide
              have eL : (pre.filter fun w => isSaid (wtsOf m.ch t w)).flatMap (pairsW m t na) ++ ((pr ++ [a]).filter fun a => decide (a ≠ lawDone m (wtsOf m.ch t w) na)).map (fun a => (w, a)) = L ++ [(w, a)] := by
                rw [← hL]
                simp [List.filter_append, q]
              refine ⟨_, _, _, rfl, ?_, ⟨some (.p (.int a)), some (.p (frac (cnt (wtsOf m.ch t w) m.gs a))), rfl, rfl⟩⟩
              rw [eL]
              simp (implicitDefEqProofs := false) [q2, sd, sa, mi, s2, ek, ev, isetV, ft, hLl2, pt])
          (ρ := [some (.p (plainV m)), some (.p m.obj), some (.p (pvT t)), some (.p (.int nw)), some (.loc 0), some (.loc 1), some (.loc 2), some (.p (.int w)), some (.p (wtV m t w)), some (.p (frac (wtsOf m.ch t w).sum)), some (.p (.int (lawDone m (wtsOf m.ch t w) na))), none, o12, o13])
          (h := [.lst ((pre ++ [w]).map fun w => belV (wtsOf m.ch t w)), .lst ((pre ++ [w]).map fun w => actV m (wtsOf m.ch t w) na), .dct (prD ((pre.filter fun w => isSaid (wtsOf m.ch t w)).flatMap (pairsW m t na)) fun p => frac (swvR m t na p))]) ⟨_, _, rfl, by simp⟩
        obtain ⟨ρ', h', e1, p12, p13, e2, e3⟩ := lp2
        subst e2 e3
        refine ⟨_, _, _, rfl, ?_, ⟨some (.p (.int w)), some (.p (wtV m t w)), some (.p (frac (wtsOf m.ch t w).sum)), some (.p (.int (lawDone m (wtsOf m.ch t w) na))), p12, p13, rfl, rfl⟩⟩
        rw [ef, List.flatMap_append]
        simp only [List.map_append, List.map_cons, List.map_nil, eb, ea] at e1
        simp (implicitDefEqProofs := false) [-rgV_int, sh, ls, hp, dn, it, c1, wl, hs, isLst, appV, hps, eb, ea, eg, lg, rga, e1, pairsW])
    (ρ := [some (.p (plainV m)), some (.p m.obj), some (.p (pvT t)), some (.p (.int nw)), some (.loc 0), some (.loc 1), some (.loc 2), none, none, none, none, none, none, none]) (h := [.lst [], .lst [], .dct []]) ⟨_, _, _, _, _, _, rfl, rfl⟩
  obtain ⟨ρ', h', e1, o7, o8, o9, o10, o12, o13, e2, e3⟩ := lp
  subst e2 e3
  have s0 : (0 : Nat) ≤ sizeMax := by decide
  have b1 := ne_lst (Dat.lst (l := List.range nw) (f := fun w => belV (wtsOf m.ch t w)) fun w _ => bel_dat _)
  have b2 := ne_lst (Dat.lst (l := List.range nw) (f := fun w => actV m (wtsOf m.ch t w) na) fun w _ => act_dat _)
  have b3 := ne_prD (v := swvR m t na) (sw_ne K R)
  have esw : ((List.range nw).filter fun w => isSaid (wtsOf m.ch t w)).flatMap (pairsW m t na) = swL m t nw na := rfl
  have wr2 : ∀ r ∈ m.ws, r.length = na ∧ ∀ z ∈ r, -9 ≤ z ∧ z ≤ 9 := fun r hr => ⟨(K.wr r hr).1, fun z hz => by have := (K.wr r hr).2 z hz; omega⟩
  rw [esw] at e1
  simp (implicitDefEqProofs := false) only [b50, startE, List.map_cons, List.map_nil]
  simp (implicitDefEqProofs := false) [-rgV_int, i0, l0, setAll, s0, rgw, e1, beliefs_ok tels hf K R (n := n), actsAfter_ok tels hf K R (n := n), swerves_ok tels hf K R (n := n), vw, view, b1, b2, b3,
    worth_ok tels hf K R (n := n), gain_ok tels hf K R (n := n), value_ok hf K R wr2 (n := n + 1), value_ok hf K R K.gr (n := n + 1)]
end
end K1

end

section
/-! The law k01: drawn tables, the whole law. -/
namespace K1
open PySem (Str)
open Sw
/-! ### a row of a table -/
theorem sum_div (c : Rat) : ∀ l : List Int, (l.map fun (x : Int) => (x : Rat) * c).sum = (l.sum : Rat) * c
  | [] => by simp [Rat.zero_mul]
  | a :: r => by
    have ih := sum_div c r
    simp only [List.map_cons, List.sum_cons, ih, Rat.intCast_add]
    grind
theorem divInt_mul (a b : Int) : Rat.divInt a b = (a : Rat) * (b : Rat)⁻¹ := by
  rw [Rat.divInt_eq_div, Rat.div_def]
theorem mem_le_sum : ∀ {x : List Rat}, (∀ q ∈ x, 0 ≤ q) → ∀ q ∈ x, q ≤ x.sum
  | [], _, q, hq => by cases hq
  | a :: r, h, q, hq => by
    have h1 := h a List.mem_cons_self
    have h2 := sum_nn (x := r) fun q hq => h q (List.mem_cons_of_mem _ hq)
    rw [List.sum_cons]
    rcases List.mem_cons.mp hq with rfl | hq
    · grind
    · have := mem_le_sum (x := r) (fun q hq => h q (List.mem_cons_of_mem _ hq)) q hq
      grind
def rowR (l : List Int) : List Rat := l.map fun x => Rat.divInt x l.sum
theorem row_sum {l : List Int} (h : 0 < l.sum) : (rowR l).sum = 1 := by
  unfold rowR
  simp only [divInt_mul]
  rw [sum_div]
  have : (l.sum : Rat) ≠ 0 := fun z => by
    have := Rat.intCast_inj.mp (show (l.sum : Rat) = ((0 : Int) : Rat) from z)
    omega
  exact Rat.mul_inv_cancel _ this
theorem isum_bd (l : List Int) (h : ∀ x ∈ l, 0 ≤ x ∧ x ≤ 3) : 0 ≤ l.sum ∧ l.sum ≤ 3 * l.length := by
  induction l with
  | nil => simp
  | cons b r ih =>
    have := ih fun x hx => h x (List.mem_cons_of_mem _ hx)
    have := h b List.mem_cons_self
    simp only [List.length_cons, List.sum_cons]
    omega
theorem row_ok {l : List Int} (h : ∀ x ∈ l, 0 ≤ x ∧ x ≤ 3) (hs : 0 < l.sum) (hl : l.length ≤ 4) : ∀ q ∈ rowR l, 0 ≤ q ∧ q ≤ 1 ∧ Sm 8 q := by
  have hb := isum_bd l h
  have nn : ∀ q ∈ rowR l, 0 ≤ q := fun q hq => by
    obtain ⟨x, hx, rfl⟩ := List.mem_map.mp hq
    exact Rat.divInt_nonneg (h x hx).1 (by omega)
  intro q hq
  refine ⟨nn q hq, by rw [← row_sum hs]; exact mem_le_sum nn q hq, ?_⟩
  obtain ⟨x, hx, rfl⟩ := List.mem_map.mp hq
  have := h x hx
  exact Sm.divInt (by omega) (by omega) (by omega)
theorem isum_ge {l : List Int} (h : ∀ x ∈ l, 0 ≤ x) {y : Int} (hy : y ∈ l) : y ≤ l.sum := by
  induction l with
  | nil => cases hy
  | cons b r ih =>
    have nn : ∀ r : List Int, (∀ x ∈ r, 0 ≤ x) → 0 ≤ r.sum := fun r => by
      induction r with
      | nil => intro _; simp
      | cons c r ih => intro z; have := ih fun x hx => z x (List.mem_cons_of_mem _ hx); have := z c List.mem_cons_self; simp; omega
    have h1 := h b List.mem_cons_self
    have h2 := nn r fun x hx => h x (List.mem_cons_of_mem _ hx)
    rw [List.sum_cons]
    rcases List.mem_cons.mp hy with rfl | hy
    · omega
    · have := ih (fun x hx => h x (List.mem_cons_of_mem _ hx)) hy
      omega
def some0 (s : List Int) (at_ p nw : Nat) : List Int := (List.range nw).map fun w => cell s (at_ + 5 * p + w) % 4
def some1 (s : List Int) (at_ p nw : Nat) : List Int := (List.range nw).map fun (w : Nat) => if (w : Int) = cell s (at_ + 5 * p) % nw then 1 else 0
def alone (s : List Int) (at_ p nw : Nat) : Prop := (some0 s at_ p nw).sum = 0 ∨ cell s (at_ + 5 * p + 4) % 3 = 0
instance (s : List Int) (at_ p nw : Nat) : Decidable (alone s at_ p nw) := inferInstanceAs (Decidable (_ ∨ _))
def someL (s : List Int) (at_ p nw : Nat) : List Int := if alone s at_ p nw then some1 s at_ p nw else some0 s at_ p nw
def tabR (s : List Int) (at_ nw k : Nat) : List (List Rat) := (List.range k).map fun p => rowR (someL s at_ p nw)
theorem some_b (s : List Int) (at_ p nw : Nat) : (∀ x ∈ someL s at_ p nw, 0 ≤ x ∧ x ≤ 3) ∧ (someL s at_ p nw).length = nw := by
  unfold someL
  split
  · refine ⟨fun x hx => ?_, by simp [some1]⟩
    obtain ⟨w, hw, rfl⟩ := List.mem_map.mp hx
    split <;> omega
  · refine ⟨fun x hx => ?_, by simp [some0]⟩
    obtain ⟨w, hw, rfl⟩ := List.mem_map.mp hx
    omega
theorem some_pos (s : List Int) (at_ p : Nat) {nw : Nat} (hw : 1 ≤ nw) : 0 < (someL s at_ p nw).sum := by
  have hb := (some_b s at_ p nw).1
  have hn : ∀ x ∈ someL s at_ p nw, 0 ≤ x := fun x hx => (hb x hx).1
  by_cases c : alone s at_ p nw
  · have e : someL s at_ p nw = some1 s at_ p nw := if_pos c
    have h1 : (1 : Int) ∈ someL s at_ p nw := by
      rw [e]
      have h0 := Int.emod_nonneg (cell s (at_ + 5 * p)) (show (nw : Int) ≠ 0 by omega)
      have h2 := Int.emod_lt_of_pos (cell s (at_ + 5 * p)) (show (0 : Int) < nw by omega)
      refine List.mem_map.mpr ⟨(cell s (at_ + 5 * p) % nw).toNat, List.mem_range.mpr (by omega), ?_⟩
      rw [if_pos (by omega)]
    have := isum_ge hn h1
    omega
  · have e : someL s at_ p nw = some0 s at_ p nw := if_neg c
    have h1 : (some0 s at_ p nw).sum ≠ 0 := fun z => c (.inl z)
    have := (isum_bd _ hb).1
    rw [e] at this ⊢
    omega
theorem tab_ok (s : List Int) (at_ : Nat) {nw k : Nat} (h1 : 1 ≤ nw) (h2 : nw ≤ 4) : TbR (tabR s at_ nw k) k nw where
  tl := by simp [tabR]
  wl := h1
  wu := h2
  rl := fun r hr => by
    obtain ⟨p, hp, rfl⟩ := List.mem_map.mp hr
    simp [rowR, (some_b s at_ p nw).2]
  rq := fun r hr => by
    obtain ⟨p, hp, rfl⟩ := List.mem_map.mp hr
    exact row_ok (some_b s at_ p nw).1 (some_pos s at_ p h1) (by rw [(some_b s at_ p nw).2]; exact h2)
  rs := fun r hr => by
    obtain ⟨p, hp, rfl⟩ := List.mem_map.mp hr
    exact row_sum (some_pos s at_ p h1)
theorem one_b : (0 : Rat) ≤ 1 ∧ (1 : Rat) ≤ 1 ∧ Sm 8 1 := ⟨by decide, by decide, Sm.one.mono (by omega)⟩
theorem zero_b : (0 : Rat) ≤ 0 ∧ (0 : Rat) ≤ 1 ∧ Sm 8 0 := ⟨by decide, by decide, Sm.zero.mono (by omega)⟩
theorem whole_tb {k : Nat} (h1 : 2 ≤ k) (h2 : k ≤ 4) : TbR (wholeT k) k k where
  tl := by simp [wholeT]
  wl := by omega
  wu := h2
  rl := fun r hr => by
    obtain ⟨p, hp, rfl⟩ := List.mem_map.mp hr
    simp
  rq := fun r hr q hq => by
    obtain ⟨p, hp, rfl⟩ := List.mem_map.mp hr
    obtain ⟨o, ho, rfl⟩ := List.mem_map.mp hq
    split
    · exact one_b
    · exact zero_b
  rs := by
    obtain rfl | rfl | rfl : k = 2 ∨ k = 3 ∨ k = 4 := by omega
    · decide +kernel
    · decide +kernel
    · decide +kernel
theorem silent_tb {k : Nat} : TbR (silentT k) k 1 where
  tl := by simp [silentT]
  wl := by omega
  wu := by omega
  rl := fun r hr => by
    rw [List.eq_of_mem_replicate hr]
    rfl
  rq := fun r hr q hq => by
    rw [List.eq_of_mem_replicate hr] at hq
    obtain rfl := List.mem_singleton.mp hq
    exact one_b
  rs := fun r hr => by
    rw [List.eq_of_mem_replicate hr]
    decide +kernel
section
variable {n fuel : Nat} {h : Store} {m : Mt} {na nw : Nat}
theorem table_ok (hf : 16400 ≤ fuel) (K : MtOk m na) {s : List Int} {at_ : Nat} (h1 : 1 ≤ nw) (h2 : nw ≤ 4) : callV (calls T fuel (n + 2)) 45 [.lst (s.map .int), .int at_, plainV m, .int nw] h = .ok (.p (pvT (tabR s at_ nw m.ps.length))) h := by
  have pu := K.pu
  have rgp := fun h => rg_nat (n := m.ps.length) (h := h) (by omega)
  have rgw := fun h => rg_nat (n := nw) (h := h) (by omega)
  have ws : nw ≤ sizeMax := by unfold sizeMax; omega
  have c5 : ∀ (p w : Nat) h, callV (calls T fuel (n + 1)) 35 [.lst (s.map .int), .int (at_ + 5 * p + w)] h = .ok (.p (.int (cell s (at_ + 5 * p + w)))) h := fun p w h => by
    have := cell1 (n := n) (fuel := fuel) (h := h) s (at_ + 5 * p + w); simpa using this
  have c54 : ∀ (p : Nat) h, callV (calls T fuel (n + 1)) 35 [.lst (s.map .int), .int (at_ + 5 * p + 4)] h = .ok (.p (.int (cell s (at_ + 5 * p + 4)))) h := fun p h => by
    have := cell1 (n := n) (fuel := fuel) (h := h) s (at_ + 5 * p + 4); simpa using this
  have c50 : ∀ (p : Nat) h, callV (calls T fuel (n + 1)) 35 [.lst (s.map .int), .int (at_ + 5 * p)] h = .ok (.p (.int (cell s (at_ + 5 * p)))) h := fun p h => by
    have := cell1 (n := n) (fuel := fuel) (h := h) s (at_ + 5 * p); simpa using this
  have m4 : ∀ i : Int, op2 .mod (.int i) (.int 4) = some (.int (i % 4)) := fun i => op2_mod_int (by decide)
  have m3 : ∀ i : Int, op2 .mod (.int i) (.int 3) = some (.int (i % 3)) := fun i => op2_mod_int (by decide)
  have mw : ∀ i : Int, op2 .mod (.int i) (.int nw) = some (.int (i % nw)) := fun i => op2_mod_int (by omega)
  have x5 : ∀ i : Int, op2 .mul (.int 5) (.int i) = some (.int (5 * i)) := fun i => op2_mul_sl (by decide)
  rw [callV_at (show T.fns[45]? = some ⟨4, 9, b45⟩ from rfl) rfl]
  have lp := forGo_inv (b := evS T (calls T fuel (n + 1)) (.seq (.set 6 (.lc (.range (.var 3)) (.name 7) [7] (.pv (.bl true)) (.op .mod (.bi .int (.call 35 (.cons (.var 0) (.cons (.op .add (.op .add (.var 1) (.op .mul (.pv (.int 5)) (.var 5))) (.var 7)) .nil)))) (.pv (.int 4)))))
    (.seq (.ite (.or (.cmp .eq (.bi .sum (.var 6)) (.pv (.int 0))) (.cmp .eq (.op .mod (.bi .int (.call 35 (.cons (.var 0) (.cons (.op .add (.op .add (.var 1) (.op .mul (.pv (.int 5)) (.var 5))) (.pv (.int 4))) .nil)))) (.pv (.int 3))) (.pv (.int 0))))
    (.seq (.set 6 (.lc (.range (.var 3)) (.name 7) [7] (.pv (.bl true)) (.ite (.cmp .eq (.var 7) (.op .mod (.bi .int (.call 35 (.cons (.var 0) (.cons (.op .add (.var 1) (.op .mul (.pv (.int 5)) (.var 5))) .nil)))) (.var 3))) (.pv (.int 1)) (.pv (.int 0))))) .pass) .pass)
    (.seq (.append (.var 4) (.bi .tuple (.lc (.val (.var 6)) (.name 8) [8] (.pv (.bl true)) (.call 36 (.cons (.var 8) (.cons (.bi .sum (.var 6)) .nil)))))) .pass)))) (t := .name 5) (val := fun (p : Nat) => PV.int p) (xs := List.range m.ps.length)
    (fun pre ρ h => ∃ o5 o6, ρ = [some (.p (.lst (s.map .int))), some (.p (.int at_)), some (.p (plainV m)), some (.p (.int nw)), some (.loc 0), o5, o6, none, none] ∧ h = [.lst ((pre.map fun p => rowR (someL s at_ p nw)).map pvR)])
    (fun pre p post ρ h e ⟨o5, o6, hρ, hh⟩ => by
      subst hρ hh
      have hps : pre.length < sizeMax := by
        have := congrArg List.length e
        simp at this
        unfold sizeMax
        omega
      have sp := some_pos s at_ p h1
      have sb := some_b s at_ p nw
      have sB : Big (someL s at_ p nw).sum := by
        have := isum_bd _ sb.1
        have : (someL s at_ p nw).sum.natAbs < 2 ^ 5 := by omega
        exact Nat.lt_of_lt_of_le this (pow_le (by omega))
      have g0 : ∀ (o6 : Option Val) (h0 : Store), lcGo (lcP T (calls T fuel (n + 1)) (.pv (.bl true)) (.op .mod (.bi .int (.call 35 (.cons (.var 0) (.cons (.op .add (.op .add (.var 1) (.op .mul (.pv (.int 5)) (.var 5))) (.var 7)) .nil)))) (.pv (.int 4)))) (.name 7) [some (.p (.lst (s.map .int))), some (.p (.int at_)), some (.p (plainV m)), some (.p (.int nw)), some (.loc 0), some (.p (.int p)), o6, none, none] ((List.range nw).map fun (i : Nat) => PV.int i) [] h0 = .ok ((some0 s at_ p nw).map .int) h0 := fun o6 h0 => by
        have := lc_map (f := lcP T (calls T fuel (n + 1)) (.pv (.bl true)) (.op .mod (.bi .int (.call 35 (.cons (.var 0) (.cons (.op .add (.op .add (.var 1) (.op .mul (.pv (.int 5)) (.var 5))) (.var 7)) .nil)))) (.pv (.int 4)))) (t := .name 7) (ρ := [some (.p (.lst (s.map .int))), some (.p (.int at_)), some (.p (plainV m)), some (.p (.int nw)), some (.loc 0), some (.p (.int p)), o6, none, none]) (val := fun (i : Nat) => PV.int i) (res := fun w => .int (cell s (at_ + 5 * p + w) % 4)) (h := h0) (xs := List.range nw) (acc := []) fun w hw =>
          ⟨_, rfl, by simp (implicitDefEqProofs := false) [lcP, x5, c5, m4]⟩
        rw [this]
        simp [some0, Function.comp_def]
      have g1 : ∀ (o6 : Option Val) (h0 : Store), lcGo (lcP T (calls T fuel (n + 1)) (.pv (.bl true)) (.ite (.cmp .eq (.var 7) (.op .mod (.bi .int (.call 35 (.cons (.var 0) (.cons (.op .add (.var 1) (.op .mul (.pv (.int 5)) (.var 5))) .nil)))) (.var 3))) (.pv (.int 1)) (.pv (.int 0)))) (.name 7) [some (.p (.lst (s.map .int))), some (.p (.int at_)), some (.p (plainV m)), some (.p (.int nw)), some (.loc 0), some (.p (.int p)), o6, none, none] ((List.range nw).map fun (i : Nat) => PV.int i) [] h0 = .ok ((some1 s at_ p nw).map .int) h0 := fun o6 h0 => by
        have := lc_map (f := lcP T (calls T fuel (n + 1)) (.pv (.bl true)) (.ite (.cmp .eq (.var 7) (.op .mod (.bi .int (.call 35 (.cons (.var 0) (.cons (.op .add (.var 1) (.op .mul (.pv (.int 5)) (.var 5))) .nil)))) (.var 3))) (.pv (.int 1)) (.pv (.int 0)))) (t := .name 7) (ρ := [some (.p (.lst (s.map .int))), some (.p (.int at_)), some (.p (plainV m)), some (.p (.int nw)), some (.loc 0), some (.p (.int p)), o6, none, none]) (val := fun (i : Nat) => PV.int i) (res := fun (w : Nat) => .int (if (w : Int) = cell s (at_ + 5 * p) % nw then 1 else 0)) (h := h0) (xs := List.range nw) (acc := []) fun w hw =>
          ⟨_, rfl, by
            by_cases z : (w : Int) = cell s (at_ + 5 * p) % nw
            · simp (implicitDefEqProofs := false) [lcP, x5, c50, mw, z]
            · simp (implicitDefEqProofs := false) [lcP, x5, c50, mw, z]⟩
        rw [this]
        simp [some1, Function.comp_def]
      have g2 : ∀ (h0 : Store), lcGo (lcP T (calls T fuel (n + 1)) (.pv (.bl true)) (.call 36 (.cons (.var 8) (.cons (.bi .sum (.var 6)) .nil)))) (.name 8) [some (.p (.lst (s.map .int))), some (.p (.int at_)), some (.p (plainV m)), some (.p (.int nw)), some (.loc 0), some (.p (.int p)), some (.p (.lst ((someL s at_ p nw).map .int))), none, none] ((someL s at_ p nw).map PV.int) [] h0 = .ok ((rowR (someL s at_ p nw)).map frac) h0 := fun h0 => by
        have := lc_map (f := lcP T (calls T fuel (n + 1)) (.pv (.bl true)) (.call 36 (.cons (.var 8) (.cons (.bi .sum (.var 6)) .nil)))) (t := .name 8) (ρ := [some (.p (.lst (s.map .int))), some (.p (.int at_)), some (.p (plainV m)), some (.p (.int nw)), some (.loc 0), some (.p (.int p)), some (.p (.lst ((someL s at_ p nw).map .int))), none, none]) (val := PV.int) (res := fun x => frac (Rat.divInt x (someL s at_ p nw).sum)) (h := h0) (xs := someL s at_ p nw) (acc := []) fun x hx =>
          ⟨_, rfl, by simp (implicitDefEqProofs := false) [lcP, low hf n _ _ _ sp sB]⟩
        rw [this]
        simp [rowR, Function.comp_def]
      refine ⟨_, [some (.p (.lst (s.map .int))), some (.p (.int at_)), some (.p (plainV m)), some (.p (.int nw)), some (.loc 0), some (.p (.int p)), some (.p (.lst ((someL s at_ p nw).map .int))), none, none], _, rfl, ?_, ⟨_, _, rfl, rfl⟩⟩
      have er : PV.tup ((rowR (someL s at_ p nw)).map frac) = pvR (rowR (someL s at_ p nw)) := rfl
      have sl : (someL s at_ p nw).length = nw := sb.2
      by_cases q1 : (some0 s at_ p nw).sum = 0
      · have e1 : someL s at_ p nw = some1 s at_ p nw := if_pos (.inl q1)
        rw [e1] at g2 er sl ⊢
        simp (implicitDefEqProofs := false) [-rgV_int, -List.map_map, rgw, g0, g1, g2, ws, q1, isLst, appV, hps, sl, er, e1]
      · by_cases q2 : cell s (at_ + 5 * p + 4) % 3 = 0
        · have e1 : someL s at_ p nw = some1 s at_ p nw := if_pos (.inr q2)
          rw [e1] at g2 er sl ⊢
          simp (implicitDefEqProofs := false) [-rgV_int, -List.map_map, rgw, g0, g1, g2, ws, q1, x5, c54, m3, q2, isLst, appV, hps, sl, er, e1]
        · have e1 : someL s at_ p nw = some0 s at_ p nw := if_neg fun z => z.elim q1 q2
          rw [e1] at g2 er sl ⊢
          simp (implicitDefEqProofs := false) [-rgV_int, -List.map_map, rgw, g0, g1, g2, ws, q1, x5, c54, m3, q2, isLst, appV, hps, sl, er, e1])
    (ρ := [some (.p (.lst (s.map .int))), some (.p (.int at_)), some (.p (plainV m)), some (.p (.int nw)), some (.loc 0), none, none, none, none]) (h := [.lst []]) ⟨_, _, rfl, rfl⟩
  obtain ⟨ρ', h', e1, o5, o6, e2, e3⟩ := lp
  subst e2 e3
  have s0 : (0 : Nat) ≤ sizeMax := by decide
  simp (implicitDefEqProofs := false) only [b45, startE, List.map_cons, List.map_nil]
  simp (implicitDefEqProofs := false) [-rgV_int, s0, rgp, e1]
  simp (implicitDefEqProofs := false) [vw, view, pvT, tabR]
end
end K1

end

section
/-! The law k01, the whole. -/
namespace K1
open PySem (Str)
open Sw
section
variable {n fuel : Nat} {h : Store} {m : Mt} {na nw : Nat}
def wordsN (s : List Int) (i : Nat) : Nat := (1 + cell s (105 + i) % 4).toNat
theorem wordsN_eq (s : List Int) (i : Nat) : 1 + cell s (105 + i) % 4 = (wordsN s i : Int) := by unfold wordsN; omega
theorem wordsN_b (s : List Int) (i : Nat) : 1 ≤ wordsN s i ∧ wordsN s i ≤ 4 := by unfold wordsN; omega
def drawn (s : List Int) (i : Nat) : List (List Rat) := tabR s (40 + 21 * i) (wordsN s i) (mt s).ps.length
theorem mul_silent {k : Nat} (h1 : 2 ≤ k) (h2 : k ≤ 4) : op2 .mul (.tup [.tup [.tup [.int 1, .int 1]]]) (.int k) = some (pvT (silentT k)) := by
  obtain rfl | rfl | rfl : k = 2 ∨ k = 3 ∨ k = 4 := by omega
  · rfl
  · rfl
  · rfl
theorem law_ok (hf : 16400 ≤ fuel) (s : List Int) : ∃ h1, evS T (calls T fuel (n + 9)) b51 [some (.p (.lst (s.map .int))), none, none, none, none, none, none, none, none, none] [] = .rt (.p (.bl true)) h1 := by
  have K := mt_ok s
  have pl := K.pl
  have pu := K.pu
  have hs : (mt s).ps.length ≤ sizeMax := by unfold sizeMax; omega
  have s2 : (2 : Nat) ≤ sizeMax := by decide
  have s1 : (1 : Nat) ≤ sizeMax := by decide
  have rg := fun h => rg_nat (n := (mt s).ps.length) (h := h) (by omega)
  have mk := make_ok tels.toMats hf K (n := n + 5) (h := [])
  have n1 := ne_tup (xs := (mt s).ps.map .int) (Dat.pvI (mt s).ps)
  have n2 := ne_tup (xs := (mt s).gs.map pvI) (Dat.pvM (mt s).gs)
  have n3 := ne_tup (xs := (mt s).ws.map pvI) (Dat.pvM (mt s).ws)
  have n4 := ne_tup (xs := (wholeT (mt s).ps.length).map pvR) (Dat.pvT _)
  have n5 := ne_tup (xs := (silentT (mt s).ps.length).map pvR) (Dat.pvT _)
  have e1 : PV.tup ((mt s).ps.map .int) = pvI (mt s).ps := rfl
  have e2 : PV.tup ((mt s).gs.map pvI) = pvM (mt s).gs := rfl
  have e3 : PV.tup ((mt s).ws.map pvI) = pvM (mt s).ws := rfl
  have e4 : PV.tup ((wholeT (mt s).ps.length).map pvR) = pvT (wholeT (mt s).ps.length) := rfl
  have e5 : PV.tup ((silentT (mt s).ps.length).map pvR) = pvT (silentT (mt s).ps.length) := rfl
  rw [e1] at n1
  rw [e2] at n2
  rw [e3] at n3
  rw [e4] at n4
  rw [e5] at n5
  have c1 : lcGo (lcP T (calls T fuel (n + 9)) (.pv (.bl true)) (.bi .tuple (.lc (.range (.var 3)) (.name 5) [5] (.pv (.bl true)) (.tup (.cons (.ite (.cmp .eq (.var 5) (.var 6)) (.pv (.int 1)) (.pv (.int 0))) (.cons (.pv (.int 1)) .nil)))))) (.name 6) [some (.p (.lst (s.map .int))), some (.p (plainV (mt s))), some (.p (mt s).obj), some (.p (.int (mt s).ps.length)), none, none, none, none, none, none] ((List.range (mt s).ps.length).map fun (i : Nat) => PV.int i) [] [] = .ok ((wholeT (mt s).ps.length).map pvR) [] := by
    have := lc_map (f := lcP T (calls T fuel (n + 9)) (.pv (.bl true)) (.bi .tuple (.lc (.range (.var 3)) (.name 5) [5] (.pv (.bl true)) (.tup (.cons (.ite (.cmp .eq (.var 5) (.var 6)) (.pv (.int 1)) (.pv (.int 0))) (.cons (.pv (.int 1)) .nil)))))) (t := .name 6) (ρ := [some (.p (.lst (s.map .int))), some (.p (plainV (mt s))), some (.p (mt s).obj), some (.p (.int (mt s).ps.length)), none, none, none, none, none, none]) (val := fun (i : Nat) => PV.int i) (res := fun c => PV.tup ((List.range (mt s).ps.length).map fun o => frac (if o = c then 1 else 0))) (h := []) (xs := List.range (mt s).ps.length) (acc := []) fun c hc =>
      ⟨_, rfl, by
        simp (implicitDefEqProofs := false) [-rgV_int, lcP, rg]
        rw [lc_map (val := fun (i : Nat) => PV.int i) (res := fun o => frac (if o = c then 1 else 0))]
        · simp (implicitDefEqProofs := false) [hs]
        · intro o ho
          refine ⟨_, rfl, ?_⟩
          by_cases e : o = c
          · have e2 : (o : Int) = c := by omega
            simp (implicitDefEqProofs := false) [lcP, e2, s2, e]
            rfl
          · have e2 : ¬ ((o : Int) = c) := by omega
            simp (implicitDefEqProofs := false) [lcP, e2, s2, e]
            rfl⟩
    rw [this]
    simp [wholeT, pvR, Function.comp_def]
  have c105 : ∀ (i : Nat) h, callV (calls T fuel (n + 9)) 35 [.lst (s.map .int), .int (105 + i)] h = .ok (.p (.int (cell s (105 + i)))) h := fun i h => by
    have := cell1 (n := n + 8) (fuel := fuel) (h := h) s (105 + i); simpa using this
  have m4 : ∀ i : Int, op2 .mod (.int i) (.int 4) = some (.int (i % 4)) := fun i => op2_mod_int (by decide)
  have x21 : ∀ i : Int, op2 .mul (.int 21) (.int i) = some (.int (21 * i)) := fun i => op2_mul_sl (by decide)
  have tb : ∀ (i : Nat) h, callV (calls T fuel (n + 9)) 45 [.lst (s.map .int), .int (40 + 21 * i), plainV (mt s), .int (wordsN s i)] h = .ok (.p (pvT (drawn s i))) h := fun i h => by
    have := table_ok hf K (n := n + 7) (h := h) (s := s) (at_ := 40 + 21 * i) (wordsN_b s i).1 (wordsN_b s i).2; simpa [drawn] using this
  have lp := forGo_inv (b := evS T (calls T fuel (n + 9)) (.seq (.append (.var 7) (.call 45 (.cons (.var 0) (.cons (.op .add (.pv (.int 40)) (.op .mul (.pv (.int 21)) (.var 8))) (.cons (.var 1) (.cons (.op .add (.pv (.int 1)) (.op .mod (.bi .int (.call 35 (.cons (.var 0) (.cons (.op .add (.pv (.int 105)) (.var 8)) .nil)))) (.pv (.int 4)))) .nil)))))) .pass)) (t := .name 8) (val := fun (i : Nat) => PV.int i) (xs := List.range 3)
    (fun pre ρ h => ∃ o8, ρ = [some (.p (.lst (s.map .int))), some (.p (plainV (mt s))), some (.p (mt s).obj), some (.p (.int (mt s).ps.length)), some (.p (.lst ((wholeT (mt s).ps.length).map pvR))), none, none, some (.loc 0), o8, none] ∧ h = [.lst (([wholeT (mt s).ps.length, silentT (mt s).ps.length] ++ pre.map (drawn s)).map pvT)])
    (fun pre i post ρ h e ⟨o8, hρ, hh⟩ => by
      subst hρ hh
      have hps : pre.length + 1 + 1 < sizeMax := by
        have := congrArg List.length e
        simp at this
        unfold sizeMax
        omega
      refine ⟨_, [some (.p (.lst (s.map .int))), some (.p (plainV (mt s))), some (.p (mt s).obj), some (.p (.int (mt s).ps.length)), some (.p (.lst ((wholeT (mt s).ps.length).map pvR))), none, none, some (.loc 0), some (.p (.int i)), none], _, rfl, ?_, ⟨_, rfl, rfl⟩⟩
      simp (implicitDefEqProofs := false) [-List.map_map, isLst, x21, c105, m4, wordsN_eq, tb, appV, hps])
    (ρ := [some (.p (.lst (s.map .int))), some (.p (plainV (mt s))), some (.p (mt s).obj), some (.p (.int (mt s).ps.length)), some (.p (.lst ((wholeT (mt s).ps.length).map pvR))), none, none, some (.loc 0), none, none]) (h := [.lst [pvT (wholeT (mt s).ps.length), pvT (silentT (mt s).ps.length)]]) ⟨_, rfl, rfl⟩
  obtain ⟨ρ', h', l1, o8, l2, l3⟩ := lp
  subst l2 l3
  have c2 : ∀ h0 : Store, lcGo (lcP T (calls T fuel (n + 9)) (.pv (.bl true)) (.call 50 (.cons (.var 1) (.cons (.var 2) (.cons (.var 9) .nil))))) (.name 9) [some (.p (.lst (s.map .int))), some (.p (plainV (mt s))), some (.p (mt s).obj), some (.p (.int (mt s).ps.length)), some (.p (.lst ((wholeT (mt s).ps.length).map pvR))), none, none, some (.loc 0), o8, none] (([wholeT (mt s).ps.length, silentT (mt s).ps.length] ++ (List.range 3).map (drawn s)).map pvT) [] h0 = .ok (([wholeT (mt s).ps.length, silentT (mt s).ps.length] ++ (List.range 3).map (drawn s)).map fun _ => .bl true) h0 := fun h0 => by
    have := lc_map (f := lcP T (calls T fuel (n + 9)) (.pv (.bl true)) (.call 50 (.cons (.var 1) (.cons (.var 2) (.cons (.var 9) .nil))))) (t := .name 9) (ρ := [some (.p (.lst (s.map .int))), some (.p (plainV (mt s))), some (.p (mt s).obj), some (.p (.int (mt s).ps.length)), some (.p (.lst ((wholeT (mt s).ps.length).map pvR))), none, none, some (.loc 0), o8, none]) (val := pvT) (res := fun _ => .bl true) (h := h0) (xs := [wholeT (mt s).ps.length, silentT (mt s).ps.length] ++ (List.range 3).map (drawn s)) (acc := []) fun t ht =>
      ⟨_, rfl, by
        have R : ∃ nw, TbR t (mt s).ps.length nw := by
          rcases List.mem_append.mp ht with z | z
          · rcases List.mem_cons.mp z with rfl | z
            · exact ⟨_, whole_tb pl pu⟩
            · obtain rfl := List.mem_singleton.mp z
              exact ⟨_, silent_tb⟩
          · obtain ⟨i, _, rfl⟩ := List.mem_map.mp z
            exact ⟨_, tab_ok s _ (wordsN_b s i).1 (wordsN_b s i).2⟩
        obtain ⟨nw, R⟩ := R
        simp (implicitDefEqProofs := false) [lcP, told_ok hf K R (n := n + 1)]⟩
    rw [this]
    simp
  have bt := bi_all_true ([wholeT (mt s).ps.length, silentT (mt s).ps.length] ++ (List.range 3).map (drawn s))
  have r3 : ∀ h : Store, rgV (.int 3) h = .ok ((List.range 3).map fun (i : Nat) => PV.int i) h := fun h => rg_nat (n := 3) (by decide)
  have s5 : ([wholeT (mt s).ps.length, silentT (mt s).ps.length] ++ (List.range 3).map (drawn s)).length ≤ sizeMax := by unfold sizeMax; simp
  generalize [wholeT (mt s).ps.length, silentT (mt s).ps.length] ++ (List.range 3).map (drawn s) = L at c2 bt l1 s5
  generalize (List.range 3).map (fun (i : Nat) => PV.int i) = R3 at l1 r3
  simp (implicitDefEqProofs := false) only [b51]
  simp (implicitDefEqProofs := false) [-rgV_int, matter_ok (n := n + 7), mk, tels.ini, setAll, fld_parts tels.toMats (n := n + 8), fld_gains tels.toMats (n := n + 8), fld_worths tels.toMats (n := n + 8), n1, n2, n3, len_obj tels.toMats K (n := n + 8), rg, c1, hs,
    whole_ok tels K (n := n + 7), silent_ok tels K (n := n + 7), e4, n4, s1, s2, mul_silent pl pu, n5, r3, l1, fz, toP, c2, bt, s5]
end
end K1

end

section
theorem Sw.run_of {T : Sw.Tab} {fuel n i : Nat} {F : Sw.Fn} {vs : List Sw.Val} {h h1 : Sw.Store} {v : Sw.Val} (hF : T.fns[i]? = some F) (hl : vs.length = F.params) (e : Sw.evS T (Sw.calls T fuel n) F.body (Sw.startE F vs) h = .rt v h1) : (Sw.calls T fuel (n + 1)).run i vs h = .ok v h1 := by
  show (match T.fns[i]? with | some F => Sw.runF T (Sw.calls T fuel n) F vs h | none => .bad) = _
  rw [hF]
  simp only [Sw.runF, hl, if_true, e]
theorem K1.plain (ns : List Int) : ∃ h, (Sw.calls K1.T 100000 20).run 51 [.p (.lst (ns.map .int))] [] = .ok (.p (.bl true)) h := by
  obtain ⟨h1, e⟩ := K1.law_ok (n := 10) (fuel := 100000) (by decide) ns
  exact ⟨h1, Sw.run_of (F := ⟨1, 10, K1.b51⟩) rfl rfl e⟩
theorem PySem.Challenge.cw_saywhat_k01_whole_tellings_holds : PySem.Challenge.rw_saywhat_k01_whole_tellings.Holds :=
  K1.holds fun ns _ => K1.plain ns

end

