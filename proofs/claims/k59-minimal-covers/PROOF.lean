import PyProof.Rows.All
import PySem.Str
import HandS.ForMost
import HandS.ForExc
import HandS.IsInst
import HandS.Wide
import HandS.TupAny
import HandS.TupLe
import HandS.Conv
import KE.DataEq
import HandS.SortRule
import HandS.NamedTupSort
import HandS.TupSets
import HandS.SortInts
import HandS.ExcOwn
import HandS.Comp
import HandS.Iter
import HandS.Style
import HandS.Walk
import HandS.Ends
import HandS.More
import HandS.Words
import HandS.WordsExc
import HandS.Defaults
import HandS.Codes
import HandS.Head0
import HandS.Head1
import HandS.Head2
import HandS.HeadEnd
import HandS.HeadHook1
import HandS.HeadHook2
import KE.KStateDown
import PySem.Challenge.RW_skerrylight_k59_minimal_covers
set_option autoImplicit false
/-! Part A: plain values, a small statement language, its meaning as total functions. -/
namespace Sk
open PySem (Str)

inductive PV where
  | non
  | bl (b : Bool)
  | int (i : Int)
  | str (s : Str)
  | tup (xs : List PV)
  | lst (xs : List PV)
  | ref (n : Nat)
  deriving Inhabited

mutual
def dep : PV → Nat
  | .tup xs => deps xs + 1
  | .lst xs => deps xs + 1
  | _ => 0
def deps : List PV → Nat
  | [] => 0
  | x :: xs => max (dep x) (deps xs)
end

mutual
/-- equality as the language has it, of data -/
def eqv : PV → PV → Bool
  | .non, .non => true
  | .bl a, .bl b => a == b
  | .bl a, .int j => (if a then 1 else 0) == j
  | .int i, .bl b => i == (if b then 1 else 0)
  | .int i, .int j => i == j
  | .str a, .str b => a == b
  | .tup xs, .tup ys => eqvs xs ys
  | .lst xs, .lst ys => eqvs xs ys
  | _, _ => false
def eqvs : List PV → List PV → Bool
  | [], [] => true
  | x :: xs, y :: ys => eqv x y && eqvs xs ys
  | _, _ => false
end

mutual
/-- less than, of numbers, texts and tuples of them -/
def ltv : PV → PV → Option Bool
  | .int i, .int j => some (decide (i < j))
  | .str a, .str b => some (decide (a.cps.toList < b.cps.toList))
  | .tup xs, .tup ys => ltvs xs ys
  | _, _ => none
def ltvs : List PV → List PV → Option Bool
  | [], [] => some false
  | [], _ :: _ => some true
  | _ :: _, [] => some false
  | x :: xs, y :: ys => if eqv x y then ltvs xs ys else ltv x y
end
mutual
def lev : PV → PV → Option Bool
  | .int i, .int j => some (decide (i ≤ j))
  | .tup xs, .tup ys => levs xs ys
  | _, _ => none
def levs : List PV → List PV → Option Bool
  | [], _ => some true
  | _ :: _, [] => some false
  | x :: xs, y :: ys => if eqv x y then levs xs ys else lev x y
end

/-- the objects that change: dicts and instances -/
inductive SO where
  | dict (kvs : List (PV × PV))
  | ins (c : Nat) (fs : List (Str × PV))
abbrev Sto := List SO

inductive Out (α : Type) where
  | ok (a : α) (s : Sto)
  | exn (c : Nat) (v : PV) (s : Sto)
  | bad
abbrev M (α : Type) := Sto → Out α
def rt {α : Type} (a : α) : M α := fun s => .ok a s
def fail {α : Type} : M α := fun _ => .bad
def bnd {α β : Type} (m : M α) (k : α → M β) : M β := fun s => match m s with
  | .ok a s' => k a s'
  | .exn c v s' => .exn c v s'
  | .bad => .bad
/-- where no exception may leave -/
def noX {α : Type} (m : M α) : M α := fun s => match m s with
  | .ok a s' => .ok a s'
  | _ => .bad
def opt {α : Type} : Option α → M α
  | some a => rt a
  | none => fail

inductive Slot where
  | un
  | sh (v : PV)
  | ow (xs : List PV)
  | ex (v : PV)
abbrev Env := List Slot
def shOf : Option Slot → Option PV
  | some (.sh v) => some v
  | _ => none
def boOf : Option Slot → Option PV
  | some (.sh v) => some v
  | some (.ow xs) => some (.lst xs)
  | _ => none
def owOf : Option Slot → Option (List PV)
  | some (.ow xs) => some xs
  | _ => none
def exOf : Option Slot → Option PV
  | some (.ex v) => some v
  | _ => none

inductive BO where | add | sub | mul | fdiv | mod | pow
inductive CO where | eq | ne | lt | le | gt | ge | inn | nin | is | isn
inductive Bi where | len | tuple | list | int | abs | min | max | sum | sorted | gcd | lcm | str
inductive Ty where | int | bool | str | tuple | list | intstr | tuplist

inductive MP where
  | nm (i : Nat)
  | tp (is : List Nat)

mutual
inductive ME where
  | var (i : Nat)
  | int (i : Int)
  | bl (b : Bool)
  | non
  | str (s : Str)
  | glo (x : Nat)
  | bin (op : BO) (a b : ME)
  | neg (a : ME)
  | not (a : ME)
  | and (a b : ME)
  | or (a b : ME)
  | cmp (op : CO) (a b : ME)
  | chain (op op' : CO) (a b c : ME)
  | idx (a i : ME)
  | sli (a : ME) (lo hi : MO)
  | rev (a : ME)
  | tup (es : MEs)
  | lst (es : MEs)
  | att (a : ME) (f : Str)
  | exf (i : Nat) (f : Str)
  | call (f : Nat) (es : MEs)
  | blt (b : Bi) (es : MEs)
  | isi (a : ME) (t : Ty)
  | new (c f : Nat) (es : MEs)
  | mth (a : ME) (c f : Nat) (es : MEs)
  | comp (elt : ME) (p : MP) (it : MI) (cond : MO)
  | comp2 (elt : ME) (p : MP) (it : MI) (p2 : MP) (it2 : MI) (cond : MO)
  | rgt (it : MI)
  | rgl (it : MI)
  | dnew
  | dstr (ks : List Str) (es : MEs)
  | dcomp (k v : ME) (p : MP) (it : MI)
inductive MEs where
  | nil
  | cons (e : ME) (es : MEs)
inductive MO where
  | no
  | so (e : ME)
inductive MI where
  | seq (e : ME)
  | rg1 (a : ME)
  | rg2 (a b : ME)
  | rgd (a b : ME)
end

mutual
inductive MS where
  | asg (i : Nat) (e : ME)
  | asgO (i : Nat) (e : ME)
  | unp (is : List Nat) (e : ME)
  | frz (i : Nat)
  | app (i : Nat) (e : ME)
  | ext (i : Nat) (e : ME)
  | ins (i : Nat) (k e : ME)
  | popD (i : Nat)
  | popU (is : List Nat) (i : Nat)
  | rvs (i : Nat)
  | seti (i : Nat) (k e : ME)
  | dput (d k e : ME)
  | satt (o : ME) (f : Str) (e : ME)
  | exp (e : ME)
  | ret (e : ME)
  | retO (i : Nat)
  | retN
  | ite (t : ME) (a b : MSs)
  | for (p : MP) (it : MI) (wipe : List Nat) (b : MSs)
  | whl (fuel : Nat) (t : ME) (wipe : List Nat) (b : MSs)
  | brk
  | cnt
  | pas
  | rse (c : Nat) (e : ME)
  | tryx (b : MSs) (c : Nat) (i : Nat) (h : MSs)
  | nev
inductive MSs where
  | nil
  | cons (s : MS) (r : MSs)
end

/-! ### operations by values -/
def line : Nat := 16777216
def small (n : Nat) : Bool := decide (n < 18446744073709551616)
def mulOk (i j : Int) : Bool := small i.natAbs || small j.natAbs || decide (i.natAbs.log2 + j.natAbs.log2 < 1000000)
def divOk (j : Int) : Bool := decide (j ≠ 0) && (decide (j.natAbs < 1073741824) || (decide (0 < j) && decide (j.natAbs.log2 < 9000)))
def pyBin : BO → PV → PV → Option PV
  | .add, .int i, .int j => some (.int (i + j))
  | .add, .str a, .str b => if a.length + b.length ≤ line then some (.str (a ++ b)) else none
  | .add, .tup a, .tup b => if a.length + b.length ≤ line then some (.tup (a ++ b)) else none
  | .add, .lst a, .lst b => if a.length + b.length ≤ line then some (.lst (a ++ b)) else none
  | .sub, .int i, .int j => some (.int (i - j))
  | .mul, .int i, .int j => if mulOk i j then some (.int (i * j)) else none
  | .fdiv, .int i, .int j => if divOk j then some (.int (i.fdiv j)) else none
  | .mod, .int i, .int j => if j = 0 then none else some (.int (i.fmod j))
  | .pow, .int i, .int j => if 0 ≤ j ∧ j ≤ 1000000 ∧ small i.natAbs then some (.int (i ^ j.toNat)) else none
  | _, _, _ => none

def isRef : PV → Bool
  | .ref _ => true
  | _ => false
/-- no reference stands at the top -/
def eqOk (a b : PV) : Bool := !isRef a && !isRef b && decide (min (dep a) (dep b) ≤ 200)
def dictOf (σ : Sto) : PV → Option (List (PV × PV))
  | .ref n => match σ[n]? with
    | some (.dict kvs) => some kvs
    | _ => none
  | _ => none
mutual
def keyOk : PV → Bool
  | .int _ => true
  | .str _ => true
  | .tup xs => keyOks xs
  | _ => false
def keyOks : List PV → Bool
  | [] => true
  | x :: xs => keyOk x && keyOks xs
end
def look (k : PV) : List (PV × PV) → Option PV
  | [] => none
  | (a, v) :: r => if eqv a k then some v else look k r
def put (k v : PV) : List (PV × PV) → List (PV × PV)
  | [] => [(k, v)]
  | (a, u) :: r => if eqv a k then (a, v) :: r else (a, u) :: put k v r
def pyIn (σ : Sto) (x : PV) : PV → Option Bool
  | .tup ys => if !isRef x && decide (min (deps ys) (dep x) ≤ 200) then some (ys.any fun y => eqv y x) else none
  | .lst ys => if !isRef x && decide (min (deps ys) (dep x) ≤ 200) then some (ys.any fun y => eqv y x) else none
  | .str z => match x with
    | .str ⟨⟨[c]⟩⟩ => some (decide (c ∈ z.cps.toList))
    | _ => none
  | d => match dictOf σ d with
    | some kvs => if keyOk x then some (look x kvs).isSome else none
    | none => none
def pyIs : PV → PV → Option Bool
  | .non, .non => some true
  | .ref _, .non => some false
  | .bl a, .bl b => some (a == b)
  | _, .non => some false
  | _, _ => none
def pyCmp (σ : Sto) : CO → PV → PV → Option Bool
  | .eq, a, b => if eqOk a b then some (eqv a b) else none
  | .ne, a, b => if eqOk a b then some (!eqv a b) else none
  | .lt, .int i, .int j => some (decide (i < j))
  | .gt, .int i, .int j => some (decide (j < i))
  | .le, .int i, .int j => some (decide (i ≤ j))
  | .ge, .int i, .int j => some (decide (j ≤ i))
  | .inn, a, b => pyIn σ a b
  | .nin, a, b => (pyIn σ a b).map not
  | .is, a, b => pyIs a b
  | .isn, a, b => (pyIs a b).map not
  | _, _, _ => none
def place (n : Nat) (i : Int) : Option Nat :=
  if 0 ≤ i then (if i < n then some i.toNat else none) else (if 0 ≤ i + n then some (i + n).toNat else none)
def item {α : Type} (xs : List α) (i : Int) : Option α := match place xs.length i with
  | some j => xs[j]?
  | none => none
def pyIdx (σ : Sto) : PV → PV → Option PV
  | .tup xs, .int i => item xs i
  | .lst xs, .int i => item xs i
  | .str z, .int i => if z.length ≤ line then (item z.cps.toList i).map fun c => .str ⟨#[c]⟩ else none
  | d, k => match dictOf σ d with
    | some kvs => if keyOk k then look k kvs else none
    | none => none
def cutAt (n d : Nat) : Option Int → Nat
  | none => d
  | some v => if v < 0 then (v + n).toNat else min v.toNat n
def cut {α : Type} (xs : List α) (lo hi : Option Int) : List α :=
  (xs.drop (cutAt xs.length 0 lo)).take (cutAt xs.length xs.length hi - cutAt xs.length 0 lo)
def pySli : PV → Option Int → Option Int → Option PV
  | .tup xs, lo, hi => some (.tup (cut xs lo hi))
  | .lst xs, lo, hi => some (.lst (cut xs lo hi))
  | _, _, _ => none
def pyRev : PV → Option PV
  | .tup xs => some (.tup xs.reverse)
  | .lst xs => some (.lst xs.reverse)
  | _ => none
def isTy : Ty → PV → Option Bool
  | _, .ref _ => none
  | .int, .int _ => some true
  | .int, .bl _ => some true
  | .bool, .bl _ => some true
  | .str, .str _ => some true
  | .tuple, .tup _ => some true
  | .list, .lst _ => some true
  | .intstr, _ => none
  | .tuplist, _ => none
  | _, _ => some false
def truthy : PV → Option Bool
  | .non => some false
  | .bl b => some b
  | .int i => some (i != 0)
  | .tup xs => some (!xs.isEmpty)
  | .lst xs => some (!xs.isEmpty)
  | _ => none
def intOf : PV → Option Int
  | .int i => some i
  | _ => none
def intsOf : List PV → Option (List Int)
  | [] => some []
  | .int i :: r => (intsOf r).map (i :: ·)
  | _ :: _ => none
def tupIs : List PV → Bool
  | [] => true
  | .int _ :: r => tupIs r
  | _ :: _ => false
def isTupI : PV → Bool
  | .tup xs => tupIs xs
  | _ => false
def isInt : PV → Bool
  | .int _ => true
  | _ => false
def ltb (a b : PV) : Bool := (ltv a b).getD false
def insert1 (x : PV) : List PV → List PV
  | [] => [x]
  | y :: r => if ltb y x then y :: insert1 x r else x :: y :: r
def isort : List PV → List PV
  | [] => []
  | x :: r => insert1 x (isort r)
def pySorted (xs : List PV) : Option (List PV) :=
  if xs.all isInt || xs.all isTupI then some (isort xs) else none
def least : Int → List Int → Int
  | m, [] => m
  | m, x :: r => if x < m then least x r else least m r
def most : Int → List Int → Int
  | m, [] => m
  | m, x :: r => if m < x then most x r else most m r
def pyBlt (σ : Sto) : Bi → List PV → Option PV
  | .len, [.tup xs] => some (.int xs.length)
  | .len, [.lst xs] => some (.int xs.length)
  | .len, [.str z] => if z.length ≤ line then some (.int z.length) else none
  | .tuple, [.tup xs] => some (.tup xs)
  | .tuple, [.lst xs] => some (.tup xs)
  | .list, [.tup xs] => some (.lst xs)
  | .list, [.lst xs] => some (.lst xs)
  | .int, [.int i] => some (.int i)
  | .int, [.bl b] => some (.int (if b then 1 else 0))
  | .abs, [.int i] => some (.int (if i < 0 then -i else i))
  | .min, [.int i, .int j] => some (.int (if j < i then j else i))
  | .max, [.int i, .int j] => some (.int (if j > i then j else i))
  | .min, [.lst xs] => match intsOf xs with
    | some (i :: r) => some (.int (least i r))
    | _ => none
  | .max, [.lst xs] => match intsOf xs with
    | some (i :: r) => some (.int (most i r))
    | _ => none
  | .sum, [.lst xs] => (intsOf xs).map fun l => .int l.sum
  | .sorted, [.lst xs] => (pySorted xs).map .lst
  | _, _ => none

/-! ### binding -/
def setE (env : Env) (i : Nat) (s : Slot) : Env := env.set i s
def bindEach : List Nat → List PV → Env → Option Env
  | [], [], env => some env
  | i :: is, v :: vs, env => bindEach is vs (env.set i (.sh v))
  | _, _, _ => none
def bindTo : MP → PV → Env → Option Env
  | .nm i, v, env => some (env.set i (.sh v))
  | .tp is, .tup vs, env => bindEach is vs env
  | _, _, _ => none
def wipeE : List Nat → Env → Env
  | [], env => env
  | i :: is, env => wipeE is (env.set i .un)
def itemsOf : PV → Option (List PV)
  | .tup xs => some xs
  | .lst xs => some xs
  | .str z => if z.length ≤ line then some (z.cps.toList.map fun c => .str ⟨#[c]⟩) else none
  | _ => none
def rng (a : Int) (n : Nat) : List PV := (List.range n).map fun (k : Nat) => .int (a + (k : Int))
def rngd (a : Int) (n : Nat) : List PV := (List.range n).map fun (k : Nat) => .int (a - (k : Int))
def r62 (i : Int) : Bool := decide (-4611686018427387904 ≤ i) && decide (i < 4611686018427387904)
def boOk : Option Bool → M Bool := opt

abbrev Calls := Nat → List PV → M (PV × Bool)

def filtM (f : PV → M (Option PV)) : List PV → M (List PV)
  | [] => rt []
  | x :: xs => bnd (f x) fun o => bnd (filtM f xs) fun r => rt (match o with | some v => v :: r | none => r)
def flatM (f : PV → M (List PV)) : List PV → M (List PV)
  | [] => rt []
  | x :: xs => bnd (f x) fun o => bnd (flatM f xs) fun r => rt (o ++ r)
def eachM (f : PV → M (PV × PV)) : List PV → List (PV × PV) → M (List (PV × PV))
  | [], acc => rt acc
  | x :: xs, acc => bnd (f x) fun kv => eachM f xs (put kv.1 kv.2 acc)
def fieldOf (σ : Sto) (f : Str) : PV → Option PV
  | .ref n => match σ[n]? with
    | some (.ins _ fs) => fs.lookup f
    | _ => none
  | _ => none
def clsOf (σ : Sto) : PV → Option Nat
  | .ref n => match σ[n]? with
    | some (.ins c _) => some c
    | _ => none
  | _ => none
def alloc (o : SO) : M PV := fun σ => .ok (.ref σ.length) (σ ++ [o])
def withS {α : Type} (f : Sto → Option α) : M α := fun σ => match f σ with
  | some a => .ok a σ
  | none => .bad
def noRefs : List PV → Bool
  | [] => true
  | x :: xs => !isRef x && noRefs xs
def mk (c : List PV → PV) (vs : List PV) : M PV := if noRefs vs && decide (vs.length ≤ line) then rt (c vs) else fail

/-- reading without keeping: a list that is still being built may be looked at -/
def bor (e : ME) (m : M PV) (env : Env) : M PV := match e with
  | .var i => opt (boOf env[i]?)
  | _ => m
section
variable (G : Nat → Option PV) (C : Calls)
mutual
def ev : ME → Env → M PV
  | .var i, env => opt (shOf env[i]?)
  | .int i, _ => rt (.int i)
  | .bl b, _ => rt (.bl b)
  | .non, _ => rt .non
  | .str s, _ => rt (.str s)
  | .glo x, _ => opt (G x)
  | .bin op a b, env => bnd (bor a (ev a env) env) fun v => bnd (bor b (ev b env) env) fun w => opt (pyBin op v w)
  | .neg a, env => bnd (ev a env) fun v => opt (match v with | .int i => some (.int (-i)) | _ => none)
  | .not a, env => bnd (ev a env) fun v => opt ((truthy v).map fun b => .bl (!b))
  | .and a b, env => bnd (ev a env) fun v => match v with
    | .bl true => ev b env
    | .bl false => rt (.bl false)
    | _ => fail
  | .or a b, env => bnd (ev a env) fun v => match v with
    | .bl true => rt (.bl true)
    | .bl false => ev b env
    | _ => fail
  | .cmp op a b, env => bnd (bor a (ev a env) env) fun v => bnd (bor b (ev b env) env) fun w => withS fun σ => (pyCmp σ op v w).map .bl
  | .chain op op' a b c, env => bnd (bor a (ev a env) env) fun v => bnd (bor b (ev b env) env) fun w => bnd (withS fun σ => pyCmp σ op v w) fun k => match k with
    | true => bnd (bor c (ev c env) env) fun u => withS fun σ => (pyCmp σ op' w u).map .bl
    | false => rt (.bl false)
  | .idx a i, env => bnd (bor a (ev a env) env) fun v => bnd (ev i env) fun k => withS fun σ => pyIdx σ v k
  | .sli a lo hi, env => bnd (bor a (ev a env) env) fun v => bnd (evO lo env) fun l => bnd (evO hi env) fun h => opt (pySli v l h)
  | .rev a, env => bnd (bor a (ev a env) env) fun v => opt (pyRev v)
  | .tup es, env => bnd (evs es env) (mk .tup)
  | .lst es, env => bnd (evs es env) (mk .lst)
  | .att a f, env => bnd (ev a env) fun v => withS fun σ => fieldOf σ f v
  | .exf i _, env => opt (exOf env[i]?)
  | .call f es, env => bnd (evs es env) fun vs => bnd (C f vs) fun r => rt r.1
  | .blt b es, env => bnd (evsB es env) fun vs => withS fun σ => pyBlt σ b vs
  | .isi a t, env => bnd (bor a (ev a env) env) fun v => opt ((isTy t v).map .bl)
  | .new c f es, env => bnd (evs es env) fun vs => bnd (alloc (.ins c [])) fun o => bnd (C f (o :: vs)) fun _ => rt o
  | .mth a c f es, env => bnd (ev a env) fun o => bnd (withS fun σ => clsOf σ o) fun c' =>
    if c' = c then bnd (evs es env) fun vs => bnd (C f (o :: vs)) fun r => rt r.1 else fail
  | .comp elt p it cond, env => bnd (evI it env) fun xs => bnd (filtM (fun x => noX (bnd (opt (bindTo p x env)) fun env' => bnd (evC cond env') fun k => match k with
      | true => bnd (ev elt env') fun v => if isRef v then fail else rt (some v)
      | false => rt none)) xs) fun ys => rt (.lst ys)
  | .comp2 elt p it p2 it2 cond, env => bnd (evI it env) fun xs => bnd (flatM (fun x => noX (bnd (opt (bindTo p x env)) fun env' => bnd (evI it2 env') fun zs =>
      filtM (fun z => bnd (opt (bindTo p2 z env')) fun env2 => bnd (evC cond env2) fun k => match k with
      | true => bnd (ev elt env2) fun v => if isRef v then fail else rt (some v)
      | false => rt none) zs)) xs) fun ys => if ys.length ≤ line then rt (.lst ys) else fail
  | .rgt it, env => bnd (evI it env) fun xs => if xs.length ≤ line then rt (.tup xs) else fail
  | .rgl it, env => bnd (evI it env) fun xs => if xs.length ≤ line then rt (.lst xs) else fail
  | .dnew, _ => alloc (.dict [])
  | .dstr ks es, env => bnd (evs es env) fun vs => alloc (.dict ((ks.map PV.str).zip vs))
  | .dcomp k v p it, env => bnd (evI it env) fun xs => bnd (eachM (fun x => noX (bnd (opt (bindTo p x env)) fun env' => bnd (ev k env') fun kv => bnd (ev v env') fun vv =>
      if keyOk kv then rt (kv, vv) else fail)) xs []) fun kvs => alloc (.dict kvs)
def evs : MEs → Env → M (List PV)
  | .nil, _ => rt []
  | .cons e es, env => bnd (ev e env) fun v => bnd (evs es env) fun vs => rt (v :: vs)
def evsB : MEs → Env → M (List PV)
  | .nil, _ => rt []
  | .cons e es, env => bnd (bor e (ev e env) env) fun v => bnd (evsB es env) fun vs => rt (v :: vs)
def evO : MO → Env → M (Option Int)
  | .no, _ => rt none
  | .so e, env => bnd (ev e env) fun v => opt (match v with | .int i => some (some i) | _ => none)
def evC : MO → Env → M Bool
  | .no, _ => rt true
  | .so e, env => bnd (bor e (ev e env) env) fun v => opt (truthy v)
def evI : MI → Env → M (List PV)
  | .seq e, env => bnd (bor e (ev e env) env) fun v => opt (itemsOf v)
  | .rg1 a, env => bnd (ev a env) fun v => match v with
    | .int i => if r62 i && decide (i.toNat ≤ line) then rt (rng 0 i.toNat) else fail
    | _ => fail
  | .rg2 a b, env => bnd (ev a env) fun v => bnd (ev b env) fun w => match v, w with
    | .int i, .int j => if r62 i && r62 j && decide ((j - i).toNat ≤ line) then rt (rng i (j - i).toNat) else fail
    | _, _ => fail
  | .rgd a b, env => bnd (ev a env) fun v => bnd (ev b env) fun w => match v, w with
    | .int i, .int j => if r62 i && r62 j && decide ((i - j).toNat ≤ line) then rt (rngd i (i - j).toNat) else fail
    | _, _ => fail
end
def evB (e : ME) (env : Env) : M PV := bor e (ev G C e env) env
/-- a test -/
def evT (e : ME) (env : Env) : M Bool := bnd (evB G C e env) fun v => opt (truthy v)

inductive Fl where
  | nx
  | bk
  | ct
  | rt (v : PV)
  | ro (xs : List PV)
  | ex (c : Nat) (v : PV)

def isFresh : ME → Bool
  | .lst _ => true
  | .comp _ _ _ _ => true
  | .comp2 _ _ _ _ _ _ => true
  | .blt .list _ => true
  | .blt .sorted _ => true
  | .sli _ _ _ => true
  | .rev _ => true
  | .rgl _ => true
  | .bin .add _ _ => true
  | .bin .mul _ _ => true
  | .call _ _ => true
  | _ => false
def lstOf : PV → Option (List PV)
  | .lst xs => some xs
  | _ => none
def newOf : PV × Bool → Option (List PV)
  | (.lst xs, true) => some xs
  | _ => none
/-- a new list that nobody else holds -/
def evF (e : ME) (env : Env) : M (List PV) := match e with
  | .call f es => bnd (evs G C es env) fun vs => bnd (C f vs) fun r => opt (newOf r)
  | e => if isFresh e then bnd (ev G C e env) fun v => opt (lstOf v) else fail

/-- at a statement: an exception is a way to leave, with the slots as they are -/
def bndE {α : Type} (env : Env) (m : M α) (k : α → M (Fl × Env)) : M (Fl × Env) := fun s => match m s with
  | .ok a s' => k a s'
  | .exn c v s' => .ok (.ex c v, env) s'
  | .bad => .bad
/-- what a for statement walks: nothing that is still being built -/
def evJ (it : MI) (env : Env) : M (List PV) := match it with
  | .seq e => bnd (ev G C e env) fun v => opt (itemsOf v)
  | it => evI G C it env
def forL (body : PV → Env → M (Fl × Env)) : List PV → Env → M (Fl × Env)
  | [], env => rt (.nx, env)
  | x :: xs, env => bnd (body x env) fun r => match r.1 with
    | .nx => forL body xs r.2
    | .ct => forL body xs r.2
    | .bk => rt (.nx, r.2)
    | f => rt (f, r.2)
def whL (test : Env → M Bool) (body : Env → M (Fl × Env)) : Nat → Env → M (Fl × Env)
  | 0, _ => fail
  | n + 1, env => bndE env (test env) fun b => match b with
    | false => rt (.nx, env)
    | true => bnd (body env) fun r => match r.1 with
      | .nx => whL test body n r.2
      | .ct => whL test body n r.2
      | .bk => rt (.nx, r.2)
      | f => rt (f, r.2)
def cat (m : M (Fl × Env)) (k : Env → M (Fl × Env)) : M (Fl × Env) := bnd m fun r => match r.1 with
  | .nx => k r.2
  | f => rt (f, r.2)
def nxt (env : Env) : M (Fl × Env) := rt (.nx, env)
def withO (env : Env) (i : Nat) (k : List PV → M (Fl × Env)) : M (Fl × Env) := match owOf env[i]? with
  | some xs => k xs
  | none => fail
def setSO (d : PV) (f : SO → Option SO) : M Unit := fun σ => match d with
  | .ref n => match σ[n]? with
    | some o => match f o with
      | some o' => .ok () (σ.set n o')
      | none => .bad
    | none => .bad
  | _ => .bad
def putF (f : Str) (v : PV) : List (Str × PV) → List (Str × PV)
  | [] => [(f, v)]
  | (g, x) :: r => if g = f then (g, v) :: r else (g, x) :: putF f v r
mutual
def sx : MS → Env → M (Fl × Env)
  | .asg i e, env => bndE env (ev G C e env) fun v => nxt (env.set i (.sh v))
  | .asgO i e, env => bndE env (evF G C e env) fun xs => nxt (env.set i (.ow xs))
  | .unp is e, env => bndE env (evB G C e env) fun v => bndE env (opt (bindTo (.tp is) v env)) nxt
  | .frz i, env => withO env i fun xs => nxt (env.set i (.sh (.lst xs)))
  | .app i e, env => withO env i fun xs => bndE env (ev G C e env) fun v => if isRef v || decide (line ≤ xs.length) then fail else nxt (env.set i (.ow (xs ++ [v])))
  | .ext i e, env => withO env i fun xs => bndE env (evB G C e env) fun v => match v with
    | .lst ys => if xs.length + ys.length ≤ line then nxt (env.set i (.ow (xs ++ ys))) else fail
    | _ => fail
  | .ins i k e, env => withO env i fun xs => bndE env (ev G C k env) fun kv => bndE env (ev G C e env) fun v => match kv with
    | .int j => if isRef v || decide (line ≤ xs.length) || decide (j < 0) || decide (9223372036854775808 ≤ j) then fail else nxt (env.set i (.ow (xs.take j.toNat ++ [v] ++ xs.drop j.toNat)))
    | _ => fail
  | .popD i, env => withO env i fun xs => if xs.isEmpty then fail else nxt (env.set i (.ow xs.dropLast))
  | .popU is i, env => withO env i fun xs => match xs.getLast? with
    | some (.tup vs) => bnd (opt (bindEach is vs (env.set i (.ow xs.dropLast)))) nxt
    | _ => fail
  | .rvs i, env => withO env i fun xs => nxt (env.set i (.ow xs.reverse))
  | .seti i k e, env => withO env i fun xs => bndE env (ev G C e env) fun v => bndE env (ev G C k env) fun kv => match kv with
    | .int j => match place xs.length j with
      | some m => if isRef v then fail else nxt (env.set i (.ow (xs.set m v)))
      | none => fail
    | _ => fail
  | .dput d k e, env => bndE env (ev G C e env) fun v => bndE env (ev G C d env) fun dv => bndE env (ev G C k env) fun kv =>
      if keyOk kv then bndE env (setSO dv fun o => match o with | .dict kvs => if kvs.length < line then some (.dict (put kv v kvs)) else none | _ => none) fun _ => nxt env else fail
  | .satt o f e, env => bndE env (ev G C e env) fun v => bndE env (ev G C o env) fun ov =>
      bndE env (setSO ov fun o => match o with | .ins c fs => if fs.length < 900 then some (.ins c (putF f v fs)) else none | _ => none) fun _ => nxt env
  | .exp e, env => bndE env (ev G C e env) fun _ => nxt env
  | .ret e, env => bndE env (ev G C e env) fun v => rt (.rt v, env)
  | .retO i, env => withO env i fun xs => rt (.ro xs, env)
  | .retN, env => rt (.rt .non, env)
  | .ite t a b, env => bndE env (evT G C t env) fun k => match k with
    | true => sxs a env
    | false => sxs b env
  | .for p it w b, env => bndE env (evJ G C it env) fun xs => forL (fun x env => bnd (opt (bindTo p x env)) fun env1 => bnd (sxs b env1) fun r => rt (r.1, wipeE w r.2)) xs (wipeE w env)
  | .whl n t w b, env => whL (fun env => evT G C t env) (fun env => bnd (sxs b env) fun r => rt (r.1, wipeE w r.2)) n (wipeE w env)
  | .brk, env => rt (.bk, env)
  | .cnt, env => rt (.ct, env)
  | .pas, env => nxt env
  | .rse c e, env => bndE env (ev G C e env) fun v => rt (.ex c v, env)
  | .tryx b c i h, env => bnd (sxs b env) fun r => match r.1 with
    | .ex c' v => if c' = c then bnd (sxs h (r.2.set i (.ex v))) fun r => rt (r.1, r.2.set i .un) else rt r
    | _ => rt r
  | .nev, _ => fail
def sxs : MSs → Env → M (Fl × Env)
  | .nil, env => nxt env
  | .cons s r, env => cat (sx s env) fun env => sxs r env
end
end

/-! ### a program -/
structure FD where
  nps : Nat
  size : Nat
  body : MSs
def start (d : FD) (vs : List PV) : Env := vs.map Slot.sh ++ List.replicate (d.size - d.nps) .un
def finish (m : M (Fl × Env)) : M (PV × Bool) := fun s => match m s with
  | .ok (.nx, _) s' => .ok (.non, false) s'
  | .ok (.rt v, _) s' => .ok (v, false) s'
  | .ok (.ro xs, _) s' => .ok (.lst xs, true) s'
  | .ok (.ex c v, _) s' => .exn c v s'
  | _ => .bad
def callI (G : Nat → Option PV) (P : Nat → Option FD) : Nat → Calls
  | 0, _, _ => fail
  | n + 1, f, vs => match P f with
    | some d => if vs.length = d.nps then finish (sxs G (callI G P n) d.body (start d vs)) else fail
    | none => fail
end Sk

set_option Elab.async false
set_option linter.all false
set_option maxRecDepth 100000
/-! Part B1: plain values in the heap, the state of a body, computations read over it. -/
namespace SkB
open PySem PySem.Spec L2
open Sk (PV ME MEs MO MI MP MS MSs Slot Sto Out Fl Calls FD BO CO Bi Ty)

/-! ### data in the heap -/
mutual
/-- the value v is the plain p, by what is shared (G) -/
inductive DP (K : PySem.W.Frag) (G : Hp) : V → PV → Prop
  | non : DP K G .non .non
  | bl (b : Bool) : DP K G (.bl b) (.bl b)
  | int (i : Int) : DP K G (.int i) (.int i)
  | str (x : Str) : DP K G (.str x) (.str x)
  | lst {a : Addr} {vs : List V} {ps : List PV} : SqL K G a vs → DPs K G vs ps → DP K G (.ref a) (.lst ps)
  | tup {a : Addr} {vs : List V} {ps : List PV} : SqT K G a vs → DPs K G vs ps → DP K G (.ref a) (.tup ps)
inductive DPs (K : PySem.W.Frag) (G : Hp) : List V → List PV → Prop
  | nil : DPs K G [] []
  | cons {v : V} {p : PV} {vs : List V} {ps : List PV} : DP K G v p → DPs K G vs ps → DPs K G (v :: vs) (p :: ps)
end
mutual
def toD : PV → PyData
  | .non => .none
  | .bl b => .bool b
  | .int i => .int i
  | .str s => .str s
  | .tup xs => .tuple (toDs xs)
  | .lst xs => .list (toDs xs)
  | .ref _ => .none
def toDs : List PV → List PyData
  | [] => []
  | x :: xs => toD x :: toDs xs
end
abbrev Sub (G G' : Hp) : Prop := ∀ a o, G a = some o → G' a = some o
theorem rd_sub {G G' : Hp} (s : Sub G G') {a : Addr} {u : HO} (h : Rd G a u) : Rd G' a u := by
  rcases h with h | ⟨o, h⟩
  · exact .inl (s _ _ h)
  · exact .inr ⟨o, s _ _ h⟩
theorem sql_sub {K : PySem.W.Frag} {G G' : Hp} (s : Sub G G') {a : Addr} {vs : List V} (h : SqL K G a vs) : SqL K G' a vs := by
  rcases h with h | h
  · exact .inl (rd_sub s h)
  · exact .inr h
theorem sqt_sub {K : PySem.W.Frag} {G G' : Hp} (s : Sub G G') {a : Addr} {vs : List V} (h : SqT K G a vs) : SqT K G' a vs := by
  rcases h with h | h
  · exact .inl (rd_sub s h)
  · exact .inr h
mutual
theorem DP.sub {K : PySem.W.Frag} {G G' : Hp} (s : Sub G G') {v : V} : ∀ {p : PV}, DP K G v p → DP K G' v p
  | _, .non => .non
  | _, .bl b => .bl b
  | _, .int i => .int i
  | _, .str x => .str x
  | _, .lst h hs => .lst (sql_sub s h) (DPs.sub s hs)
  | _, .tup h hs => .tup (sqt_sub s h) (DPs.sub s hs)
theorem DPs.sub {K : PySem.W.Frag} {G G' : Hp} (s : Sub G G') {vs : List V} : ∀ {ps : List PV}, DPs K G vs ps → DPs K G' vs ps
  | _, .nil => .nil
  | _, .cons h hs => .cons (DP.sub s h) (DPs.sub s hs)
end
mutual
theorem DP.dp {K : PySem.W.Frag} {G : Hp} {v : V} : ∀ {p : PV}, DP K G v p → Dp K G v (toD p)
  | _, .non => .non
  | _, .bl b => .bl b
  | _, .int i => .int i
  | _, .str x => .str x
  | _, .lst h hs => .lst h (DPs.dp hs)
  | _, .tup h hs => .tup h (DPs.dp hs)
theorem DPs.dp {K : PySem.W.Frag} {G : Hp} {vs : List V} : ∀ {ps : List PV}, DPs K G vs ps → DpAll K G vs (toDs ps)
  | _, .nil => .nil
  | _, .cons h hs => .cons (DP.dp h) (DPs.dp hs)
end
theorem DPs.len {K : PySem.W.Frag} {G : Hp} {vs : List V} : ∀ {ps : List PV}, DPs K G vs ps → vs.length = ps.length
  | _, .nil => rfl
  | _, .cons _ hs => by rw [List.length_cons, List.length_cons, DPs.len hs]
theorem DPs.app {K : PySem.W.Frag} {G : Hp} {vs us : List V} {ps qs : List PV} : DPs K G vs ps → DPs K G us qs → DPs K G (vs ++ us) (ps ++ qs)
  | .nil, h => h
  | .cons h hs, h' => .cons h (DPs.app hs h')
theorem DPs.at {K : PySem.W.Frag} {G : Hp} : ∀ {vs : List V} {ps : List PV} {i : Nat} {p : PV}, DPs K G vs ps → ps[i]? = some p → ∃ v, vs[i]? = some v ∧ DP K G v p
  | _, _, _, _, .nil, e => by simp at e
  | _, _, 0, _, .cons h _, e => by simp at e; subst e; exact ⟨_, rfl, h⟩
  | _, _, i + 1, _, .cons _ hs, e => by
    obtain ⟨v, h1, h2⟩ := DPs.at (i := i) hs (by simpa using e)
    exact ⟨v, by simpa using h1, h2⟩
theorem DPs.atV {K : PySem.W.Frag} {G : Hp} : ∀ {vs : List V} {ps : List PV} {i : Nat} {v : V}, DPs K G vs ps → vs[i]? = some v → ∃ p, ps[i]? = some p ∧ DP K G v p
  | _, _, _, _, .nil, e => by simp at e
  | _, _, 0, _, .cons h _, e => by simp at e; subst e; exact ⟨_, rfl, h⟩
  | _, _, i + 1, _, .cons _ hs, e => by
    obtain ⟨v, h1, h2⟩ := DPs.atV (i := i) hs (by simpa using e)
    exact ⟨v, by simpa using h1, h2⟩
theorem DPs.take {K : PySem.W.Frag} {G : Hp} : ∀ {vs : List V} {ps : List PV} (n : Nat), DPs K G vs ps → DPs K G (vs.take n) (ps.take n)
  | _, _, 0, _ => by simp only [List.take_zero]; exact .nil
  | _, _, _ + 1, .nil => .nil
  | _, _, n + 1, .cons h hs => .cons h (DPs.take n hs)
theorem DPs.drop {K : PySem.W.Frag} {G : Hp} : ∀ {vs : List V} {ps : List PV} (n : Nat), DPs K G vs ps → DPs K G (vs.drop n) (ps.drop n)
  | _, _, 0, h => h
  | _, _, _ + 1, .nil => .nil
  | _, _, n + 1, .cons _ hs => DPs.drop n hs
theorem DPs.set {K : PySem.W.Frag} {G : Hp} {v : V} {p : PV} (d : DP K G v p) : ∀ {vs : List V} {ps : List PV} (n : Nat), DPs K G vs ps → DPs K G (vs.set n v) (ps.set n p)
  | _, _, _, .nil => .nil
  | _, _, 0, .cons _ hs => .cons d hs
  | _, _, n + 1, .cons h hs => .cons h (DPs.set d n hs)
theorem DPs.rev {K : PySem.W.Frag} {G : Hp} : ∀ {vs : List V} {ps : List PV}, DPs K G vs ps → DPs K G vs.reverse ps.reverse
  | _, _, .nil => .nil
  | _, _, .cons h hs => by
    rw [List.reverse_cons, List.reverse_cons]
    exact DPs.app (DPs.rev hs) (.cons h .nil)
theorem DPs.rep {K : PySem.W.Frag} {G : Hp} {vs : List V} {ps : List PV} (h : DPs K G vs ps) : ∀ k : Nat, DPs K G (List.replicate k vs).flatten (List.replicate k ps).flatten
  | 0 => .nil
  | k + 1 => by
    rw [List.replicate_succ, List.replicate_succ, List.flatten_cons, List.flatten_cons]
    exact DPs.app h (DPs.rep h k)
theorem DPs.last {K : PySem.W.Frag} {G : Hp} {vs : List V} {ps : List PV} (h : DPs K G vs ps) : DPs K G vs.dropLast ps.dropLast := by
  rw [List.dropLast_eq_take, List.dropLast_eq_take, DPs.len h]
  exact DPs.take _ h

/-! ### the state -/
/-- what a program's facts fix: its written part, how its exceptions look -/
structure Px where
  K : PySem.W.Frag
  xc : Nat → Addr
  xf : Nat → Str
/-- the store, where its objects stand, what is shared, what stood at the body's entry -/
structure Cf where
  st : Sto
  io : List Addr
  G : Hp
  z : Hp
def RV (K : PySem.W.Frag) (c : Cf) (v : V) (p : PV) : Prop := match p with
  | .ref n => ∃ a, c.io[n]? = some a ∧ v = .ref a
  | p => DP K c.G v p
structure Ext (c : Cf) (H : Hp) (c' : Cf) (H' : Hp) : Prop where
  io : ∃ more, c'.io = c.io ++ more
  g : Sub c.G c'.G
  keep : ∀ a o, H a = some o → a ∉ c.io → H' a = some o
  there : ∀ a o, H a = some o → ∃ o', H' a = some o'
  no : ∀ a o, H a = some o → c.G a = none → c'.G a = none
  new : ∀ a ∈ c'.io, a ∈ c.io ∨ H a = none
  z : c'.z = c.z
theorem Ext.refl {c : Cf} {H : Hp} : Ext c H c H := ⟨⟨[], by simp⟩, fun _ _ h => h, fun _ _ h _ => h, fun _ o h => ⟨o, h⟩, fun _ _ _ h => h, fun _ h => .inl h, rfl⟩
theorem Ext.trans {c c1 c2 : Cf} {H H1 H2 : Hp} (x : Ext c H c1 H1) (y : Ext c1 H1 c2 H2) : Ext c H c2 H2 := by
  have notIn : ∀ a o, H a = some o → a ∉ c.io → a ∉ c1.io := fun a o h n z => by
    rcases x.new a z with z | z
    · exact n z
    · rw [h] at z; cases z
  refine ⟨?_, fun a o h => y.g a o (x.g a o h), fun a o h n => y.keep a o (x.keep a o h n) (notIn a o h n), fun a o h => ?_, fun a o h n => ?_, fun a h => ?_, y.z.trans x.z⟩
  · obtain ⟨m1, e1⟩ := x.io
    obtain ⟨m2, e2⟩ := y.io
    exact ⟨m1 ++ m2, by rw [e2, e1, List.append_assoc]⟩
  · obtain ⟨o1, h1⟩ := x.there a o h
    exact y.there a o1 h1
  · obtain ⟨o1, h1⟩ := x.there a o h
    exact y.no a o1 h1 (x.no a o h n)
  · rcases y.new a h with h | h
    · exact x.new a h
    · refine .inr ?_
      cases e : H a with
      | none => rfl
      | some o =>
        obtain ⟨o1, h1⟩ := x.there a o e
        rw [h] at h1; cases h1
theorem RV.ext {K : PySem.W.Frag} {c c' : Cf} {H H' : Hp} (x : Ext c H c' H') {v : V} {p : PV} (h : RV K c v p) : RV K c' v p := by
  cases p with
  | ref n =>
    obtain ⟨a, h1, h2⟩ := h
    obtain ⟨m, e⟩ := x.io
    refine ⟨a, ?_, h2⟩
    rw [e, List.getElem?_append_left (by
      rcases Nat.lt_or_ge n c.io.length with q | q
      · exact q
      · rw [List.getElem?_eq_none q] at h1; cases h1)]
    exact h1
  | _ => exact DP.sub x.g h
theorem RV.dp {K : PySem.W.Frag} {c : Cf} {v : V} {p : PV} (h : RV K c v p) (n : Sk.isRef p = false) : DP K c.G v p := by
  cases p with
  | ref n => cases n
  | _ => exact h
theorem RV.of {K : PySem.W.Frag} {c : Cf} {v : V} {p : PV} (h : DP K c.G v p) : RV K c v p := by
  cases p with
  | ref n => cases h
  | _ => exact h

/-- what holds whatever the slots are -/
structure Base (K : PySem.W.Frag) (c : Cf) (H : Hp) : Prop where
  sub : Sub c.G H
  io : ∀ a ∈ c.io, c.G a = none ∧ ∃ o, H a = some o
  st : c.st = [] ∧ c.io = []
  zs : ∀ a o, c.z a = some o → ∃ o', H a = some o'
def SlotOk (K : PySem.W.Frag) (c : Cf) (H : Hp) : Slot → Option V → Prop
  | .un, _ => True
  | .sh p, some v => RV K c v p
  | .ow ps, some v => ∃ a vs, v = .ref a ∧ H a = some (.lst vs) ∧ c.G a = none ∧ a ∉ c.io ∧ DPs K c.G vs ps ∧ c.z a = none
  | .ex _, some _ => True
  | _, none => False
structure Rel (K : PySem.W.Frag) (env : Sk.Env) (c : Cf) (σ : St) (H : Hp) : Prop where
  base : Base K c H
  len : env.length = σ.length
  slot : ∀ (i : Nat) (s : Slot), env[i]? = some s → SlotOk K c H s (σ[i]?.join)
  own : ∀ (i j : Nat) (xs ys : List PV) (a : Addr), i ≠ j → env[i]? = some (.ow xs) → env[j]? = some (.ow ys) → σ[i]?.join = some (.ref a) → σ[j]?.join ≠ some (.ref a)

theorem Base.fresh {K : PySem.W.Frag} {c : Cf} {H : Hp} (b : Base K c H) {a : Addr} (h : H a = none) : c.G a = none := by
  cases e : c.G a with
  | none => rfl
  | some o => rw [b.sub a o e] at h; cases h
theorem Base.noio {K : PySem.W.Frag} {c : Cf} {H : Hp} (b : Base K c H) {a : Addr} (h : H a = none) : a ∉ c.io := fun z => by
  obtain ⟨_, o, e⟩ := b.io a z
  rw [h] at e; cases e
theorem sub_upd {G : Hp} {p : Addr} {o : HO} (h : G p = none) : Sub G (upd G p o) := fun b u e => by
  rw [upd_ne (ne_of_none e h)]; exact e
/-- a new object that is shared from now on -/
theorem Base.mk1 {K : PySem.W.Frag} {c : Cf} {H : Hp} (b : Base K c H) {p : Addr} {o : HO} (h : H p = none) : Base K { c with G := upd c.G p o } (upd H p o) := by
  refine ⟨fun a u (e : upd c.G p o a = some u) => ?_, fun a z => ?_, b.st, fun a u e => ?_⟩
  · by_cases q : a = p
    · subst q; rw [upd_same] at e ⊢; exact e
    · rw [upd_ne q] at e ⊢; exact b.sub a u e
  · have q : a ≠ p := fun q => b.noio h (q ▸ z)
    obtain ⟨h1, u, h2⟩ := b.io a z
    exact ⟨by show upd c.G p o a = none; rw [upd_ne q]; exact h1, u, by rw [upd_ne q]; exact h2⟩
  · obtain ⟨o', e'⟩ := b.zs a u e
    exact ⟨o', by rw [upd_ne (ne_of_none e' h)]; exact e'⟩
theorem Base.nz {K : PySem.W.Frag} {c : Cf} {H : Hp} (b : Base K c H) {a : Addr} (h : H a = none) : c.z a = none := by
  cases e : c.z a with
  | none => rfl
  | some o =>
    obtain ⟨o', e'⟩ := b.zs a o e
    rw [h] at e'; cases e'
theorem Ext.mk1 {c : Cf} {H : Hp} {p : Addr} {o : HO} (h : H p = none) (hg : c.G p = none) : Ext c H { c with G := upd c.G p o } (upd H p o) := by
  refine ⟨⟨[], by simp⟩, sub_upd hg, fun a u e _ => ?_, fun a u e => ⟨u, ?_⟩, fun a u e n => ?_, fun _ z => .inl z, rfl⟩
  · rw [upd_ne (ne_of_none e h)]; exact e
  · rw [upd_ne (ne_of_none e h)]; exact e
  · show upd c.G p o a = none
    rw [upd_ne (ne_of_none e h)]; exact n
/-- a new object that the frame alone holds -/
theorem Base.mkO {K : PySem.W.Frag} {c : Cf} {H : Hp} (b : Base K c H) {p : Addr} {o : HO} (h : H p = none) : Base K c (upd H p o) := by
  refine ⟨fun a u e => ?_, fun a z => ?_, b.st, fun a u e => ?_⟩
  · have e' := b.sub a u e
    rw [upd_ne (ne_of_none e' h)]; exact e'
  · have q : a ≠ p := fun q => b.noio h (q ▸ z)
    obtain ⟨h1, u, h2⟩ := b.io a z
    exact ⟨h1, u, by rw [upd_ne q]; exact h2⟩
  · obtain ⟨o', e'⟩ := b.zs a u e
    exact ⟨o', by rw [upd_ne (ne_of_none e' h)]; exact e'⟩
theorem Ext.mkO {c : Cf} {H : Hp} {p : Addr} {o : HO} (h : H p = none) : Ext c H c (upd H p o) := by
  refine ⟨⟨[], by simp⟩, fun _ _ e => e, fun a u e _ => ?_, fun a u e => ⟨u, ?_⟩, fun _ _ _ n => n, fun _ z => .inl z, rfl⟩
  · rw [upd_ne (ne_of_none e h)]; exact e
  · rw [upd_ne (ne_of_none e h)]; exact e
theorem SlotOk.ext {K : PySem.W.Frag} {c c' : Cf} {H H' : Hp} (x : Ext c H c' H') {s : Slot} {o : Option V} (h : SlotOk K c H s o) : SlotOk K c' H' s o := by
  cases s with
  | un => exact trivial
  | sh p => cases o with
    | none => exact h
    | some v => exact RV.ext x h
  | ow ps => cases o with
    | none => exact h
    | some v =>
      obtain ⟨a, vs, e, h1, h2, h3, h4, h5⟩ := h
      refine ⟨a, vs, e, x.keep _ _ h1 h3, x.no _ _ h1 h2, fun z => ?_, DPs.sub x.g h4, by rw [x.z]; exact h5⟩
      rcases x.new a z with z | z
      · exact h3 z
      · rw [h1] at z; cases z
  | ex p => cases o with
    | none => exact h
    | some v => exact trivial
/-- the slots keep their meaning -/
theorem Rel.ext {K : PySem.W.Frag} {env : Sk.Env} {c c' : Cf} {σ : St} {H H' : Hp} (r : Rel K env c σ H) (x : Ext c H c' H') (b : Base K c' H') : Rel K env c' σ H' :=
  ⟨b, r.len, fun i s e => (r.slot i s e).ext x, r.own⟩

/-! ### computations -/
/-- an exception's own dict holds its one field -/
def Exo (T : Px) (c : Cf) (H : Hp) (n : Nat) (d : Addr) (v : PV) : Prop := ∃ u, H d = some (.xd [(T.xf n, u)]) ∧ RV T.K c u v
def tM {α : Type} (T : Px) (W : WX) (env : Sk.Env) (σ : St) (c : Cf) (H : Hp) (m : Sk.M α) (k : α → Cf → Hp → Prop) : Prop := match m c.st with
  | .ok a st' => ∀ c' H', c'.st = st' → Rel T.K env c' σ H' → Ext c H c' H' → k a c' H'
  | .exn n v st' => ∀ c' H' d, c'.st = st' → Rel T.K env c' σ H' → Ext c H c' H' → Exo T c' H' n d v → W (.ref (T.xc n)) (some d) σ H'
  | .bad => False
section
variable {α β : Type} {T : Px} {W : WX} {env : Sk.Env} {σ : St} {c : Cf} {H : Hp}
theorem tM_mono {m : Sk.M α} {k k' : α → Cf → Hp → Prop} (h : tM T W env σ c H m k) (f : ∀ a c' H', Rel T.K env c' σ H' → Ext c H c' H' → k a c' H' → k' a c' H') : tM T W env σ c H m k' := by
  unfold tM at h ⊢
  cases e : m c.st with
  | ok a st' => rw [e] at h; exact fun c' H' e1 r x => f a c' H' r x (h c' H' e1 r x)
  | exn n v st' => rw [e] at h; exact h
  | bad => rw [e] at h; exact h
theorem tM_rt {a : α} {k : α → Cf → Hp → Prop} (h : tM T W env σ c H (Sk.rt a) k) (r : Rel T.K env c σ H) : k a c H := h c H rfl r .refl
theorem tM_rtX {a : α} {k : α → Cf → Hp → Prop} (h : tM T W env σ c H (Sk.rt a) k) {c' : Cf} {H' : Hp} (e : c'.st = c.st) (r : Rel T.K env c' σ H') (x : Ext c H c' H') : k a c' H' := h c' H' e r x
theorem tM_fail {k : α → Cf → Hp → Prop} (h : tM T W env σ c H Sk.fail k) : False := h
theorem tM_opt {o : Option α} {k : α → Cf → Hp → Prop} (h : tM T W env σ c H (Sk.opt o) k) : ∃ a, o = some a ∧ tM T W env σ c H (Sk.rt a) k := by
  cases o with
  | none => exact h.elim
  | some a => exact ⟨a, rfl, h⟩
theorem tM_withS {f : Sto → Option α} {k : α → Cf → Hp → Prop} (h : tM T W env σ c H (Sk.withS f) k) : ∃ a, f c.st = some a ∧ tM T W env σ c H (Sk.rt a) k := by
  unfold tM Sk.withS at h
  cases e : f c.st with
  | none => rw [e] at h; exact h.elim
  | some a => rw [e] at h; exact ⟨a, rfl, h⟩
theorem tM_bnd {m : Sk.M α} {f : α → Sk.M β} {k : β → Cf → Hp → Prop} (h : tM T W env σ c H (Sk.bnd m f) k) : tM T W env σ c H m fun a c1 H1 => tM T W env σ c1 H1 (f a) k := by
  unfold tM Sk.bnd at h
  unfold tM
  cases e : m c.st with
  | ok a st' =>
    rw [e] at h
    intro c1 H1 e1 r1 x1
    have h' : (match f a st' with
      | .ok a st' => ∀ c' H', c'.st = st' → Rel T.K env c' σ H' → Ext c H c' H' → k a c' H'
      | .exn n v st' => ∀ c' H' d, c'.st = st' → Rel T.K env c' σ H' → Ext c H c' H' → Exo T c' H' n d v → W (.ref (T.xc n)) (some d) σ H'
      | .bad => False) := h
    show (match f a c1.st with
      | .ok a st' => ∀ c' H', c'.st = st' → Rel T.K env c' σ H' → Ext c1 H1 c' H' → k a c' H'
      | .exn n v st' => ∀ c' H' d, c'.st = st' → Rel T.K env c' σ H' → Ext c1 H1 c' H' → Exo T c' H' n d v → W (.ref (T.xc n)) (some d) σ H'
      | .bad => False)
    rw [e1]
    cases e2 : f a st' with
    | ok b st2 => rw [e2] at h'; exact fun c' H' q r x => h' c' H' q r (x1.trans x)
    | exn n v st2 => rw [e2] at h'; exact fun c' H' d q r x => h' c' H' d q r (x1.trans x)
    | bad => rw [e2] at h'; exact h'
  | exn n v st' => rw [e] at h; exact h
  | bad => rw [e] at h; exact h
theorem tM_noX {m : Sk.M α} {k : α → Cf → Hp → Prop} (h : tM T W env σ c H (Sk.noX m) k) : tM T (fun _ _ _ _ => False) env σ c H m k := by
  unfold tM Sk.noX at h
  unfold tM
  cases e : m c.st with
  | ok a st' => rw [e] at h; exact h
  | exn n v st' => rw [e] at h; exact h.elim
  | bad => rw [e] at h; exact h
/-- .. with the continuation at any later state -/
theorem tM_monoX {m : Sk.M α} {k k' : α → Cf → Hp → Prop} (h : tM T W env σ c H m k) (f : ∀ a c' H', Rel T.K env c' σ H' → Ext c H c' H' → (∀ c2 H2, c2.st = c'.st → Rel T.K env c2 σ H2 → Ext c H c2 H2 → k a c2 H2) → k' a c' H') : tM T W env σ c H m k' := by
  unfold tM at h ⊢
  cases e : m c.st with
  | ok a st' => rw [e] at h; exact fun c' H' e1 r x => f a c' H' r x fun c2 H2 e2 r2 x2 => h c2 H2 (e2.trans e1) r2 x2
  | exn n v st' => rw [e] at h; exact h
  | bad => rw [e] at h; exact h
/-- the same computation, seen from other slots -/
theorem tM_env {env' : Sk.Env} {σ' : St} {W' : WX} {m : Sk.M α} {k k' : α → Cf → Hp → Prop} (r : Rel T.K env c σ H) (h : tM T W env σ c H m k) (hW : ∀ n d c' H', Base T.K c' H' → Ext c H c' H' → W (.ref (T.xc n)) (some d) σ H' → W' (.ref (T.xc n)) (some d) σ' H')
    (f : ∀ a c' H', Rel T.K env c' σ H' → Rel T.K env' c' σ' H' → Ext c H c' H' → k a c' H' → k' a c' H') : tM T W' env' σ' c H m k' := by
  unfold tM at h ⊢
  cases e : m c.st with
  | ok a st' =>
    rw [e] at h
    intro c' H' e1 r1 x1
    have r2 := r.ext x1 r1.base
    exact f a c' H' r2 r1 x1 (h c' H' e1 r2 x1)
  | exn n v st' =>
    rw [e] at h
    exact fun c' H' d e1 r1 x1 xo => hW n d c' H' r1.base x1 (h c' H' d e1 (r.ext x1 r1.base) x1 xo)
  | bad => rw [e] at h; exact h
end
end SkB

set_option Elab.async false
set_option linter.all false
set_option maxRecDepth 100000
/-! Part B2: the operations by values. -/
namespace SkB
open PySem PySem.Spec L2
open Sk (PV ME MEs MO MI MP MS MSs Slot Sto Out Fl Calls FD BO CO Bi Ty)

/-! ### data, once more -/
mutual
theorem toD_plain : ∀ p : PV, (toD p).plain = true
  | .non => rfl
  | .bl _ => rfl
  | .int _ => rfl
  | .str _ => rfl
  | .tup xs => toDs_plain xs
  | .lst xs => toDs_plain xs
  | .ref _ => rfl
theorem toDs_plain : ∀ ps : List PV, PyData.plainAll (toDs ps) = true
  | [] => rfl
  | p :: ps => by
    show (PyData.plain (toD p) && PyData.plainAll (toDs ps)) = true
    rw [toD_plain p, toDs_plain ps]; rfl
end
mutual
theorem toD_dep : ∀ p : PV, (toD p).depth = Sk.dep p
  | .non => rfl
  | .bl _ => rfl
  | .int _ => rfl
  | .str _ => rfl
  | .tup xs => congrArg (· + 1) (toDs_dep xs)
  | .lst xs => congrArg (· + 1) (toDs_dep xs)
  | .ref _ => rfl
theorem toDs_dep : ∀ ps : List PV, PyData.depthAll (toDs ps) = Sk.deps ps
  | [] => rfl
  | p :: ps => by
    show max (PyData.depth (toD p)) (PyData.depthAll (toDs ps)) = max (Sk.dep p) (Sk.deps ps)
    rw [toD_dep p, toDs_dep ps]
end
mutual
/-- no reference within -/
def pure' : PV → Bool
  | .tup xs => pures xs
  | .lst xs => pures xs
  | .ref _ => false
  | _ => true
def pures : List PV → Bool
  | [] => true
  | x :: xs => pure' x && pures xs
end
mutual
theorem DP.pure {K : PySem.W.Frag} {G : Hp} {v : V} : ∀ {p : PV}, DP K G v p → pure' p = true
  | _, .non => rfl
  | _, .bl _ => rfl
  | _, .int _ => rfl
  | _, .str _ => rfl
  | _, .lst _ hs => DPs.pure hs
  | _, .tup _ hs => DPs.pure hs
theorem DPs.pure {K : PySem.W.Frag} {G : Hp} {vs : List V} : ∀ {ps : List PV}, DPs K G vs ps → pures ps = true
  | _, .nil => rfl
  | _, .cons h hs => by
    show (_ && _) = true
    rw [DP.pure h, DPs.pure hs]; rfl
end
theorem eqv_both : ∀ n : Nat, (∀ p q : PV, sizeOf p ≤ n → pure' p = true → pure' q = true → PyData.eqv (toD p) (toD q) = Sk.eqv p q) ∧
    (∀ ps qs : List PV, sizeOf ps ≤ n → pures ps = true → pures qs = true → PyData.eqvAll (toDs ps) (toDs qs) = Sk.eqvs ps qs)
  | 0 => ⟨fun p _ h => by cases p <;> simp at h, fun ps _ h => by cases ps <;> simp at h⟩
  | n + 1 => by
    obtain ⟨i1, i2⟩ := eqv_both n
    have key : ∀ ps qs : List PV, sizeOf ps ≤ n → pures ps = true → pures qs = true → PyData.eqvAll (toDs ps) (toDs qs) = Sk.eqvs ps qs := i2
    refine ⟨fun p q h hp hq => ?_, fun ps qs h hp hq => ?_⟩
    · cases p <;> cases q <;> first
        | rfl
        | (exfalso; simp [pure'] at hp; done)
        | (exfalso; simp [pure'] at hq; done)
        | exact key _ _ (by simp at h; omega) hp hq
    · cases ps with
      | nil => cases qs <;> rfl
      | cons p ps =>
        cases qs with
        | nil => rfl
        | cons q qs =>
          simp only [pures, Bool.and_eq_true] at hp hq
          show (PyData.eqv (toD p) (toD q) && PyData.eqvAll (toDs ps) (toDs qs)) = (Sk.eqv p q && Sk.eqvs ps qs)
          rw [i1 p q (by simp at h; omega) hp.1 hq.1, i2 ps qs (by simp at h; omega) hp.2 hq.2]
theorem toD_eqv {p q : PV} (hp : pure' p = true) (hq : pure' q = true) : PyData.eqv (toD p) (toD q) = Sk.eqv p q := (eqv_both (sizeOf p)).1 p q (Nat.le_refl _) hp hq
theorem any_eqv {p : PV} (hp : pure' p = true) : ∀ {ps : List PV}, pures ps = true → ((toDs ps).any fun y => PyData.eqv y (toD p)) = ps.any fun y => Sk.eqv y p
  | [], _ => rfl
  | q :: ps, h => by
    simp only [pures, Bool.and_eq_true] at h
    show (PyData.eqv (toD q) (toD p) || _) = _
    rw [toD_eqv h.1 hp, any_eqv hp h.2]; rfl

/-! ### what an operand is: shared, or a list of the frame's own -/
def Own (K : PySem.W.Frag) (c : Cf) (H : Hp) (v : V) (p : PV) : Prop := ∃ a vs ps, p = .lst ps ∧ v = .ref a ∧ H a = some (.lst vs) ∧ c.G a = none ∧ a ∉ c.io ∧ DPs K c.G vs ps
def RB (K : PySem.W.Frag) (c : Cf) (H : Hp) (v : V) (p : PV) : Prop := RV K c v p ∨ Own K c H v p
theorem Own.ext {K : PySem.W.Frag} {c c' : Cf} {H H' : Hp} (x : Ext c H c' H') {v : V} {p : PV} (h : Own K c H v p) : Own K c' H' v p := by
  obtain ⟨a, vs, ps, e1, e2, h1, h2, h3, h4⟩ := h
  refine ⟨a, vs, ps, e1, e2, x.keep _ _ h1 h3, x.no _ _ h1 h2, fun z => ?_, DPs.sub x.g h4⟩
  rcases x.new a z with z | z
  · exact h3 z
  · rw [h1] at z; cases z
theorem RB.ext {K : PySem.W.Frag} {c c' : Cf} {H H' : Hp} (x : Ext c H c' H') {v : V} {p : PV} (h : RB K c H v p) : RB K c' H' v p := by
  rcases h with h | h
  · exact .inl (h.ext x)
  · exact .inr (h.ext x)
section
variable {K : PySem.W.Frag} {c : Cf} {H : Hp} {v : V} {p : PV}
theorem RB.dp (b : Base K c H) (h : RB K c H v p) (n : Sk.isRef p = false) : DP K H v p := by
  rcases h with h | ⟨a, vs, ps, rfl, rfl, h1, h2, h3, h4⟩
  · exact DP.sub b.sub (h.dp n)
  · exact .lst (.inl (.inl h1)) (DPs.sub b.sub h4)
theorem RB.lst {ps : List PV} (b : Base K c H) (h : RB K c H v (.lst ps)) : ∃ a vs, v = .ref a ∧ SqL K H a vs ∧ DPs K c.G vs ps := by
  rcases h with h | ⟨a, vs, qs, e, rfl, h1, h2, h3, h4⟩
  · cases (h : DP K c.G v (.lst ps)) with
    | lst h1 h2 => exact ⟨_, _, rfl, sql_sub b.sub h1, h2⟩
  · cases e; exact ⟨a, vs, rfl, .inl (.inl h1), h4⟩
theorem RB.tup {ps : List PV} (b : Base K c H) (h : RB K c H v (.tup ps)) : ∃ a vs, v = .ref a ∧ SqT K H a vs ∧ SqT K c.G a vs ∧ DPs K c.G vs ps := by
  rcases h with h | ⟨a, vs, qs, e, _⟩
  · cases (h : DP K c.G v (.tup ps)) with
    | tup h1 h2 => exact ⟨_, _, rfl, sqt_sub b.sub h1, h1, h2⟩
  · cases e
theorem RB.int {i : Int} (h : RB K c H v (.int i)) : v = .int i := by
  rcases h with h | ⟨a, vs, qs, e, _⟩
  · cases (h : DP K c.G v (.int i)); rfl
  · cases e
theorem RB.str {i : Str} (h : RB K c H v (.str i)) : v = .str i := by
  rcases h with h | ⟨a, vs, qs, e, _⟩
  · cases (h : DP K c.G v (.str i)); rfl
  · cases e
theorem RB.bl {i : Bool} (h : RB K c H v (.bl i)) : v = .bl i := by
  rcases h with h | ⟨a, vs, qs, e, _⟩
  · cases (h : DP K c.G v (.bl i)); rfl
  · cases e
theorem RB.non (h : RB K c H v .non) : v = .non := by
  rcases h with h | ⟨a, vs, qs, e, _⟩
  · cases (h : DP K c.G v .non); rfl
  · cases e
theorem RB.isNon (h : RB K c H v p) : (v = .non) ↔ p = .non := by
  constructor
  · intro e
    subst e
    rcases h with h | ⟨a, vs, qs, _, e, _⟩
    · cases p with
      | ref n => obtain ⟨a, _, e⟩ := h; cases e
      | non => rfl
      | _ => cases (h : DP K c.G _ _)
    · cases e
  · rintro rfl
    exact h.non
end
theorem hsq {K K' : PySem.W.Frag} {H : Hp} {a : Addr} {vs : List V} (hK : K' = K) (h : SqL K H a vs) : SqL K' H a vs := by rw [hK]; exact h
theorem lineEq : Sk.line = sizeLine := by rw [sizeLine_eq]; rfl

/-! ### behind an operation -/
def Aft (T : Px) (c : Cf) (H : Hp) (u : PV) (Q : VK) : Prop := ∀ c' H', c'.st = c.st → Base T.K c' H' → Ext c H c' H' → ∀ v, RV T.K c' v u → Q v H'
def Pst (T : Px) (c : Cf) (H : Hp) (u : PV) (Q : VK) : Prop := match u with
  | .lst ps => ∀ p vs, H p = none → vs.length ≤ sizeLine → DPs T.K c.G vs ps → Q (.ref p) (upd H p (.lst vs))
  | u => Aft T c H u Q
section
variable {T : Px} {c : Cf} {H : Hp} {u : PV} {Q : VK}
theorem Aft.here (h : Aft T c H u Q) (b : Base T.K c H) {v : V} (r : RV T.K c v u) : Q v H := h c H rfl b .refl v r
theorem Aft.tupN {ps : List PV} (h : Aft T c H (.tup ps) Q) (b : Base T.K c H) {p : Addr} {vs : List V} (hp : H p = none) (d : DPs T.K c.G vs ps) : Q (.ref p) (upd H p (.tup vs)) :=
  h { c with G := upd c.G p (.tup vs) } _ rfl (b.mk1 hp) (Ext.mk1 hp (b.fresh hp)) _ (.tup (.inl (.inl upd_same)) (DPs.sub (sub_upd (b.fresh hp)) d))
theorem Aft.lstN {ps : List PV} (h : Aft T c H (.lst ps) Q) (b : Base T.K c H) {p : Addr} {vs : List V} (hp : H p = none) (d : DPs T.K c.G vs ps) : Q (.ref p) (upd H p (.lst vs)) :=
  h { c with G := upd c.G p (.lst vs) } _ rfl (b.mk1 hp) (Ext.mk1 hp (b.fresh hp)) _ (.lst (.inl (.inl upd_same)) (DPs.sub (sub_upd (b.fresh hp)) d))
theorem Aft.pst (h : Aft T c H u Q) (b : Base T.K c H) : Pst T c H u Q := by
  cases u with
  | lst ps => exact fun p vs hp _ d => h.lstN b hp d
  | _ => exact h
theorem Pst.here (h : Pst T c H u Q) (b : Base T.K c H) (n : ∀ ps, u ≠ .lst ps) {v : V} (r : RV T.K c v u) : Q v H := by
  cases u with
  | lst ps => exact absurd rfl (n ps)
  | _ => exact Aft.here h b r
end

def bop : BO → Operator
  | .add => .Add
  | .sub => .Sub
  | .mul => .Mult
  | .fdiv => .FloorDiv
  | .mod => .Mod
  | .pow => .Pow
def cop : CO → CmpOp
  | .eq => .Eq
  | .ne => .NotEq
  | .lt => .Lt
  | .le => .LtE
  | .gt => .Gt
  | .ge => .GtE
  | .inn => .In
  | .nin => .NotIn
  | .is => .Is
  | .isn => .IsNot

section
variable {X : Cx} {T : Px}
/-- list + list, also of a locked one -/
theorem op_catR : OpR X (binaryOp .Add) (fun x y H Q => ∃ l b xs zs, x = .ref l ∧ y = .ref b ∧ SqL X.K H l xs ∧ SqL X.K H b zs ∧ xs.length + zs.length ≤ sizeLine ∧ ∀ p, H p = none → Q (.ref p) (upd H p (.lst (xs ++ zs)))) := by
  intro pins s σ H x y v u Q I rx ry h
  obtain ⟨l, b, xs, zs, rfl, rfl, hH, hB, hz, q⟩ := h
  cases rx
  cases ry
  obtain ⟨its, r, ⟨⟨c1, d1, t1, l1⟩, n, e, k1, k2, k3⟩, _⟩ := I.list hH
  obtain ⟨its2, r2, ⟨⟨c2, d2, t2, l2⟩, n2, e2, k4, k5, k6⟩, _⟩ := I.list hB
  simp only at k1 k3 k4 k6
  subst k1 k3 k4 k6
  have len := r.length
  have len2 := r2.length
  refine concat_meets ⟨_, e, rfl⟩ ⟨_, e2, rfl⟩ noFill_list_add seq_list_add PySem.F.slot_list_add PySem.F.entry_list_add (PySem.F.args_list_add_2 _ _) (PyProof.Rows.list_addW l b its.toArray its2.toArray n n2 d1 d2 l1 l2 (by simp only [List.size_toArray]; omega)) ⟨e, e2, ?_⟩
  rw [show its.toArray ++ its2.toArray = (its ++ its2).toArray by simp]
  exact ⟨.ref _, _, I.lnew (t' := s.toks) (r.append r2) (by simp only [List.length_append]; omega), rfl, q _ I.fresh⟩

def rBin (T : Px) (op : BO) : R2 := fun x y H Q => ∃ c v w u, Base T.K c H ∧ RB T.K c H x v ∧ RB T.K c H y w ∧ Sk.pyBin op v w = some u ∧ Pst T c H u Q
theorem mulOk_of {i j : Int} (h : Sk.mulOk i j = true) : PySem.IntMulOk i j := by
  unfold Sk.mulOk Sk.small at h
  simp only [Bool.or_eq_true, decide_eq_true_eq] at h
  rcases h with (h | h) | h
  · exact CMul.ok (.inl ⟨by omega, by omega⟩)
  · exact CMul.ok (.inr ⟨by omega, by omega⟩)
  · exact CMulW.ok h
theorem op_bin (hK : X.K = T.K) (op : BO) : OpR X (binaryOp (bop op)) (rBin T op) := by
  intro pins s σ H x y v u Q I rx ry h
  obtain ⟨c, p, q, r, b, hx, hy, e, k⟩ := h
  cases op with
  | add =>
    cases p <;> cases q <;> simp only [Sk.pyBin] at e <;> first
      | (cases e; cases hx.int; cases hy.int
         exact op_add pins s σ H _ _ v u Q I rx ry ⟨_, _, rfl, rfl, k.here b (fun _ z => nomatch z) (.int _)⟩)
      | (split at e
         · rename_i hz
           rw [lineEq] at hz
           cases e; cases hx.str; cases hy.str
           exact op_add_str pins s σ H _ _ v u Q I rx ry ⟨_, _, rfl, rfl, hz, k.here b (fun _ z => nomatch z) (.str _)⟩
         · cases e)
      | (split at e
         · rename_i hz
           rw [lineEq] at hz
           cases e
           obtain ⟨a1, vs1, rfl, h1, g1, d1⟩ := hx.tup b
           obtain ⟨a2, vs2, rfl, h2, g2, d2⟩ := hy.tup b
           have l1 := DPs.len d1
           have l2 := DPs.len d2
           refine op_catA pins s σ H _ _ v u Q I rx ry ⟨_, _, vs1, vs2, rfl, rfl, by rw [hK]; exact h1, by rw [hK]; exact h2, by omega, fun e1 => ?_, fun _ e2 => ?_, fun _ _ p hp => Aft.tupN k b hp (DPs.app d1 d2)⟩
           · subst e1
             cases d1
             exact Aft.here k b (.tup g2 d2)
           · subst e2
             cases d2
             rw [List.append_nil] at k
             exact Aft.here k b (.tup g1 d1)
         · cases e)
      | (split at e
         · rename_i hz
           rw [lineEq] at hz
           cases e
           obtain ⟨a1, vs1, rfl, h1, d1⟩ := hx.lst b
           obtain ⟨a2, vs2, rfl, h2, d2⟩ := hy.lst b
           have l1 := DPs.len d1
           have l2 := DPs.len d2
           exact op_catR pins s σ H _ _ v u Q I rx ry ⟨_, _, vs1, vs2, rfl, rfl, hsq hK h1, hsq hK h2, by omega, fun p hp => k p _ hp (by rw [List.length_append]; omega) (DPs.app d1 d2)⟩
         · cases e)
      | cases e
  | sub =>
    cases p <;> cases q <;> simp only [Sk.pyBin] at e <;> first
      | (cases e; cases hx.int; cases hy.int
         exact op_sub pins s σ H _ _ v u Q I rx ry ⟨_, _, rfl, rfl, k.here b (fun _ z => nomatch z) (.int _)⟩)
      | cases e
  | mul =>
    cases p <;> cases q <;> simp only [Sk.pyBin] at e <;> first
      | (split at e
         · rename_i hm
           cases e; cases hx.int; cases hy.int
           obtain ⟨t, rfl⟩ := rx
           obtain ⟨t', rfl⟩ := ry
           exact PyProof.Rows.mul_int ⟨.int _, H, I.tok _, ⟨_, rfl⟩, k.here b (fun _ z => nomatch z) (.int _)⟩ (mulOk_of hm)
         · cases e)
      | cases e
  | fdiv =>
    cases p <;> cases q <;> simp only [Sk.pyBin] at e <;> try (cases e; done)
    rename_i i j
    split at e
    · rename_i hm
      cases e; cases hx.int; cases hy.int
      unfold Sk.divOk at hm
      simp only [Bool.and_eq_true, Bool.or_eq_true, decide_eq_true_eq] at hm
      obtain ⟨h0, hm⟩ := hm
      have kk := k.here b (fun _ z => nomatch z) (RV.of (.int _))
      rcases hm with hm | ⟨h1, h2⟩
      · exact op_fdivN pins s σ H _ _ v u Q I rx ry ⟨_, _, rfl, rfl, ⟨h0, hm⟩, kk⟩
      · exact op_fdivW pins s σ H _ _ v u Q I rx ry ⟨_, _, rfl, rfl, ⟨h1, h2⟩, by show Q (V.int (i / j)) H; rw [← Int.fdiv_eq_ediv_of_nonneg _ (by omega)]; exact kk⟩
    · cases e
  | mod =>
    cases p <;> cases q <;> simp only [Sk.pyBin] at e <;> first
      | (split at e
         · cases e
         · rename_i hm
           cases e; cases hx.int; cases hy.int
           exact op_modN pins s σ H _ _ v u Q I rx ry ⟨_, _, rfl, rfl, hm, k.here b (fun _ z => nomatch z) (RV.of (.int _))⟩)
      | cases e
  | pow =>
    cases p <;> cases q <;> simp only [Sk.pyBin] at e <;> first
      | (split at e
         · rename_i hm
           obtain ⟨h1, h2, h3⟩ := hm
           unfold Sk.small at h3
           rw [decide_eq_true_eq] at h3
           cases e; cases hx.int; cases hy.int
           exact op_pow pins s σ H _ _ v u Q I rx ry ⟨_, _, rfl, rfl, ⟨h1, h2, h3⟩, k.here b (fun _ z => nomatch z) (RV.of (.int _))⟩
         · cases e)
      | cases e
end
end SkB

set_option Elab.async false
set_option linter.all false
set_option maxRecDepth 100000
/-! Part B3: comparisons, items, slices, built-in functions by values. -/
namespace SkB
open PySem PySem.Spec L2
open Sk (PV ME MEs MO MI MP MS MSs Slot Sto Out Fl Calls FD BO CO Bi Ty)
section
variable {X : Cx} {T : Px}
theorem depth_room {A : Around} {a b n : Nat} (hu : A.units + 300 < cLine) (h : min a b ≤ 200) (hn : n ≤ 90) : A.units + n + min a b < cLine := by omega

def rCmp (T : Px) (op : CO) : R2 := fun x y H Q => ∃ c v w k, Base T.K c H ∧ RB T.K c H x v ∧ RB T.K c H y w ∧ Sk.pyCmp c.st op v w = some k ∧ Q (.bl k) H
theorem eq_rule (hK : X.K = T.K) (hu : X.A.units + 300 < cLine) {pins : List (Addr × Obj)} {s : Shared} {σ : L2.St} {H : Hp} {x y : V} {v u : Value} {c : Cf} {p q : PV} (I : Inv X pins σ H s) (rx : RelV x v) (ry : RelV y u) (b : Base T.K c H)
    (hx : RB T.K c H x p) (hy : RB T.K c H y q) (ok : Sk.eqOk p q = true) :
    ∃ as bs, Reads s.heap v (toD p) as ∧ Reads s.heap u (toD q) bs ∧ PyData.eqv (toD p) (toD q) = Sk.eqv p q ∧ X.A.units + min (toD p).depth (toD q).depth < cLine := by
  unfold Sk.eqOk at ok
  simp only [Bool.and_eq_true, Bool.not_eq_true', decide_eq_true_eq] at ok
  obtain ⟨⟨n1, n2⟩, hd⟩ := ok
  have d1 := hx.dp b n1
  have d2 := hy.dp b n2
  obtain ⟨as, r1⟩ := Dp.reads I _ _ _ (by rw [hK]; exact d1.dp) rx
  obtain ⟨bs, r2⟩ := Dp.reads I _ _ _ (by rw [hK]; exact d2.dp) ry
  refine ⟨as, bs, r1, r2, toD_eqv d1.pure d2.pure, ?_⟩
  rw [toD_dep, toD_dep]
  have := depth_room (n := 0) hu hd (by omega)
  omega
theorem in_rule (hK : X.K = T.K) {pins : List (Addr × Obj)} {s : Shared} {σ : L2.St} {H : Hp} {x y : V} {v u : Value} {c : Cf} {p q : PV} (I : Inv X pins σ H s) (rx : RelV x v) (ry : RelV y u) (b : Base T.K c H)
    (hx : RB T.K c H x p) (hy : RB T.K c H y q) (n1 : Sk.isRef p = false) (n2 : Sk.isRef q = false) :
    ∃ as bs, Reads s.heap v (toD p) as ∧ Reads s.heap u (toD q) bs ∧ pure' p = true ∧ pure' q = true := by
  have d1 := hx.dp b n1
  have d2 := hy.dp b n2
  obtain ⟨as, r1⟩ := Dp.reads I _ _ _ (by rw [hK]; exact d1.dp) rx
  obtain ⟨bs, r2⟩ := Dp.reads I _ _ _ (by rw [hK]; exact d2.dp) ry
  exact ⟨as, bs, r1, r2, d1.pure, d2.pure⟩
theorem dictNone {c : Cf} {K : PySem.W.Frag} {H : Hp} (b : Base K c H) (p : PV) : Sk.dictOf c.st p = none := by
  unfold Sk.dictOf
  rw [b.st.1]
  cases p <;> simp
theorem in_core (hK : X.K = T.K) (hu : X.A.units + 300 < cLine) {pins : List (Addr × Obj)} {s : Shared} {σ : L2.St} {H : Hp} {x y : V} {v u : Value} {c : Cf} {p q : PV} {k : Bool} {Q : VK} (I : Inv X pins σ H s) (rx : RelV x v) (ry : RelV y u) (b : Base T.K c H)
    (hx : RB T.K c H x p) (hy : RB T.K c H y q) (e : Sk.pyIn c.st p q = some k) :
    (Q (.bl k) H → wpAny (model X.prog X.w) X.A (compareOp .In v u) (EP X pins σ Q) X.xe s) ∧ (Q (.bl (!k)) H → wpAny (model X.prog X.w) X.A (compareOp .NotIn v u) (EP X pins σ Q) X.xe s) := by
  cases q with
  | tup ys =>
    simp only [Sk.pyIn] at e
    split at e
    · rename_i h
      simp only [Bool.and_eq_true, Bool.not_eq_true', decide_eq_true_eq] at h
      cases e
      obtain ⟨as, bs, r1, r2, p1, p2⟩ := in_rule hK I rx ry b hx hy h.1 rfl
      have hd := depth_room (n := 1) hu h.2 (by omega)
      refine ⟨fun k => SeqAt.in_tuple_data r2 r1 (toDs_plain _) (toD_plain _) (by rw [toDs_dep, toD_dep]; exact hd) ?_, fun k => SeqAt.notIn_tuple_data r2 r1 (toDs_plain _) (toD_plain _) (by rw [toDs_dep, toD_dep]; exact hd) ?_⟩
      · rw [any_eqv p1 p2]; exact ⟨.bl _, H, I, rfl, k⟩
      · rw [any_eqv p1 p2]; exact ⟨.bl _, H, I, rfl, k⟩
    · cases e
  | lst ys =>
    simp only [Sk.pyIn] at e
    split at e
    · rename_i h
      simp only [Bool.and_eq_true, Bool.not_eq_true', decide_eq_true_eq] at h
      cases e
      obtain ⟨as, bs, r1, r2, p1, p2⟩ := in_rule hK I rx ry b hx hy h.1 rfl
      have hd := depth_room (n := 1) hu h.2 (by omega)
      refine ⟨fun k => SeqAt.in_list_data r2 r1 (toDs_plain _) (toD_plain _) (by rw [toDs_dep, toD_dep]; exact hd) ?_, fun k => SeqAt.notIn_list_data r2 r1 (toDs_plain _) (toD_plain _) (by rw [toDs_dep, toD_dep]; exact hd) ?_⟩
      · rw [any_eqv p1 p2]; exact ⟨.bl _, H, I, rfl, k⟩
      · rw [any_eqv p1 p2]; exact ⟨.bl _, H, I, rfl, k⟩
    · cases e
  | str z =>
    simp only [Sk.pyIn] at e
    split at e
    · cases e
      cases hx.str
      cases hy.str
      exact ⟨fun k => op_in_sign pins s σ H _ _ v u Q I rx ry ⟨_, _, rfl, rfl, k⟩, fun k => op_notIn_sign pins s σ H _ _ v u Q I rx ry ⟨_, _, rfl, rfl, k⟩⟩
    · cases e
  | _ =>
    simp only [Sk.pyIn, dictNone b] at e
    cases e
theorem is_core {pins : List (Addr × Obj)} {s : Shared} {σ : L2.St} {H : Hp} {x y : V} {v u : Value} {c : Cf} {p q : PV} {k : Bool} {Q : VK} (I : Inv X pins σ H s) (rx : RelV x v) (ry : RelV y u)
    (hx : RB T.K c H x p) (hy : RB T.K c H y q) (e : Sk.pyIs p q = some k) :
    (Q (.bl k) H → wpAny (model X.prog X.w) X.A (compareOp .Is v u) (EP X pins σ Q) X.xe s) ∧ (Q (.bl (!k)) H → wpAny (model X.prog X.w) X.A (compareOp .IsNot v u) (EP X pins σ Q) X.xe s) := by
  cases q with
  | non =>
    have hk : k = decide (x = V.non) := by
      have i := hx.isNon
      cases p <;> simp only [Sk.pyIs] at e <;> cases e <;> first
        | (have := i.mpr rfl; subst this; simp)
        | (have : x ≠ V.non := fun z => nomatch i.mp z
           simp [this])
    cases hy.non
    subst hk
    exact ⟨fun k => op_isN pins s σ H _ _ v u Q I rx ry ⟨rfl, k⟩, fun k => op_notN pins s σ H _ _ v u Q I rx ry ⟨rfl, k⟩⟩
  | bl j =>
    cases p <;> simp only [Sk.pyIs] at e <;> try (cases e; done)
    rename_i i
    cases e
    cases hx.bl
    cases hy.bl
    have hk : (i == j) = decide (i = j) := by cases i <;> cases j <;> rfl
    rw [hk]
    exact ⟨fun k => op_is_bl pins s σ H _ _ v u Q I rx ry ⟨_, _, rfl, rfl, k⟩, fun k => op_isnot_bl pins s σ H _ _ v u Q I rx ry ⟨_, _, rfl, rfl, k⟩⟩
  | _ => cases p <;> simp only [Sk.pyIs] at e <;> cases e
theorem op_cmp (hK : X.K = T.K) (hu : X.A.units + 300 < cLine) (op : CO) : OpR X (compareOp (cop op)) (rCmp T op) := by
  intro pins s σ H x y v u Q I rx ry h
  obtain ⟨c, p, q, k, b, hx, hy, e, k'⟩ := h
  cases op with
  | eq =>
    simp only [Sk.pyCmp] at e
    split at e
    · rename_i ok
      cases e
      obtain ⟨as, bs, r1, r2, ev, hd⟩ := eq_rule hK hu I rx ry b hx hy ok
      exact SeqAt.eq_plain r1 r2 (toD_plain _) (toD_plain _) hd (by rw [ev]; exact ⟨.bl _, H, I, rfl, k'⟩)
    · cases e
  | ne =>
    simp only [Sk.pyCmp] at e
    split at e
    · rename_i ok
      cases e
      obtain ⟨as, bs, r1, r2, ev, hd⟩ := eq_rule hK hu I rx ry b hx hy ok
      exact SeqAt.ne_plain r1 r2 (toD_plain _) (toD_plain _) hd (by rw [ev]; exact ⟨.bl _, H, I, rfl, k'⟩)
    · cases e
  | lt =>
    cases p <;> cases q <;> simp only [Sk.pyCmp] at e <;> cases e
    cases hx.int; cases hy.int
    exact op_lt pins s σ H _ _ v u Q I rx ry ⟨_, _, rfl, rfl, k'⟩
  | le =>
    cases p <;> cases q <;> simp only [Sk.pyCmp] at e <;> cases e
    cases hx.int; cases hy.int
    exact op_le pins s σ H _ _ v u Q I rx ry ⟨_, _, rfl, rfl, k'⟩
  | gt =>
    cases p <;> cases q <;> simp only [Sk.pyCmp] at e <;> cases e
    cases hx.int; cases hy.int
    exact op_gt pins s σ H _ _ v u Q I rx ry ⟨_, _, rfl, rfl, k'⟩
  | ge =>
    cases p <;> cases q <;> simp only [Sk.pyCmp] at e <;> cases e
    cases hx.int; cases hy.int
    exact op_ge pins s σ H _ _ v u Q I rx ry ⟨_, _, rfl, rfl, k'⟩
  | inn => exact (in_core hK hu I rx ry b hx hy e).1 k'
  | nin =>
    simp only [Sk.pyCmp] at e
    obtain ⟨k0, e1, e2⟩ := Option.map_eq_some_iff.mp e
    subst e2
    exact (in_core hK hu I rx ry b hx hy e1).2 k'
  | is => exact (is_core I rx ry hx hy e).1 k'
  | isn =>
    simp only [Sk.pyCmp] at e
    obtain ⟨k0, e1, e2⟩ := Option.map_eq_some_iff.mp e
    subst e2
    exact (is_core I rx ry hx hy e1).2 k'

/-! ### items, slices -/
theorem place_ix {n : Nat} {i : Int} {j : Nat} (h : Sk.place n i = some j) : ixN n i = some j := by
  unfold Sk.place at h
  unfold ixN
  split at h
  · rename_i h0
    rw [if_pos h0]; exact h
  · rename_i h0
    rw [if_neg h0]
    split at h
    · rename_i h1
      rw [if_pos (by omega)]; exact h
    · cases h
theorem item_at {α : Type} {xs : List α} {i : Int} {a : α} (h : Sk.item xs i = some a) : ∃ j, ixN xs.length i = some j ∧ xs[j]? = some a := by
  unfold Sk.item at h
  split at h
  · rename_i j e
    exact ⟨j, place_ix e, h⟩
  · cases h
def rIdx (T : Px) : R2 := fun x y H Q => ∃ c v w u, Base T.K c H ∧ RB T.K c H x v ∧ RV T.K c y w ∧ Sk.pyIdx c.st v w = some u ∧ ∀ z, RV T.K c z u → Q z H
theorem ix_all (hK : X.K = T.K) : IxR X (rIdx T) := by
  intro value slice pins s σ H x y v u Q I rx ry h hs
  obtain ⟨c, p, q, r, b, hx, hy, e, k⟩ := h
  cases p with
  | tup ps =>
    cases q <;> simp only [Sk.pyIdx, dictNone b] at e <;> try (cases e; done)
    rename_i i
    obtain ⟨j, e1, e2⟩ := item_at e
    obtain ⟨a, vs, rfl, h1, _, d⟩ := hx.tup b
    obtain ⟨z, hz, dz⟩ := DPs.at d e2
    cases (hy : DP T.K c.G y (.int i))
    exact ix_tup value slice pins s σ H _ _ v u Q I rx ry ⟨_, _, _, z, rfl, rfl, by rw [hK]; exact h1, by unfold atI; rw [DPs.len d, e1]; exact hz, k z (RV.of dz)⟩ hs
  | lst ps =>
    cases q <;> simp only [Sk.pyIdx, dictNone b] at e <;> try (cases e; done)
    rename_i i
    obtain ⟨j, e1, e2⟩ := item_at e
    obtain ⟨a, vs, rfl, h1, d⟩ := hx.lst b
    obtain ⟨z, hz, dz⟩ := DPs.at d e2
    cases (hy : DP T.K c.G y (.int i))
    exact ix_list value slice pins s σ H _ _ v u Q I rx ry ⟨_, _, _, z, rfl, rfl, hsq hK h1, by unfold atI; rw [DPs.len d, e1]; exact hz, k z (RV.of dz)⟩ hs
  | str t =>
    cases q <;> simp only [Sk.pyIdx, dictNone b] at e <;> try (cases e; done)
    rename_i i
    split at e
    · rename_i hl
      obtain ⟨ch, e1, e2⟩ := Option.map_eq_some_iff.mp e
      obtain ⟨j, e3, e4⟩ := item_at e1
      cases hx.str
      cases (hy : DP T.K c.G y (.int i))
      subst e2
      refine ix_str value slice pins s σ H _ _ v u Q I rx ry ⟨_, _, ch, rfl, rfl, by rw [← lineEq]; exact hl, ?_, k _ (RV.of (.str _))⟩ hs
      unfold atI
      rw [e3]; exact e4
    · cases e
  | _ => cases q <;> simp only [Sk.pyIdx, dictNone b] at e <;> cases e
theorem cutAt_eq (n d : Nat) (o : Option Int) : Sk.cutAt n d o = HT.sIx n d o := by
  cases o <;> rfl
theorem cut_dps {K : PySem.W.Frag} {G : Hp} {vs : List V} {ps : List PV} (d : DPs K G vs ps) (lo hi : Option Int) : DPs K G (cutV vs lo hi) (Sk.cut ps lo hi) := by
  unfold cutV Sk.cut
  rw [cutAt_eq, cutAt_eq, DPs.len d]
  exact DPs.take _ (DPs.drop _ d)
def rSli (T : Px) : V → Option Int → Option Int → Hp → VK → Prop := fun x lo hi H Q => ∃ c v u, Base T.K c H ∧ RB T.K c H x v ∧ Sk.pySli v lo hi = some u ∧ Pst T c H u Q
theorem sl_all (hK : X.K = T.K) : SlR X (rSli T) := by
  intro pins s σ H x v vl vu lo hi sl Q I rx hs pl pu h
  obtain ⟨c, p, u, b, hx, e, k⟩ := h
  cases p <;> simp only [Sk.pySli] at e <;> cases e
  · rename_i ps
    obtain ⟨a, vs, rfl, h1, g1, d⟩ := hx.tup b
    refine sl_tupA pins s σ H _ v vl vu lo hi sl Q I rx hs pl pu ⟨a, vs, rfl, by rw [hK]; exact h1, fun w => ?_, fun _ p hp => Aft.tupN k b hp (cut_dps d lo hi)⟩
    refine Aft.here k b (DP.tup g1 ?_)
    have e1 : Sk.cut ps lo hi = ps := by
      unfold Sk.cut
      rw [cutAt_eq, cutAt_eq, ← DPs.len d, w.1, w.2, List.drop_zero, Nat.sub_zero, DPs.len d, List.take_length]
    rw [e1]; exact d
  · obtain ⟨a, vs, rfl, h1, d⟩ := hx.lst b
    refine sl_list pins s σ H _ v vl vu lo hi sl Q I rx hs pl pu ⟨a, vs, rfl, hsq hK h1, fun p hp => k p _ hp ?_ (cut_dps d lo hi)⟩
    obtain ⟨_, _, _, z⟩ := I.list (hsq hK h1)
    exact Nat.le_trans (cutV_length _ _ _) z
end
end SkB

set_option Elab.async false
set_option linter.all false
set_option maxRecDepth 100000
/-! sorted() of tuples of whole numbers, of any lengths, the empty one among them. -/
namespace SkSort
open PySem PySem.W PyProof.Rows
abbrev general' : SortKind := sortPriv% PySem.Builtin.KeyKind.general
section
variable {prog : Program} {w : World} {A : Around} {E : Value → Shared → Prop} {s : Shared}
theorem lt_one {v u : Value} {ns ms : List Int} {Q : Bool → Shared → Prop} (hu : A.units < cLine) (hv : TS.TupInts s.heap v ns) (hw : TS.TupInts s.heap u ms) (h : Q (HT.lexLt ns ms) s) : wpAny (model prog w) A (keyLt' oneType' v u) Q E s := by
  obtain ⟨a, xs, rfl, ⟨⟨c1, d1, t1, l1⟩, ho, hc, n, hd⟩, i⟩ := hv
  obtain ⟨b, ys, rfl, ⟨⟨c2, d2, t2, l2⟩, ho2, hc2, n2, hd2⟩, j⟩ := hw
  simp only at hc hd hc2 hd2
  subst hc hd hc2 hd2
  rw [keyLt'_oneType, oneLt'_eq]
  simp only [if_true]
  refine wpAny_bind (wpAny_cRoomFor hu ?_)
  refine wpAny_bind (wpAny_callSpecialIfBound?_slot ⟨_, ho, rfl⟩ PySem.F.slot_tuple_lt (call_meets PySem.F.slot_tuple_lt ⟨_, ho, rfl⟩ PySem.F.entry_tuple_lt (PySem.F.args_tuple_lt_2 _ _) (HT.tuple_lt_ints a b xs ys n n2 d1 d2 l1 l2 ns ms i j) ⟨ho, ho2, ?_⟩))
  exact wpAny_truthy_bool h
theorem lt_gen {v u : Value} {ns ms : List Int} {Q : Bool → Shared → Prop} (hu : A.units < cLine) (hv : TS.TupInts s.heap v ns) (hw : TS.TupInts s.heap u ms) (h : Q (HT.lexLt ns ms) s) : wpAny (model prog w) A (keyLt' general' v u) Q E s := by
  obtain ⟨a, xs, rfl, t, i⟩ := hv
  obtain ⟨b, ys, rfl, t2, j⟩ := hw
  show wpAny (model prog w) A (oneLt' false (.ref a) (.ref b)) Q E s
  exact kat_one _ _ (HT.lt_tupInts t t2 i j hu h)
theorem kat_ints {b fin : Bool} {Q : Bool → Shared → Prop} : ∀ {xs ys : List Value} {ns ms : List Int} {i : Nat}, IntsAre xs ns → IntsAre ys ms → fin = decide (ns.length < ms.length) → Q (HT.lexLt ns ms) s → KatLex prog w A b fin Q (xs.zip ys) i s
  | _, _, _, _, _, .nil, .nil, e, h => kat_nil (by rw [e]; exact h)
  | _, _, _, _, _, .nil, .cons _ _ _, e, h => kat_nil (by rw [e]; exact h)
  | _, _, _, _, _, .cons _ _ _, .nil, e, h => kat_nil (by rw [e]; exact h)
  | _, _, _, _, i, .cons (n := x) t r, .cons (n := y) u r', e, h => by
    rw [HT.lexLt_cons] at h
    refine kat_cons (SeqAt.EqAt.int_int x t y u prog w _ _ ?_)
    refine kat_go (fun e1 => ?_) (fun e1 => ?_)
    · have ex : x = y := by simpa using e1
      rw [if_pos ex] at h
      refine kat_yes (kat_ints r r' ?_ h)
      rw [e, Bool.eq_iff_iff]
      simp only [decide_eq_true_eq, List.length_cons]
      omega
    · have ex : ¬ x = y := by simpa using e1
      rw [if_neg ex] at h
      refine kat_no ?_
      cases b && i == 0 with
      | true => exact oneLt_int h
      | false => exact kat_one _ _ (PyProof.Rows.lt_int h)
theorem ints_len : ∀ {xs : List Value} {ns : List Int}, IntsAre xs ns → xs.length = ns.length
  | _, _, .nil => rfl
  | _, _, .cons _ _ r => congrArg (· + 1) (ints_len r)
theorem lt_tup {b : Bool} {v u : Value} {ns ms : List Int} {Q : Bool → Shared → Prop} (hv : TS.TupInts s.heap v ns) (hw : TS.TupInts s.heap u ms) (h : Q (HT.lexLt ns ms) s) : wpAny (model prog w) A (keyLt' (tuples' b) v u) Q E s := by
  obtain ⟨a, xs, rfl, ⟨o, ho, hc, n, hd⟩, i⟩ := hv
  obtain ⟨a2, ys, rfl, ⟨o2, ho2, hc2, n2, hd2⟩, j⟩ := hw
  refine kat_lt ho hd ho2 hd2 (kat_ints i j ?_ h)
  have l1 := ints_len i
  have l2 := ints_len j
  simp only [Array.length_toList] at l1 l2
  rw [l1, l2]
/-- the first items, as the sort looks at them -/
theorem firsts {M : Model} : ∀ {vs : List Value} (k : Value → List Int) {Q : List (Option Value) → Shared → Prop}, (∀ v ∈ vs, TS.TupInts s.heap v (k v)) → (∀ fs : List (Option Value), fs.length = vs.length → (∀ (i : Nat) (v : Value) (f : Option Value), vs[i]? = some v → fs[i]? = some f → f.isSome = !(k v).isEmpty) → Q fs s) → wpAny M A (vs.mapM firstOfTuple') Q E s
  | [], k, Q, _, h => by
    rw [List.mapM_nil]
    exact wpAny_pure (h [] rfl fun i v f e => by simp at e)
  | v :: vs, k, Q, hv, h => by
    obtain ⟨a, xs, rfl, ⟨o, ho, hc, n, hd⟩, i⟩ := hv v (List.mem_cons_self ..)
    rw [List.mapM_cons]
    refine wpAny_bind ?_
    rw [kas_first_eq]
    refine wpAny_bind (Looks.here (show Looks M s.heap (typeOf (.ref a)) o.cls from (Looks.ld ho).andThen .now) ?_)
    rw [hc, if_neg (by first | decide | simp)]
    refine wpAny_bind (listItems_at ho hd (wpAny_pure ?_))
    refine wpAny_bind (firsts k (fun u hu => hv u (List.mem_cons_of_mem _ hu)) fun fs hl hf => wpAny_pure (h _ (by rw [List.length_cons, List.length_cons, hl]) fun j u f e1 e2 => ?_))
    cases j with
    | zero =>
      simp only [List.getElem?_cons_zero, Option.some.injEq] at e1 e2
      subst e1 e2
      have l := ints_len i
      simp only [Array.length_toList] at l
      cases hk : k (.ref a) with
      | nil => rw [hk] at l; simp at l; subst l; rfl
      | cons x r =>
        rw [hk] at l
        simp only [List.length_cons] at l
        have : 0 < xs.size := by omega
        simp [this]
    | succ j =>
      simp only [List.getElem?_cons_succ] at e1 e2
      exact hf j u f e1 e2
theorem tup_type {M : Model} {v : Value} {ns : List Int} (h : TS.TupInts s.heap v ns) : Looks M s.heap (typeOf v) (.type "tuple") := by
  obtain ⟨a, xs, rfl, ⟨o, ho, hc, n, hd⟩, i⟩ := h
  rw [← hc]
  exact (Looks.ld ho).andThen .now
theorem one_type {M : Model} {vs : List Value} {k : Value → List Int} {Q : Option Value → Shared → Prop} (h0 : 0 < vs.length) (hv : ∀ v ∈ vs, TS.TupInts s.heap v (k v)) (h : Q (some (.type "tuple")) s) : wpAny M A (oneTypeOnly' vs.toArray) Q E s := by
  rw [oneTypeOnly'_eq, List.mapM_toArray, map_eq_pure_bind]
  refine wpAny_bind (wpAny_bind (kas_mapM (r := .type "tuple") _ (fun v hm Q' hq => (tup_type (hv v hm)).here hq) (wpAny_pure ?_)))
  obtain ⟨v₁, r, rfl⟩ : ∃ v₁ r, vs = v₁ :: r := by
    match vs, h0 with
    | v₁ :: r, _ => exact ⟨v₁, r, rfl⟩
  have hall : ((List.map (fun _ => Value.type "tuple") (v₁ :: r)).toArray.all fun x => x == Value.type "tuple") = true := by
    simp only [List.all_toArray, List.all_map, List.all_eq_true]
    intro _ _
    exact beq_self_eq_true _
  have h1 : (List.map (fun _ => Value.type "tuple") (v₁ :: r)).toArray[0]? = some (.type "tuple") := by simp
  rw [h1]
  simp only [hall, if_true]
  exact wpAny_pure h
/-- each first item is some value where all are not empty -/
theorem kat_tups {h : Heap} : ∀ {vs : List Value} {k : Value → List Int}, (∀ v ∈ vs, TS.TupInts h v (k v)) → (∀ v ∈ vs, k v ≠ []) → ∃ fs, KatTups h vs fs ∧ fs.length = vs.length ∧ ∀ f ∈ fs, ∃ x t, f = Value.int x t
  | [], k, _, _ => ⟨[], trivial, rfl, fun _ h => nomatch h⟩
  | v :: vs, k, hv, hn => by
    obtain ⟨fs, t, l, hf⟩ := kat_tups (fun u hu => hv u (List.mem_cons_of_mem _ hu)) fun u hu => hn u (List.mem_cons_of_mem _ hu)
    obtain ⟨a, xs, rfl, ⟨o, ho, hc, n, hd⟩, i⟩ := hv v (List.mem_cons_self ..)
    have ne := hn _ (List.mem_cons_self ..)
    generalize hx : xs.toList = ys at i
    generalize hk : k (.ref a) = ms at i ne
    cases i with
    | nil => exact absurd rfl ne
    | @cons x tk ns' us' r =>
      have e0 : xs[0]? = some (Value.int x tk) := by
        rw [← Array.getElem?_toList, hx]; rfl
      refine ⟨_ :: fs, KatTups.cons ho hc hd e0 t, by simp [l], fun f hm => ?_⟩
      rcases List.mem_cons.mp hm with e | hm
      · exact ⟨x, tk, e⟩
      · exact hf f hm
theorem sortable {a : Addr} {vs : List Value} {k : Value → List Int} (h0 : 0 < vs.length) (hu : A.units < cLine) (hv : ∀ v ∈ vs, TS.TupInts s.heap v (k v)) (ha : ∀ o, s.heap.get? a = some o → o.cls ≠ .type "tuple") : SrtO.SortableO prog w A s a vs fun v u => HT.lexLt (k v) (k u) := by
  intro h' keep
  have hv' : ∀ v ∈ vs, TS.TupInts h' v (k v) := fun v hm => (hv v hm).keeps fun b o e c => keep b o (fun z => by subst z; exact ha o e c) e
  by_cases hn : ∀ v ∈ vs, k v ≠ []
  · obtain ⟨fs, t, l, hf⟩ := kat_tups hv' hn
    refine ⟨tuples' true, fun Q E hq => ?_, fun p q hp hq => lt_tup (s := { s with heap := h' }) (hv' _ hp) (hv' _ hq) ⟨rfl, rfl⟩⟩
    refine kat_kind (T := .type "int") t (by omega) (fun f hm => ?_) (by rfl) ?_
    · obtain ⟨x, t, rfl⟩ := hf f hm
      exact Looks.now
    · have e : (Value.type "int" != Value.type "tuple") = true := by first | decide +kernel | rfl | decide
      rw [e]
      exact hq
  · obtain ⟨v0, hm0, he0⟩ : ∃ v, v ∈ vs ∧ k v = [] := by
      refine Classical.byContradiction fun z => hn fun v hm e => z ⟨v, hm, e⟩
    obtain ⟨i0, hi0⟩ := List.getElem?_of_mem hm0
    have notAll : ∀ fs : List (Option Value), fs.length = vs.length → (∀ (i : Nat) (v : Value) (f : Option Value), vs[i]? = some v → fs[i]? = some f → f.isSome = !(k v).isEmpty) → (fs.toArray.all fun x => x.isSome) ≠ true := fun fs hl hf hall => by
      have hlt : i0 < fs.length := by
        rw [hl]
        exact (List.getElem?_eq_some_iff.mp hi0).1
      have q := hf i0 v0 fs[i0] hi0 (by simp [hlt])
      rw [he0] at q
      rw [List.all_toArray, List.all_eq_true] at hall
      have := hall fs[i0] (List.getElem_mem hlt)
      rw [q] at this
      exact Bool.false_ne_true this
    obtain ⟨v1, r1, rfl⟩ : ∃ v₁ r, vs = v₁ :: r := by
      match vs, h0 with
      | v₁ :: r, _ => exact ⟨v₁, r, rfl⟩
    by_cases h1 : k v1 = []
    · refine ⟨oneType', fun Q E hq => ?_, fun p q hp hq => lt_one (s := { s with heap := h' }) hu (hv' _ hp) (hv' _ hq) ⟨rfl, rfl⟩⟩
      rw [kat_kind_eq, List.mapM_toArray, map_eq_pure_bind]
      refine wpAny_bind (wpAny_bind (firsts (s := { s with heap := h' }) k hv' fun fs hl hf => wpAny_pure ?_))
      rw [if_neg (notAll fs hl hf)]
      obtain ⟨f1, fr, rfl⟩ : ∃ f₁ r, fs = f₁ :: r := by
        match fs, hl with
        | f₁ :: r, _ => exact ⟨f₁, r, rfl⟩
      have q := hf 0 v1 f1 rfl rfl
      rw [h1] at q
      have e1 : f1 = none := by
        cases f1 with
        | none => rfl
        | some _ => exact absurd q (by simp)
      subst e1
      rw [if_neg (by simp)]
      refine wpAny_bind (one_type (s := { s with heap := h' }) (by simp) hv' ?_)
      exact wpAny_pure hq
    · refine ⟨general', fun Q E hq => ?_, fun p q hp hq => lt_gen (s := { s with heap := h' }) hu (hv' _ hp) (hv' _ hq) ⟨rfl, rfl⟩⟩
      rw [kat_kind_eq, List.mapM_toArray, map_eq_pure_bind]
      refine wpAny_bind (wpAny_bind (firsts (s := { s with heap := h' }) k hv' fun fs hl hf => wpAny_pure ?_))
      rw [if_neg (notAll fs hl hf)]
      obtain ⟨f1, fr, rfl⟩ : ∃ f₁ r, fs = f₁ :: r := by
        match fs, hl with
        | f₁ :: r, _ => exact ⟨f₁, r, rfl⟩
      have q := hf 0 v1 f1 rfl rfl
      have q2 : f1.isSome = true := by
        rw [q]
        cases hk : k v1 with
        | nil => exact absurd hk h1
        | cons _ _ => rfl
      rw [if_pos (by simpa using q2)]
      exact wpAny_pure hq
theorem sorted_tupI {l : Addr} {vs : List Value} {k : Value → List Int} {Q : Value → Shared → Prop} (hl : s.heap.IsList l vs.toArray) (hz : vs.length ≤ sizeLine) (hu : A.units + 64 < cLine) (hp : ∀ v ∈ vs, TS.TupInts s.heap v (k v))
    (h : ∀ (h' : Heap) (d : Addr) (out : List Value), SrtO.Srtd (fun v u => HT.lexLt (k v) (k u)) out → SrtO.Stb (fun v u => HT.lexLt (k v) (k u)) out vs → (∀ b o, s.heap.get? b = some o → h'.get? b = some o) → s.heap.objs.size ≤ d → (∃ n, h'.get? d = some (seqObj "list" out.toArray n)) → Q (.ref d) { s with heap := h' }) :
    wpAny (model prog w) A (call (.builtin "sorted") [.ref l]) Q E s := by
  refine SrtO.sorted_ord (NtL.swo_lexL k) hl hz (fun h2 h₁ a ha kk => ?_) fun out hs hb => ?_
  · refine sortable (s := { s with heap := h₁ }) (by omega) (by show A.units + 1 + 1 < cLine; omega) (fun v hm => (hp v hm).keeps fun b o e _ => (kk b o e).2) fun o e => ?_
    have e' : some o = some (seqObj "list" vs.toArray 0) := e.symm.trans ha
    cases e'
    intro c
    exact absurd (Value.type.inj c) (by decide)
  · exact h _ _ out hs hb (fun b o e => sortedAll_old e) (Nat.le_succ _) (sortedAll_at s.heap vs out.toArray)
end
end SkSort

set_option Elab.async false
set_option linter.all false
set_option maxRecDepth 100000
/-! Part B4: built-in functions by values. -/
namespace SkB
open PySem PySem.Spec L2
open Sk (PV ME MEs MO MI MP MS MSs Slot Sto Out Fl Calls FD BO CO Bi Ty)

/-! ### sorting, in plain lists -/
def insL (x : List Int) : List (List Int) → List (List Int)
  | [] => [x]
  | y :: r => if HT.lexLt y x = true then y :: insL x r else x :: y :: r
def sortL : List (List Int) → List (List Int)
  | [] => []
  | x :: r => insL x (sortL r)
theorem insL_perm (x : List Int) : ∀ l, (insL x l).Perm (x :: l)
  | [] => .refl _
  | y :: r => by
    unfold insL
    split
    · exact ((insL_perm x r).cons y).trans (.swap x y r)
    · exact .refl _
theorem sortL_perm : ∀ l, (sortL l).Perm l
  | [] => .refl _
  | x :: r => (insL_perm x _).trans ((sortL_perm r).cons x)
theorem insL_srtd (x : List Int) : ∀ {l}, SrtO.Srtd HT.lexLt l → SrtO.Srtd HT.lexLt (insL x l)
  | [], _ => SrtO.srtd_one _
  | y :: r, h => by
    have h' := List.pairwise_cons.mp h
    unfold insL
    split
    · rename_i e
      refine List.pairwise_cons.mpr ⟨fun z hz => ?_, insL_srtd x h'.2⟩
      rcases List.mem_cons.mp ((insL_perm x r).mem_iff.mp hz) with rfl | hz
      · exact NtL.lex_asym _ _ e
      · exact h'.1 z hz
    · rename_i e
      have e : HT.lexLt y x = false := by simpa using e
      refine List.pairwise_cons.mpr ⟨fun z hz => ?_, h⟩
      rcases List.mem_cons.mp hz with rfl | hz
      · exact e
      · exact NtL.lex_tr x y z e (h'.1 z hz)
theorem sortL_srtd : ∀ l, SrtO.Srtd HT.lexLt (sortL l)
  | [] => List.Pairwise.nil
  | x :: r => insL_srtd x (sortL_srtd r)
theorem lex_anti : ∀ a b : List Int, HT.lexLt a b = false → HT.lexLt b a = false → a = b
  | [], [], _, _ => rfl
  | [], _ :: _, h, _ => by simp [HT.lexLt] at h
  | _ :: _, [], _, h => by simp [HT.lexLt] at h
  | x :: xs, y :: ys, h1, h2 => by
    rw [HT.lexLt_cons] at h1 h2
    by_cases e : x = y
    · subst e
      rw [if_pos rfl] at h1 h2
      rw [lex_anti xs ys h1 h2]
    · rw [if_neg e, decide_eq_false_iff_not] at h1
      rw [if_neg (fun z => e z.symm), decide_eq_false_iff_not] at h2
      omega
theorem srtd_uniq {A B : List (List Int)} (p : A.Perm B) (ha : SrtO.Srtd HT.lexLt A) (hb : SrtO.Srtd HT.lexLt B) : A = B := by
  refine SrtO.stb_uniq (lt := HT.lexLt) (NtL.swo_lexL id) ha hb ⟨p, fun x => ?_⟩
  have q := p.filter (SrtO.eqv HT.lexLt x)
  have all : ∀ l : List (List Int), l.filter (SrtO.eqv HT.lexLt x) = List.replicate (l.filter (SrtO.eqv HT.lexLt x)).length x := fun l => by
    refine List.eq_replicate_of_mem fun y hy => ?_
    obtain ⟨h1, h2⟩ := SrtO.eqv_iff.mp (List.mem_filter.mp hy).2
    exact (lex_anti _ _ h1 h2).symm
  rw [all A, all B, q.length_eq]
abbrev tupP (ns : List Int) : PV := .tup (ns.map PV.int)
theorem ltvs_ints : ∀ ns ms : List Int, Sk.ltvs (ns.map PV.int) (ms.map PV.int) = some (HT.lexLt ns ms)
  | [], [] => rfl
  | [], _ :: _ => rfl
  | _ :: _, [] => rfl
  | x :: xs, y :: ys => by
    show (if (x == y) = true then Sk.ltvs (xs.map PV.int) (ys.map PV.int) else some (decide (x < y))) = _
    rw [HT.lexLt_cons, ltvs_ints xs ys]
    by_cases e : x = y
    · rw [if_pos e, if_pos (by simpa using e)]
    · rw [if_neg e, if_neg (by simpa using e)]
theorem ltb_tup (ns ms : List Int) : Sk.ltb (tupP ns) (tupP ms) = HT.lexLt ns ms := by
  unfold Sk.ltb
  show ((Sk.ltvs (ns.map PV.int) (ms.map PV.int)).getD false) = _
  rw [ltvs_ints]; rfl
theorem ltb_int (i j : Int) : Sk.ltb (.int i) (.int j) = HT.lexLt [i] [j] := by
  show decide (i < j) = _
  rw [HT.lexLt_cons]
  by_cases e : i = j
  · subst e; simp [HT.lexLt]
  · rw [if_neg e]
theorem isort_map {α : Type} (P : α → PV) (k : α → List Int) (h : ∀ a b, Sk.ltb (P a) (P b) = HT.lexLt (k a) (k b)) (Q : List Int → PV) (hQ : ∀ a, Q (k a) = P a) :
    ∀ l : List α, Sk.isort (l.map P) = (sortL (l.map k)).map Q
  | [] => rfl
  | x :: r => by
    show Sk.insert1 (P x) (Sk.isort (r.map P)) = (insL (k x) (sortL (r.map k))).map Q
    rw [isort_map P k h Q hQ r]
    have all : ∀ m ∈ sortL (r.map k), ∃ a, m = k a := fun m hm => by
      obtain ⟨a, _, e⟩ := List.mem_map.mp ((sortL_perm _).mem_iff.mp hm)
      exact ⟨a, e.symm⟩
    generalize sortL (r.map k) = L at all ⊢
    induction L with
    | nil => show [P x] = [Q (k x)]; rw [hQ]
    | cons y L ih =>
      obtain ⟨a, rfl⟩ := all y (List.mem_cons_self ..)
      have ih := ih fun m hm => all m (List.mem_cons_of_mem _ hm)
      show (if Sk.ltb (Q (k a)) (P x) = true then Q (k a) :: Sk.insert1 (P x) (L.map Q) else P x :: Q (k a) :: L.map Q) = _
      rw [hQ, h]
      unfold insL
      split
      · rw [List.map_cons, hQ, ih]
      · rw [List.map_cons, List.map_cons, hQ, hQ]

/-! ### arguments -/
def RBs (K : PySem.W.Frag) (c : Cf) (H : Hp) : List V → List PV → Prop
  | [], [] => True
  | v :: vs, p :: ps => RB K c H v p ∧ RBs K c H vs ps
  | _, _ => False
theorem RBs.one {K : PySem.W.Frag} {c : Cf} {H : Hp} {vs : List V} {p : PV} (h : RBs K c H vs [p]) : ∃ v, vs = [v] ∧ RB K c H v p := by
  match vs, h with
  | [v], h => exact ⟨v, rfl, h.1⟩
theorem RBs.two {K : PySem.W.Frag} {c : Cf} {H : Hp} {vs : List V} {p q : PV} (h : RBs K c H vs [p, q]) : ∃ v u, vs = [v, u] ∧ RB K c H v p ∧ RB K c H u q := by
  match vs, h with
  | [v, u], h => exact ⟨v, u, rfl, h.1, h.2.1⟩
theorem ints_dps {K : PySem.W.Frag} {G : Hp} : ∀ {ns : List Int} {vs : List V}, DPs K G vs (ns.map PV.int) → vs = ns.map V.int
  | [], _, h => by cases h; rfl
  | n :: ns, _, h => by
    cases h with
    | cons h hs =>
      cases h
      rw [ints_dps hs]; rfl
theorem dps_ints {K : PySem.W.Frag} {G : Hp} : ∀ ns : List Int, DPs K G (ns.map V.int) (ns.map PV.int)
  | [] => .nil
  | n :: ns => .cons (.int n) (dps_ints ns)
theorem intsOf_eq : ∀ {ps : List PV} {l : List Int}, Sk.intsOf ps = some l → ps = l.map PV.int
  | [], l, h => by cases h; rfl
  | .int i :: r, l, h => by
    obtain ⟨m, e1, e2⟩ := Option.map_eq_some_iff.mp (show (Sk.intsOf r).map (i :: ·) = some l from h)
    subst e2
    rw [intsOf_eq e1]; rfl
theorem tupIs_eq : ∀ {ps : List PV}, Sk.tupIs ps = true → ∃ l : List Int, ps = l.map PV.int
  | [], _ => ⟨[], rfl⟩
  | .int i :: r, h => by
    obtain ⟨l, e⟩ := tupIs_eq (show Sk.tupIs r = true from h)
    exact ⟨i :: l, by rw [e]; rfl⟩
theorem isInt_eq : ∀ {ps : List PV}, ps.all Sk.isInt = true → ∃ l : List Int, ps = l.map PV.int
  | [], _ => ⟨[], rfl⟩
  | p :: r, h => by
    rw [List.all_cons, Bool.and_eq_true] at h
    obtain ⟨l, e⟩ := isInt_eq h.2
    cases p <;> simp [Sk.isInt] at h
    exact ⟨_ :: l, by rw [e]; rfl⟩
theorem least_min : ∀ (m : Int) (l : List Int), Sk.least m l ∈ m :: l ∧ ∀ y ∈ m :: l, Sk.least m l ≤ y
  | m, [] => ⟨List.mem_cons_self .., fun y hy => by simp at hy; subst hy; exact Int.le_refl _⟩
  | m, x :: r => by
    unfold Sk.least
    split
    · rename_i e
      obtain ⟨h1, h2⟩ := least_min x r
      refine ⟨List.mem_cons_of_mem _ h1, fun y hy => ?_⟩
      rcases List.mem_cons.mp hy with rfl | hy
      · have := h2 x (List.mem_cons_self ..); omega
      · exact h2 y hy
    · rename_i e
      obtain ⟨h1, h2⟩ := least_min m r
      refine ⟨?_, fun y hy => ?_⟩
      · rcases List.mem_cons.mp h1 with h | h
        · rw [h]; exact List.mem_cons_self ..
        · exact List.mem_cons_of_mem _ (List.mem_cons_of_mem _ h)
      · rcases List.mem_cons.mp hy with rfl | hy
        · exact h2 _ (List.mem_cons_self ..)
        · rcases List.mem_cons.mp hy with rfl | hy
          · have := h2 m (List.mem_cons_self ..); omega
          · exact h2 y (List.mem_cons_of_mem _ hy)
theorem most_max : ∀ (m : Int) (l : List Int), Sk.most m l ∈ m :: l ∧ ∀ y ∈ m :: l, y ≤ Sk.most m l
  | m, [] => ⟨List.mem_cons_self .., fun y hy => by simp at hy; subst hy; exact Int.le_refl _⟩
  | m, x :: r => by
    unfold Sk.most
    split
    · rename_i e
      obtain ⟨h1, h2⟩ := most_max x r
      refine ⟨List.mem_cons_of_mem _ h1, fun y hy => ?_⟩
      rcases List.mem_cons.mp hy with rfl | hy
      · have := h2 x (List.mem_cons_self ..); omega
      · exact h2 y hy
    · rename_i e
      obtain ⟨h1, h2⟩ := most_max m r
      refine ⟨?_, fun y hy => ?_⟩
      · rcases List.mem_cons.mp h1 with h | h
        · rw [h]; exact List.mem_cons_self ..
        · exact List.mem_cons_of_mem _ (List.mem_cons_of_mem _ h)
      · rcases List.mem_cons.mp hy with rfl | hy
        · exact h2 _ (List.mem_cons_self ..)
        · rcases List.mem_cons.mp hy with rfl | hy
          · have := h2 m (List.mem_cons_self ..); omega
          · exact h2 y (List.mem_cons_of_mem _ hy)
theorem uniq_min {ns : List Int} {m m' : Int} (h1 : m ∈ ns) (h2 : ∀ y ∈ ns, m ≤ y) (h3 : m' ∈ ns) (h4 : ∀ y ∈ ns, m' ≤ y) : m = m' := by
  have := h2 m' h3; have := h4 m h1; omega
theorem uniq_max {ns : List Int} {m m' : Int} (h1 : m ∈ ns) (h2 : ∀ y ∈ ns, y ≤ m) (h3 : m' ∈ ns) (h4 : ∀ y ∈ ns, y ≤ m') : m = m' := by
  have := h2 m' h3; have := h4 m h1; omega

/-! ### the rules -/
def bltV : Bi → Value
  | .len => .builtin "len"
  | .tuple => .type "tuple"
  | .list => .type "list"
  | .int => .type "int"
  | .abs => .builtin "abs"
  | .min => .builtin "min"
  | .max => .builtin "max"
  | .sum => .builtin "sum"
  | .sorted => .builtin "sorted"
  | .gcd => .builtin "len"
  | .lcm => .builtin "len"
  | .str => .builtin "len"
def rBlt (T : Px) (b : Bi) : List V → Hp → VK → Prop := fun xs H Q => ∃ c ps u, Base T.K c H ∧ RBs T.K c H xs ps ∧ Sk.pyBlt c.st b ps = some u ∧ Pst T c H u Q
section
variable {X : Cx} {T : Px}
theorem tups_at {pins : List (Addr × Obj)} {σ : L2.St} {H : Hp} {s : Shared} {c : Cf} (hK : X.K = T.K) (I : Inv X pins σ H s) (b : Base T.K c H) : ∀ {vs : List V} {its : List Value} {ps : List PV}, Vals vs its → DPs T.K c.G vs ps → ps.all Sk.isTupI = true →
    vs = its.map backV ∧ ps = its.map (fun u => tupP (TS.intsOf s.heap u)) ∧ ∀ u ∈ its, (∃ a, u = Value.ref a) ∧ TS.TupInts s.heap u (TS.intsOf s.heap u) ∧ DP T.K c.G (backV u) (tupP (TS.intsOf s.heap u))
  | _, _, _, .nil, .nil, _ => ⟨rfl, rfl, fun _ h => nomatch h⟩
  | _, _, _, .cons (a := v) (b := u) r t, .cons (p := p) d ds, h => by
    rw [List.all_cons, Bool.and_eq_true] at h
    obtain ⟨e1, e2, e3⟩ := tups_at hK I b t ds h.2
    have h1 := h.1
    cases p <;> simp only [Sk.isTupI] at h1 <;> try (exact absurd h1 Bool.false_ne_true)
    obtain ⟨l, rfl⟩ := tupIs_eq h1
    cases d with
    | @tup a vs' _ hs hd =>
      have ei := ints_dps hd
      subst ei
      cases (show u = Value.ref a from r)
      have tk := tupI_raw I (t := a) (ns := l) (by rw [hK]; exact sqt_sub b.sub hs)
      have ek := tk.ints
      refine ⟨by rw [e1]; rfl, ?_, fun u hu => ?_⟩
      · rw [List.map_cons, ek, ← e2]
      · rcases List.mem_cons.mp hu with rfl | hu
        · rw [ek]
          exact ⟨⟨a, rfl⟩, tk, .tup hs (dps_ints l)⟩
        · exact e3 u hu
theorem dps_of {K : PySem.W.Frag} {G : Hp} {f : Value → V} {g : Value → PV} : ∀ {us : List Value}, (∀ u ∈ us, DP K G (f u) (g u)) → DPs K G (us.map f) (us.map g)
  | [], _ => .nil
  | u :: us, h => .cons (h u (List.mem_cons_self ..)) (dps_of fun v hv => h v (List.mem_cons_of_mem _ hv))
theorem sorted_tups {pins : List (Addr × Obj)} {σ : L2.St} {H : Hp} {s : Shared} {c : Cf} {a : Addr} {vs : List V} {ps : List PV} {Q : VK} (hK : X.K = T.K) (hu : X.A.units + 300 < cLine) (I : Inv X pins σ H s) (b : Base T.K c H) (hs : SqL X.K H a vs) (d : DPs T.K c.G vs ps) (ht : ps.all Sk.isTupI = true)
    (k : ∀ p vs', H p = none → vs'.length ≤ sizeLine → DPs T.K c.G vs' (Sk.isort ps) → Q (.ref p) (upd H p (.lst vs'))) : wpAny (model X.prog X.w) X.A (call (.builtin "sorted") [.ref a]) (EP X pins σ Q) X.xe s := by
  obtain ⟨its, rv, hl, hz⟩ := I.list hs
  obtain ⟨e1, e2, e3⟩ := tups_at hK I b rv d ht
  refine SkSort.sorted_tupI (k := TS.intsOf s.heap) hl.isList (by rw [← rv.length]; exact hz) (by omega) (fun u hu => (e3 u hu).2.1) fun h' dd out h1 h2 kp hd ⟨n, hn⟩ => ?_
  have h3 : ∀ u ∈ out, u ∈ its := fun u hm => h2.perm.mem_iff.mp hm
  have hlen : (out.map backV).length ≤ sizeLine := by rw [List.length_map, h2.perm.length_eq, ← rv.length]; exact hz
  have es : out.map (TS.intsOf s.heap) = sortL (its.map (TS.intsOf s.heap)) := by
    refine srtd_uniq ((h2.perm.map _).trans (sortL_perm _).symm) ?_ (sortL_srtd _)
    exact List.pairwise_map.mpr h1
  refine ⟨.ref dd, upd H dd (.lst (out.map backV)), I.laid (t' := s.toks) kp hd ⟨hlen, out, n, vals_back fun u hm => (e3 u (h3 u hm)).1, hn⟩, rfl, k dd _ (I.hok.fresh hd) hlen ?_⟩
  have e4 : Sk.isort ps = out.map (fun u => tupP (TS.intsOf s.heap u)) := by
    rw [e2, isort_map (fun u => tupP (TS.intsOf s.heap u)) (TS.intsOf s.heap) (fun x y => ltb_tup _ _) tupP (fun _ => rfl), ← es, List.map_map]
    rfl
  rw [e4]
  exact dps_of fun u hm => (e3 u (h3 u hm)).2.2
theorem srtd_ints : ∀ {l : List Int}, l.Pairwise (· ≤ ·) → SrtO.Srtd HT.lexLt (l.map fun i => [i])
  | l, h => by
    refine List.pairwise_map.mpr (h.imp fun {a b} hab => ?_)
    show HT.lexLt [b] [a] = false
    rw [HT.lexLt_cons]
    by_cases e : b = a
    · subst e; simp [HT.lexLt]
    · rw [if_neg e, decide_eq_false_iff_not]; omega
def oneI : List Int → PV
  | [i] => .int i
  | _ => .non
theorem isort_ints {ns ns' : List Int} (p : ns'.Perm ns) (h : ns'.Pairwise (· ≤ ·)) : Sk.isort (ns.map PV.int) = ns'.map PV.int := by
  have e : ns'.map (fun i => [i]) = sortL (ns.map fun i => [i]) := srtd_uniq ((p.map _).trans (sortL_perm _).symm) (srtd_ints h) (sortL_srtd _)
  rw [isort_map PV.int (fun i => [i]) ltb_int oneI (fun _ => rfl), ← e, List.map_map]
  rfl
theorem len_pos {i : Int} {r : List Int} : 0 < (i :: r).length := Nat.succ_pos _
theorem op_blt (hK : X.K = T.K) (hu : X.A.units + 300 < cLine) (hc : X.calm = true) (f : Bi) : CallR X (bltV f) (rBlt T f) := by
  intro pins s σ H xs us Q I rx h
  obtain ⟨c, ps, u, b, hx, e, k⟩ := h
  unfold Sk.pyBlt at e
  split at e
  · cases e
    obtain ⟨v, rfl, h1⟩ := hx.one
    obtain ⟨a, vs, rfl, g1, g2, d⟩ := h1.tup b
    exact call_len pins s σ H _ us Q I rx ⟨_, vs.length, rfl, .inr ⟨vs, by rw [hK]; exact g1, rfl⟩, by rw [DPs.len d]; exact k.here b (fun _ z => nomatch z) (RV.of (.int _))⟩
  · cases e
    obtain ⟨v, rfl, h1⟩ := hx.one
    obtain ⟨a, vs, rfl, g1, d⟩ := h1.lst b
    exact call_len pins s σ H _ us Q I rx ⟨_, vs.length, rfl, .inl ⟨vs, hsq hK g1, rfl⟩, by rw [DPs.len d]; exact k.here b (fun _ z => nomatch z) (RV.of (.int _))⟩
  · split at e
    · rename_i hz
      rw [lineEq] at hz
      cases e
      obtain ⟨v, rfl, h1⟩ := hx.one
      cases h1.str
      exact call_len pins s σ H _ us Q I rx ⟨_, _, rfl, ⟨hz, rfl⟩, k.here b (fun _ z => nomatch z) (RV.of (.int _))⟩
    · cases e
  · cases e
    obtain ⟨v, rfl, h1⟩ := hx.one
    obtain ⟨a, vs, rfl, g1, g2, d⟩ := h1.tup b
    exact call_tuple_of pins s σ H _ us Q I rx ⟨a, vs, rfl, .inr ⟨by rw [hK]; exact g1, k.here b (fun _ z => nomatch z) (RV.of (.tup g2 d))⟩⟩
  · cases e
    obtain ⟨v, rfl, h1⟩ := hx.one
    obtain ⟨a, vs, rfl, g1, d⟩ := h1.lst b
    exact call_tuple_of pins s σ H _ us Q I rx ⟨a, vs, rfl, .inl ⟨hsq hK g1, fun l hl => Aft.tupN (k : Aft T c H _ Q) b hl d⟩⟩
  · cases e
    obtain ⟨v, rfl, h1⟩ := hx.one
    obtain ⟨a, vs, rfl, g1, g2, d⟩ := h1.tup b
    obtain ⟨_, _, _, hz⟩ := I.tuple (a := a) (xs := vs) (by rw [hK]; exact g1)
    exact call_list_of pins s σ H _ us Q I rx ⟨a, vs, rfl, .inr (by rw [hK]; exact g1), fun l hl => k l vs hl hz d⟩
  · cases e
    obtain ⟨v, rfl, h1⟩ := hx.one
    obtain ⟨a, vs, rfl, g1, d⟩ := h1.lst b
    obtain ⟨_, _, _, hz⟩ := I.list (a := a) (xs := vs) (hsq hK g1)
    exact call_list_of pins s σ H _ us Q I rx ⟨a, vs, rfl, .inl (hsq hK g1), fun l hl => k l vs hl hz d⟩
  · cases e
    obtain ⟨v, rfl, h1⟩ := hx.one
    cases h1.int
    exact call_int1 pins s σ H _ us Q I rx (.inl ⟨_, rfl, k.here b (fun _ z => nomatch z) (RV.of (.int _))⟩)
  · cases e
    obtain ⟨v, rfl, h1⟩ := hx.one
    cases h1.bl
    exact call_int1 pins s σ H _ us Q I rx (.inr ⟨_, rfl, k.here b (fun _ z => nomatch z) (RV.of (.int _))⟩)
  · cases e
    obtain ⟨v, rfl, h1⟩ := hx.one
    cases h1.int
    exact call_abs pins s σ H _ us Q I rx ⟨_, rfl, k.here b (fun _ z => nomatch z) (RV.of (.int _))⟩
  · cases e
    obtain ⟨v, w, rfl, h1, h2⟩ := hx.two
    cases h1.int
    cases h2.int
    exact call_min2 hc pins s σ H _ us Q I rx ⟨_, _, rfl, k.here b (fun _ z => nomatch z) (RV.of (.int _))⟩
  · cases e
    obtain ⟨v, w, rfl, h1, h2⟩ := hx.two
    cases h1.int
    cases h2.int
    exact call_max2 hc pins s σ H _ us Q I rx ⟨_, _, rfl, k.here b (fun _ z => nomatch z) (RV.of (.int _))⟩
  · split at e
    · rename_i i r hi
      cases e
      obtain ⟨v, rfl, h1⟩ := hx.one
      obtain ⟨a, vs, rfl, g1, d⟩ := h1.lst b
      have e2 := intsOf_eq hi
      subst e2
      have e3 := ints_dps d
      subst e3
      refine cr_min hc pins s σ H _ us Q I rx ⟨a, i :: r, rfl, hsq hK g1, len_pos, fun m h1 h2 => ?_⟩
      obtain ⟨h3, h4⟩ := least_min i r
      rw [uniq_min h1 h2 h3 h4]
      exact k.here b (fun _ z => nomatch z) (RV.of (.int _))
    · cases e
  · split at e
    · rename_i i r hi
      cases e
      obtain ⟨v, rfl, h1⟩ := hx.one
      obtain ⟨a, vs, rfl, g1, d⟩ := h1.lst b
      have e2 := intsOf_eq hi
      subst e2
      have e3 := ints_dps d
      subst e3
      refine cr_max hc pins s σ H _ us Q I rx ⟨a, i :: r, rfl, hsq hK g1, len_pos, fun m h1 h2 => ?_⟩
      obtain ⟨h3, h4⟩ := most_max i r
      rw [uniq_max h1 h2 h3 h4]
      exact k.here b (fun _ z => nomatch z) (RV.of (.int _))
    · cases e
  · obtain ⟨l, hi, e'⟩ := Option.map_eq_some_iff.mp e
    subst e'
    obtain ⟨v, rfl, h1⟩ := hx.one
    obtain ⟨a, vs, rfl, g1, d⟩ := h1.lst b
    have e2 := intsOf_eq hi
    subst e2
    have e3 := ints_dps d
    subst e3
    exact cr_sum hc pins s σ H _ us Q I rx ⟨a, l, rfl, hsq hK g1, k.here b (fun _ z => nomatch z) (RV.of (.int _))⟩
  · obtain ⟨l, hi, e'⟩ := Option.map_eq_some_iff.mp e
    subst e'
    obtain ⟨v, rfl, h1⟩ := hx.one
    obtain ⟨a, vs, rfl, g1, d⟩ := h1.lst b
    unfold Sk.pySorted at hi
    split at hi
    · rename_i hall
      cases hi
      rw [Bool.or_eq_true] at hall
      rcases hall with hall | hall
      · obtain ⟨l, rfl⟩ := isInt_eq hall
        have e3 := ints_dps d
        subst e3
        refine cr_sortedI pins s σ H _ us Q I rx ⟨a, l, rfl, hsq hK g1, fun ns' p h1 h2 hp => ?_⟩
        refine k p _ hp ?_ (by rw [isort_ints h1 h2]; exact dps_ints _)
        obtain ⟨_, _, _, hz⟩ := I.list (a := a) (xs := l.map V.int) (hsq hK g1)
        rw [List.length_map] at hz ⊢
        rw [h1.length_eq]; exact hz
      · obtain ⟨u, rfl, ru⟩ := vals1 rx
        cases (show u = Value.ref a from ru)
        exact sorted_tups hK hu I b (hsq hK g1) d hall k
    · cases hi
  · cases e
end
end SkB

set_option Elab.async false
set_option linter.all false
set_option maxRecDepth 100000
/-! Part B5: what an expression promises. -/
namespace SkB
open PySem PySem.Spec L2
open Sk (PV ME MEs MO MI MP MS MSs Slot Sto Out Fl Calls FD BO CO Bi Ty)

/-- a program's names: its functions, its constants -/
structure Pd where
  T : Px
  fn : Nat → Option Str
  gl : Nat → Option Str
  G : Nat → Option PV
def RVs (K : PySem.W.Frag) (c : Cf) : List V → List PV → Prop
  | [], [] => True
  | v :: vs, p :: ps => RV K c v p ∧ RVs K c vs ps
  | _, _ => False
theorem RVs.len {K : PySem.W.Frag} {c : Cf} : ∀ {vs : List V} {ps : List PV}, RVs K c vs ps → vs.length = ps.length
  | [], [], _ => rfl
  | _ :: _, _ :: _, h => by rw [List.length_cons, List.length_cons, RVs.len h.2]
  | [], _ :: _, h => h.elim
  | _ :: _, [], h => h.elim
theorem RVs.ext {K : PySem.W.Frag} {c c' : Cf} {H H' : Hp} (x : Ext c H c' H') : ∀ {vs : List V} {ps : List PV}, RVs K c vs ps → RVs K c' vs ps
  | [], [], h => h
  | _ :: _, _ :: _, h => ⟨h.1.ext x, RVs.ext x h.2⟩
  | [], _ :: _, h => h.elim
  | _ :: _, [], h => h.elim
theorem RVs.dps {K : PySem.W.Frag} {c : Cf} : ∀ {vs : List V} {ps : List PV}, RVs K c vs ps → Sk.noRefs ps = true → DPs K c.G vs ps
  | [], [], _, _ => .nil
  | _ :: _, p :: ps, h, n => by
    have n' : (!Sk.isRef p && Sk.noRefs ps) = true := n
    rw [Bool.and_eq_true, Bool.not_eq_true'] at n'
    exact .cons (h.1.dp n'.1) (RVs.dps h.2 n'.2)
  | [], _ :: _, h, _ => h.elim
  | _ :: _, [], h, _ => h.elim
theorem RBs.ext {K : PySem.W.Frag} {c c' : Cf} {H H' : Hp} (x : Ext c H c' H') : ∀ {vs : List V} {ps : List PV}, RBs K c H vs ps → RBs K c' H' vs ps
  | [], [], h => h
  | _ :: _, _ :: _, h => ⟨h.1.ext x, RBs.ext x h.2⟩
  | [], _ :: _, h => h.elim
  | _ :: _, [], h => h.elim

/-- a result; a list may be new -/
def Fin (T : Px) (H : Hp) (u : PV) (fr : Bool) (c' : Cf) (H' : Hp) (Q : VK) : Prop := match u, fr with
  | .lst ps, true => ∀ a vs, H' a = some (.lst vs) → c'.G a = none → a ∉ c'.io → H a = none → DPs T.K c'.G vs ps → Q (.ref a) H'
  | u, _ => ∀ v, RV T.K c' v u → Q v H'
/-- what a function promises: the interpreter's answer -/
def spI (T : Px) (C : Calls) (f : Nat) : Sp := fun xs H Q E => ∃ c ps, Base T.K c H ∧ RVs T.K c xs ps ∧ match C f ps c.st with
  | .ok (u, fr) st' => ∀ c' H', c'.st = st' → Base T.K c' H' → Ext c H c' H' → Fin T H u fr c' H' Q
  | .exn e v st' => ∀ c' H' d, c'.st = st' → Base T.K c' H' → Ext c H c' H' → Exo T c' H' e d v → E (.ref (T.xc e)) (some d) H'
  | .bad => False

section
variable (D : Pd) (C : Calls) (W : WX)
def tE (e : ME) : TE := fun σ H Q => ∃ env c, Rel D.T.K env c σ H ∧ tM D.T W env σ c H (Sk.ev D.G C e env) fun v c' H' => ∀ u, RV D.T.K c' u v → Q u H'
def tB (e : ME) : TE := fun σ H Q => ∃ env c, Rel D.T.K env c σ H ∧ tM D.T W env σ c H (Sk.evB D.G C e env) fun v c' H' => ∀ u, RB D.T.K c' H' u v → Q u H'
def tP (e : ME) : TE := fun σ H Q => ∃ env c, Rel D.T.K env c σ H ∧ tM D.T W env σ c H (Sk.ev D.G C e env) fun v c' H' => Fin D.T H v true c' H' Q
def tF (e : ME) : TE := fun σ H Q => ∃ env c, Rel D.T.K env c σ H ∧ tM D.T W env σ c H (Sk.evF D.G C e env) fun xs c' H' => Fin D.T H (.lst xs) true c' H' Q
def tT (e : ME) : TT := fun σ H Q => ∃ env c, Rel D.T.K env c σ H ∧ tM D.T W env σ c H (Sk.evT D.G C e env) fun b c' H' => Q b H'
def tC' (o : MO) : TT := fun σ H Q => ∃ env c, Rel D.T.K env c σ H ∧ tM D.T W env σ c H (Sk.evC D.G C o env) fun b c' H' => Q b H'
def tA (es : MEs) : TA := fun σ H Q => ∃ env c, Rel D.T.K env c σ H ∧ tM D.T W env σ c H (Sk.evs D.G C es env) fun vs c' H' => ∀ us, RVs D.T.K c' us vs → Q us H'
def tAB (es : MEs) : TA := fun σ H Q => ∃ env c, Rel D.T.K env c σ H ∧ tM D.T W env σ c H (Sk.evsB D.G C es env) fun vs c' H' => ∀ us, RBs D.T.K c' H' us vs → Q us H'
def tOp' (o : MO) : TO := fun σ H Q => ∃ env c, Rel D.T.K env c σ H ∧ tM D.T W env σ c H (Sk.evO D.G C o env) fun i c' H' => Q i H'
/-- an iterator over these items, whatever comes to stand later -/
structure Wk (K : PySem.W.Frag) (R : Cf → Hp → Prop) (J : It) (ps : List PV) : Prop where
  len : ps.length ≤ sizeLine
  stop : ∀ c H, Base K c H → R c H → J.stop ps.length H
  go : ∀ c H i p, Base K c H → R c H → ps[i]? = some p → J.go i H
  yld : ∀ c H i p x H', Base K c H → R c H → ps[i]? = some p → J.yld i H x H' → H' = H ∧ DP K c.G x p
def tI (it : MI) : TI := fun σ H R => ∃ env c, Rel D.T.K env c σ H ∧ tM D.T W env σ c H (Sk.evI D.G C it env) fun ps c' H' => ∀ J, Wk D.T.K (Ext c' H') J ps → R J H'
/-- .. of a for statement: shared -/
def tJ (it : MI) : TI := fun σ H R => ∃ env c, Rel D.T.K env c σ H ∧ tM D.T W env σ c H (Sk.evJ D.G C it env) fun ps c' H' => ∀ J, Wk D.T.K (fun c2 _ => Sub c'.G c2.G) J ps → R J H'
end

section
variable {X : Cx} {x : Expr}
theorem PE_imp {t t' : TE} (h : PE X x t) (f : ∀ σ H Q, t' σ H Q → t σ H Q) : PE X x t' := ⟨fun pins s σ H Q I q => h.run pins s σ H Q I (f σ H Q q)⟩
theorem PT_imp {t t' : TT} (h : PT X x t) (f : ∀ σ H Q, t' σ H Q → t σ H Q) : PT X x t' := ⟨fun pins s σ H Q I q => h.run pins s σ H Q I (f σ H Q q)⟩
theorem PW_imp {t t' : TT} (h : PW X x t) (f : ∀ σ H Q, t' σ H Q → t σ H Q) : PW X x t' := ⟨fun wh pins s σ H Q I q => h.run wh pins s σ H Q I (f σ H Q q)⟩
theorem PA_imp {es : List Expr} {t t' : TA} (h : PA X es t) (f : ∀ σ H Q, t' σ H Q → t σ H Q) : PA X es t' := ⟨fun pos pins s σ H Q I q => h.run pos pins s σ H Q I (f σ H Q q)⟩
theorem PO_imp {o : Option Expr} {t t' : TO} (h : PO X o t) (f : ∀ σ H Q, t' σ H Q → t σ H Q) : PO X o t' := ⟨fun pins s σ H Q I q => h.run pins s σ H Q I (f σ H Q q)⟩
theorem PI_imp {tg it : Expr} {t t' : TI} (h : PI X tg it t) (f : ∀ σ H R, t' σ H R → t σ H R) : PI X tg it t' := ⟨fun pins s σ H R I q => h.run pins s σ H R I (f σ H R q)⟩
end

section
variable {D : Pd} {C : Calls} {W : WX} {env : Sk.Env} {σ : St} {c : Cf} {H : Hp} {α : Type}
theorem to_tE {a : ME} {f : PV → Sk.M α} {k : α → Cf → Hp → Prop} {Q : VK} (r : Rel D.T.K env c σ H) (h : tM D.T W env σ c H (Sk.bnd (Sk.ev D.G C a env) f) k)
    (q : ∀ v c1 H1 u, Rel D.T.K env c1 σ H1 → Ext c H c1 H1 → RV D.T.K c1 u v → tM D.T W env σ c1 H1 (f v) k → Q u H1) : tE D C W a σ H Q :=
  ⟨env, c, r, tM_mono (tM_bnd h) fun v c1 H1 r1 x1 h1 u rv => q v c1 H1 u r1 x1 rv h1⟩
theorem to_tB {a : ME} {f : PV → Sk.M α} {k : α → Cf → Hp → Prop} {Q : VK} (r : Rel D.T.K env c σ H) (h : tM D.T W env σ c H (Sk.bnd (Sk.bor a (Sk.ev D.G C a env) env) f) k)
    (q : ∀ v c1 H1 u, Rel D.T.K env c1 σ H1 → Ext c H c1 H1 → RB D.T.K c1 H1 u v → tM D.T W env σ c1 H1 (f v) k → Q u H1) : tB D C W a σ H Q :=
  ⟨env, c, r, tM_mono (tM_bnd h) fun v c1 H1 r1 x1 h1 u rv => q v c1 H1 u r1 x1 rv h1⟩
theorem to_tA {a : MEs} {f : List PV → Sk.M α} {k : α → Cf → Hp → Prop} {Q : List V → Hp → Prop} (r : Rel D.T.K env c σ H) (h : tM D.T W env σ c H (Sk.bnd (Sk.evs D.G C a env) f) k)
    (q : ∀ v c1 H1 u, Rel D.T.K env c1 σ H1 → Ext c H c1 H1 → RVs D.T.K c1 u v → tM D.T W env σ c1 H1 (f v) k → Q u H1) : tA D C W a σ H Q :=
  ⟨env, c, r, tM_mono (tM_bnd h) fun v c1 H1 r1 x1 h1 u rv => q v c1 H1 u r1 x1 rv h1⟩
theorem to_tAB {a : MEs} {f : List PV → Sk.M α} {k : α → Cf → Hp → Prop} {Q : List V → Hp → Prop} (r : Rel D.T.K env c σ H) (h : tM D.T W env σ c H (Sk.bnd (Sk.evsB D.G C a env) f) k)
    (q : ∀ v c1 H1 u, Rel D.T.K env c1 σ H1 → Ext c H c1 H1 → RBs D.T.K c1 H1 u v → tM D.T W env σ c1 H1 (f v) k → Q u H1) : tAB D C W a σ H Q :=
  ⟨env, c, r, tM_mono (tM_bnd h) fun v c1 H1 r1 x1 h1 u rv => q v c1 H1 u r1 x1 rv h1⟩
theorem to_tO {a : MO} {f : Option Int → Sk.M α} {k : α → Cf → Hp → Prop} {Q : Option Int → Hp → Prop} (r : Rel D.T.K env c σ H) (h : tM D.T W env σ c H (Sk.bnd (Sk.evO D.G C a env) f) k)
    (q : ∀ v c1 H1, Rel D.T.K env c1 σ H1 → Ext c H c1 H1 → tM D.T W env σ c1 H1 (f v) k → Q v H1) : tOp' D C W a σ H Q :=
  ⟨env, c, r, tM_mono (tM_bnd h) fun v c1 H1 r1 x1 h1 => q v c1 H1 r1 x1 h1⟩
theorem to_tT {a : ME} {f : Bool → Sk.M α} {k : α → Cf → Hp → Prop} {Q : Bool → Hp → Prop} (r : Rel D.T.K env c σ H) (h : tM D.T W env σ c H (Sk.bnd (Sk.evT D.G C a env) f) k)
    (q : ∀ v c1 H1, Rel D.T.K env c1 σ H1 → Ext c H c1 H1 → tM D.T W env σ c1 H1 (f v) k → Q v H1) : tT D C W a σ H Q :=
  ⟨env, c, r, tM_mono (tM_bnd h) fun v c1 H1 r1 x1 h1 => q v c1 H1 r1 x1 h1⟩

theorem Ext.gone {c c' : Cf} {H H' : Hp} (x : Ext c H c' H') {a : Addr} (h : H' a = none) : H a = none := by
  cases e : H a with
  | none => rfl
  | some o =>
    obtain ⟨o', e'⟩ := x.there a o e
    rw [h] at e'; cases e'
/-- a new list of the frame's is handed out -/
theorem share {K : PySem.W.Frag} {c c' : Cf} {H H' : Hp} {a : Addr} {vs : List V} (r : Rel K env c σ H) (r' : Rel K env c' σ H') (x : Ext c H c' H') (h1 : H' a = some (.lst vs)) (h2 : c'.G a = none) (h3 : a ∉ c'.io) (h4 : H a = none) :
    Rel K env { c' with G := upd c'.G a (.lst vs) } σ H' ∧ Ext c H { c' with G := upd c'.G a (.lst vs) } H' := by
  have hg : Sub c'.G (upd c'.G a (.lst vs)) := sub_upd h2
  have hn : c.G a = none := by
    cases e : c.G a with
    | none => rfl
    | some o => rw [r.base.sub a o e] at h4; cases h4
  refine ⟨⟨⟨fun b u e => ?_, fun b z => ?_, r'.base.st, r'.base.zs⟩, r'.len, fun i s e => ?_, r'.own⟩, ⟨x.io, fun b u e => hg b u (x.g b u e), x.keep, x.there, fun b u e n => ?_, x.new, x.z⟩⟩
  · have e' : upd c'.G a (.lst vs) b = some u := e
    by_cases q : b = a
    · subst q; rw [upd_same] at e'; cases e'; exact h1
    · rw [upd_ne q] at e'; exact r'.base.sub b u e'
  · have q : b ≠ a := fun q => h3 (q ▸ z)
    obtain ⟨k1, k2⟩ := r'.base.io b z
    exact ⟨by show upd c'.G a (.lst vs) b = none; rw [upd_ne q]; exact k1, k2⟩
  · have k := r'.slot i s e
    have k0 := r.slot i s e
    cases s with
    | un => exact trivial
    | sh p =>
      cases ho : σ[i]?.join with
      | none => rw [ho] at k; exact k.elim
      | some v =>
        rw [ho] at k
        cases p with
        | ref n => exact k
        | _ => exact DP.sub hg k
    | ow qs =>
      cases ho : σ[i]?.join with
      | none => rw [ho] at k; exact k.elim
      | some v =>
        rw [ho] at k k0
        obtain ⟨b, ws, e1, g1, g2, g3, g4, g5⟩ := k
        obtain ⟨b', ws', e1', g1', _⟩ := k0
        rw [e1] at e1'
        cases e1'
        have q : b ≠ a := fun q => by rw [q, h4] at g1'; cases g1'
        exact ⟨b, ws, e1, g1, by show upd c'.G a (.lst vs) b = none; rw [upd_ne q]; exact g2, g3, DPs.sub hg g4, g5⟩
    | ex p =>
      cases ho : σ[i]?.join with
      | none => rw [ho] at k; exact k.elim
      | some v => exact trivial
  · have q : b ≠ a := fun q => by rw [q, h4] at e; cases e
    show upd c'.G a (.lst vs) b = none
    rw [upd_ne q]; exact x.no b u e n
theorem Fin.of {T : Px} {u : PV} {fr : Bool} {c' : Cf} {H' : Hp} {Q : VK} (r : Rel T.K env c σ H) (r' : Rel T.K env c' σ H') (x : Ext c H c' H')
    (h : ∀ c2 H2, c2.st = c'.st → Rel T.K env c2 σ H2 → Ext c H c2 H2 → ∀ v, RV T.K c2 v u → Q v H2) : Fin T H u fr c' H' Q := by
  cases u with
  | lst ps =>
    cases fr with
    | true =>
      intro a vs h1 h2 h3 h4 d
      obtain ⟨r2, x2⟩ := share r r' x h1 h2 h3 h4
      exact h { c' with G := upd c'.G a (.lst vs) } H' rfl r2 x2 _ (.lst (.inl (.inl upd_same)) (DPs.sub (sub_upd h2) d))
    | false => exact h c' H' rfl r' x
  | _ => exact h c' H' rfl r' x
theorem tE_tP {e : ME} {Q : VK} (h : tE D C W e σ H Q) : tP D C W e σ H Q := by
  obtain ⟨env, c, r, h⟩ := h
  exact ⟨env, c, r, tM_monoX h fun v c' H' r' x' k => Fin.of r r' x' fun c2 H2 e2 r2 x2 => k c2 H2 e2 r2 x2⟩
theorem Fin.pst {T : Px} {u : PV} {c2 : Cf} {H2 : Hp} {Q : VK} (r2 : Rel T.K env c2 σ H2) (x : Ext c H c2 H2) (h : tM T W env σ c2 H2 (Sk.rt u) fun v c' H' => Fin T H v true c' H' Q) : Pst T c2 H2 u Q := by
  cases u with
  | lst ps =>
    intro p vs hp _ d
    exact tM_rtX h rfl (r2.ext (Ext.mkO hp) (r2.base.mkO hp)) (Ext.mkO hp) p vs upd_same (r2.base.fresh hp) (r2.base.noio hp) (x.gone hp) d
  | _ => exact fun c' H' e b y v rv => tM_rtX h e (r2.ext y b) y v rv
theorem aft_of {T : Px} {u : PV} {Q : VK} (r : Rel T.K env c σ H) (h : tM T W env σ c H (Sk.rt u) fun v c' H' => ∀ z, RV T.K c' z v → Q z H') : Aft T c H u Q := fun c' H' e b y v rv => tM_rtX h e (r.ext y b) y v rv
theorem tE_of_tF {e : ME} {Q : VK} (hf : ∀ env, Sk.evF D.G C e env = Sk.bnd (Sk.ev D.G C e env) fun v => Sk.opt (Sk.lstOf v)) (h : tF D C W e σ H Q) : tP D C W e σ H Q := by
  obtain ⟨env, c, r, h⟩ := h
  rw [hf] at h
  refine ⟨env, c, r, tM_mono (tM_bnd h) fun v c1 H1 r1 x1 h1 => ?_⟩
  obtain ⟨xs, e1, h2⟩ := tM_opt h1
  cases v <;> simp [Sk.lstOf] at e1
  subst e1
  exact tM_rt h2 r1
theorem var_at {K : PySem.W.Frag} {s : Slot} {i : Nat} (r : Rel K env c σ H) (e : env[i]? = some s) (h : s ≠ .un) : ∃ v, σ[i]? = some (some v) ∧ SlotOk K c H s (some v) := by
  have k := r.slot i s e
  cases ho : σ[i]?.join with
  | none => rw [ho] at k; cases s <;> first | exact absurd rfl h | exact k.elim
  | some v =>
    rw [ho] at k
    refine ⟨v, ?_, k⟩
    cases hs : σ[i]? with
    | none => rw [hs] at ho; cases ho
    | some o => rw [hs] at ho; cases o <;> first | cases ho; rfl | cases ho
theorem tE_var {i : Nat} {Q : VK} (h : tE D C W (.var i) σ H Q) : tVar i σ H Q := by
  obtain ⟨env, c, r, h⟩ := h
  obtain ⟨p, e, h1⟩ := tM_opt (show tM D.T W env σ c H (Sk.opt (Sk.shOf env[i]?)) _ from h)
  cases hs : env[i]? with
  | none => rw [hs] at e; cases e
  | some s =>
    rw [hs] at e
    cases s <;> simp only [Sk.shOf] at e <;> cases e
    obtain ⟨v, e1, k⟩ := var_at r hs (fun z => nomatch z)
    exact ⟨v, e1, tM_rt h1 r v k⟩
theorem tB_var {i : Nat} {Q : VK} (h : tB D C W (.var i) σ H Q) : tVar i σ H Q := by
  obtain ⟨env, c, r, h⟩ := h
  obtain ⟨p, e, h1⟩ := tM_opt (show tM D.T W env σ c H (Sk.opt (Sk.boOf env[i]?)) _ from h)
  cases hs : env[i]? with
  | none => rw [hs] at e; cases e
  | some s =>
    rw [hs] at e
    cases s <;> simp only [Sk.boOf] at e <;> cases e
    · obtain ⟨v, e1, k⟩ := var_at r hs (fun z => nomatch z)
      exact ⟨v, e1, tM_rt h1 r v (.inl k)⟩
    · obtain ⟨v, e1, k⟩ := var_at r hs (fun z => nomatch z)
      obtain ⟨a, vs, e2, g1, g2, g3, g4, g5⟩ := k
      exact ⟨v, e1, tM_rt h1 r v (.inr ⟨a, vs, _, rfl, e2, g1, g2, g3, g4⟩)⟩
theorem tB_tE {e : ME} {Q : VK} (hv : ∀ i, e ≠ .var i) (h : tB D C W e σ H Q) : tE D C W e σ H Q := by
  obtain ⟨env, c, r, h⟩ := h
  have hb : Sk.evB D.G C e env = Sk.ev D.G C e env := by
    cases e <;> first | rfl | exact absurd rfl (hv _)
  rw [hb] at h
  exact ⟨env, c, r, tM_mono h fun v c' H' r' x' k u rv => k u (.inl rv)⟩
end

/-! ### truth -/
theorem truV_of {K : PySem.W.Frag} {c : Cf} {H : Hp} {v : V} {p : PV} {k : Bool} (b : Base K c H) (h : RB K c H v p) (e : Sk.truthy p = some k) : TruV K v H k := by
  cases p <;> simp only [Sk.truthy] at e <;> cases e
  · cases h.non; exact rfl
  · cases h.bl; exact rfl
  · cases h.int; exact rfl
  · obtain ⟨a, vs, rfl, g1, g2, d⟩ := h.tup b
    refine .inr (.inl ⟨vs, g1, ?_⟩)
    cases d <;> rfl
  · obtain ⟨a, vs, rfl, g1, d⟩ := h.lst b
    refine .inl ⟨vs, g1, ?_⟩
    cases d <;> rfl
theorem un_not {X : Cx} : UnR X (unaryOp .Not) (fun x H Q => ∃ k, TruV X.K x H k ∧ Q (.bl (!k)) H) := by
  intro pins s σ H x v Q I rx h
  obtain ⟨k, t, q⟩ := h
  exact PyProof.Rows.not_of (thn (tru_ok pins s σ H x v (fun b H' => Q (.bl (!b)) H') I rx ⟨k, t, q⟩) fun b s1 ⟨H1, I1, q1⟩ => ⟨.bl (!b), H1, I1, rfl, q1⟩)
end SkB

set_option Elab.async false
set_option linter.all false
set_option maxRecDepth 100000
/-! Part B6: iterators; the checker of expressions. -/
namespace SkB
open PySem PySem.Spec L2
open Sk (PV ME MEs MO MI MP MS MSs Slot Sto Out Fl Calls FD BO CO Bi Ty)

/-! ### the checker -/
def visB (sc : Scope) (x : Str) : Bool := match sc.names.lookup x with
  | some .local => true
  | some .cell => true
  | some .free => true
  | _ => false
def glB (sc : Scope) (x : Str) : Bool := match sc.names.lookup x with
  | some .globalImplicit => !(x == ("__debug__" : Str))
  | _ => false
def stB (sc : Scope) (x : Str) : Bool := match sc.names.lookup x with
  | some .local => true
  | some .cell => true
  | _ => false
def bltN : Bi → Str
  | .len => "len"
  | .tuple => "tuple"
  | .list => "list"
  | .int => "int"
  | .abs => "abs"
  | .min => "min"
  | .max => "max"
  | .sum => "sum"
  | .sorted => "sorted"
  | _ => "len"
def tyN : Ty → Str
  | .int => "int"
  | .bool => "bool"
  | .str => "str"
  | .tuple => "tuple"
  | .list => "list"
  | .intstr => "int"
  | .tuplist => "list"
def tyS : Ty → String
  | .int => "int"
  | .bool => "bool"
  | .str => "str"
  | .tuple => "tuple"
  | .list => "list"
  | .intstr => "int"
  | .tuplist => "list"
def bopB : BO → Operator → Bool
  | .add, .Add => true
  | .sub, .Sub => true
  | .mul, .Mult => true
  | .fdiv, .FloorDiv => true
  | .mod, .Mod => true
  | .pow, .Pow => true
  | _, _ => false
def copB : CO → CmpOp → Bool
  | .eq, .Eq => true
  | .ne, .NotEq => true
  | .lt, .Lt => true
  | .le, .LtE => true
  | .gt, .Gt => true
  | .ge, .GtE => true
  | .inn, .In => true
  | .nin, .NotIn => true
  | .is, .Is => true
  | .isn, .IsNot => true
  | _, _ => false
theorem bopB_eq {o : BO} {p : Operator} (h : bopB o p = true) : p = bop o := by
  cases o <;> cases p <;> first | rfl | cases h
theorem copB_eq {o : CO} {p : CmpOp} (h : copB o p = true) : p = cop o := by
  cases o <;> cases p <;> first | rfl | cases h
def isRg : MI → Bool
  | .rg1 _ => true
  | .rg2 _ _ => true
  | _ => false
def isSet : Expr → Bool
  | .Set _ _ _ => true
  | _ => false
section
variable (fn gl : Nat → Option Str) (N : List Str)
def nmB (x : Str) (i : Nat) : Bool := decide (N[i]? = some x)
/-- the own names of a block, with their places -/
def ownOf (scope : Scope) : List (Str × Nat) := scope.names.filterMap fun y => match y.2 with
  | .local => (N.findIdx? (· == y.1)).map fun i => (y.1, i)
  | .cell => (N.findIdx? (· == y.1)).map fun i => (y.1, i)
  | _ => none
def tgsB (scope : Scope) : List Nat → List Expr → Bool
  | [], [] => true
  | i :: is, .Name x _ :: es => nmB N x i && stB scope x && tgsB scope is es
  | _, _ => false
def tgB (scope : Scope) : MP → Expr → Bool
  | .nm i, .Name x _ => nmB N x i && stB scope x
  | .tp is, .Tuple es _ _ => tgsB N scope is es && decide (is.Nodup)
  | _, _ => false
def slotsP : MP → List Nat
  | .nm i => [i]
  | .tp is => is
def sameB (a b : List Nat) : Bool := a.all (fun i => decide (i ∈ b)) && b.all fun i => decide (i ∈ a)
mutual
def chkE : ME → Scope → Expr → Bool
  | .var i, sc, x => match x with
    | .Name n _ => nmB N n i && visB sc n && !(n == ("__debug__" : Str)) && !(n == ("__classdict__" : Str))
    | _ => false
  | .int i, _, x => match x with
    | .Constant (.int j) _ _ => i == j
    | _ => false
  | .bl b, _, x => match x with
    | .Constant (.bool j) _ _ => b == j
    | _ => false
  | .non, _, x => match x with
    | .Constant .none _ _ => true
    | _ => false
  | .str s, _, x => match x with
    | .Constant (.str j) _ _ => decide (s = j)
    | _ => false
  | .glo g, sc, x => match x with
    | .Name n _ => decide (gl g = some n) && glB sc n
    | _ => false
  | .bin op a b, sc, x => match x with
    | .BinOp a' op' b' _ => bopB op op' && chkE a sc a' && chkE b sc b'
    | _ => false
  | .neg a, sc, x => match x with
    | .UnaryOp .USub a' _ => chkE a sc a'
    | _ => false
  | .not a, sc, x => match x with
    | .UnaryOp .Not a' _ => chkE a sc a'
    | _ => false
  | .and a b, sc, x => match x with
    | .BoolOp .And (a' :: b' :: r) p => chkE a sc a' && (match r with
      | [] => chkE b sc b'
      | _ => chkE b sc (.BoolOp .And (b' :: r) p))
    | _ => false
  | .or a b, sc, x => match x with
    | .BoolOp .Or (a' :: b' :: r) p => chkE a sc a' && (match r with
      | [] => chkE b sc b'
      | _ => chkE b sc (.BoolOp .Or (b' :: r) p))
    | _ => false
  | .cmp op a b, sc, x => match x with
    | .Compare a' [op'] [b'] _ => copB op op' && chkE a sc a' && chkE b sc b' && !(behindInMarks op' b')
    | _ => false
  | .chain op1 op2 a b c, sc, x => match x with
    | .Compare a' [o1, o2] [b', c'] _ => copB op1 o1 && copB op2 o2 && chkE a sc a' && chkE b sc b' && chkE c sc c' && !(lastMarks [o1, o2] [b', c'])
    | _ => false
  | .idx a i, sc, x => match x with
    | .Subscript a' i' _ => chkE a sc a' && chkE i sc i'
    | _ => false
  | .sli a lo hi, sc, x => match x with
    | .Subscript a' (.Slice lo' hi' none _) _ => chkE a sc a' && chkO lo sc lo' && chkO hi sc hi'
    | _ => false
  | .tup es, sc, x => match x with
    | .Tuple es' _ _ => chkEs es sc es'
    | _ => false
  | .lst es, sc, x => match x with
    | .List es' _ => chkEs es sc es'
    | _ => false
  | .call f es, sc, x => match x with
    | .Call (.Name n _) (e' :: es') [] _ => decide (fn f = some n) && glB sc n && chkEs es sc (e' :: es')
    | _ => false
  | .blt b es, sc, x => match x with
    | .Call (.Name n _) (e' :: es') [] _ => decide (n = bltN b) && glB sc n && chkEs es sc (e' :: es')
    | _ => false
  | .isi a t, sc, x => match x with
    | .Call (.Name n _) [a', .Name m _] [] _ => decide (n = "isinstance") && decide (m = tyN t) && glB sc n && glB sc m && chkE a sc a'
    | _ => false
  | .comp elt p it cond, sc, x => match x with
    | .ListComp elt' [⟨tg, iter, ifs, 0⟩] scope _ => chkI it sc iter && tgB N scope p tg && chkC cond (relS scope sc) ifs && chkE elt (relS scope sc) elt' && blkC N sc scope (ownOf N scope) && sameB ((ownOf N scope).map (·.2)) (slotsP p) && !(isSet iter)
    | _ => false
  | .rgt it, sc, x => match x with
    | .Call (.Name n _) [y] [] _ => decide (n = "tuple") && glB sc n && isRg it && chkI it sc y
    | _ => false
  | .rgl it, sc, x => match x with
    | .Call (.Name n _) [y] [] _ => decide (n = "list") && glB sc n && isRg it && chkI it sc y
    | _ => false
  | _, _, _ => false
def chkEs : MEs → Scope → List Expr → Bool
  | .nil, _, xs => match xs with
    | [] => true
    | _ => false
  | .cons e es, sc, xs => match xs with
    | x :: xs => chkE e sc x && chkEs es sc xs
    | _ => false
def chkO : MO → Scope → Option Expr → Bool
  | .no, _, x => match x with
    | none => true
    | _ => false
  | .so e, sc, x => match x with
    | some y => chkE e sc y
    | _ => false
def chkC : MO → Scope → List Expr → Bool
  | .no, _, x => match x with
    | [] => true
    | _ => false
  | .so e, sc, x => match x with
    | [y] => chkE e sc y
    | _ => false
def chkI : MI → Scope → Expr → Bool
  | .seq e, sc, x => chkE e sc x
  | .rg1 a, sc, x => match x with
    | .Call (.Name n _) [a'] [] _ => decide (n = "range") && glB sc n && chkE a sc a'
    | _ => false
  | .rg2 a b, sc, x => match x with
    | .Call (.Name n _) [a', b'] [] _ => decide (n = "range") && glB sc n && chkE a sc a' && chkE b sc b'
    | _ => false
  | _, _, _ => false
end
end

/-! ### small facts -/
theorem visB_of {sc : Scope} {x : Str} (h : visB sc x = true) : Vis sc x := by
  unfold visB at h
  unfold Vis
  split at h <;> first | (rename_i e; exact .inl e) | (rename_i e; exact .inr (.inl e)) | (rename_i e; exact .inr (.inr e)) | cases h
theorem glB_of {X : Cx} {x : Str} (h : glB X.env.scope x = true) : Gl X x ∧ (x == ("__debug__" : Str)) = false := by
  unfold glB at h
  split at h
  · rename_i e
    exact ⟨e, by simpa using h⟩
  · cases h
theorem stB_of {sc : Scope} {x : Str} (h : stB sc x = true) : sc.names.lookup x = some .local ∨ sc.names.lookup x = some .cell := by
  unfold stB at h
  split at h <;> first | (rename_i e; exact .inl e) | (rename_i e; exact .inr e) | cases h
theorem nmB_of {N : List Str} {x : Str} {i : Nat} (h : nmB N x i = true) : N[i]? = some x := of_decide_eq_true h
def noStar : Expr → Bool
  | .Starred _ _ => false
  | _ => true
theorem chkE_star {fn gl : Nat → Option Str} {N : List Str} {sc : Scope} : ∀ {e : ME} {x : Expr}, chkE fn gl N e sc x = true → noStar x = true
  | e, x, h => by
    cases x <;> try rfl
    cases e <;> simp [chkE] at h
theorem star_cons {x : Expr} {xs : List Expr} {env : Env} (h : noStar x = true) : starEach (x :: xs) env = (false, eval x env) :: starEach xs env := by
  cases x <;> first | rfl | cases h
theorem star_any {fn gl : Nat → Option Str} {N : List Str} {sc : Scope} {env : Env} {pos : Pos} : ∀ {es : MEs} {xs : List Expr}, chkEs fn gl N es sc xs = true → (backTo pos (starEach xs env)).any (·.1) = false
  | .nil, [], _ => rfl
  | .nil, _ :: _, h => by cases h
  | .cons _ _, [], h => by cases h
  | .cons e es, x :: xs, h => by
    simp only [chkEs, Bool.and_eq_true] at h
    rw [star_cons (chkE_star h.1)]
    show (false || (backTo pos (starEach xs env)).any (·.1)) = false
    rw [star_any h.2]; rfl
theorem plainIx_of {fn gl : Nat → Option Str} {N : List Str} {sc : Scope} : ∀ {e : ME} {x : Expr}, chkE fn gl N e sc x = true → PlainIx x
  | e, x, h => by
    cases x <;> try (intro o i; rfl)
    cases e <;> simp [chkE] at h
end SkB

set_option Elab.async false
set_option linter.all false
set_option maxRecDepth 100000
/-! Part B7: iterators, targets. -/
namespace SkB
open PySem PySem.Spec L2
open Sk (PV ME MEs MO MI MP MS MSs Slot Sto Out Fl Calls FD BO CO Bi Ty)

/-- what a body may lean on -/
structure Gd (D : Pd) (C : Calls) (k : Nat) (X : Cx) : Prop where
  hK : X.K = D.T.K
  hu : X.A.units + 300 < cLine
  room : Room k X.A
  calm : X.calm = true
  nd : X.N.Nodup
  fns : ∀ f x, D.fn f = some x → ∃ a fd ps, X.mg x = some (.ref a) ∧ PySem.W.keepIn X.K (.ref a) = true ∧ Binds X.K fd ps [] ∧ FnOk X.prog X.w X.K X.mg X.base (L2.CX X.prog X.w) k a fd ps (spI D.T C f)
  glo : ∀ g x v, D.gl g = some x → D.G g = some v → ∃ u z, X.mg x = some u ∧ RelV z u ∧ ∀ H, DP D.T.K H z v
  blt : ∀ b, X.mg (bltN b) = none
  tys : ∀ t, X.mg (tyN t) = none
  isi : X.mg "isinstance" = none
  rng : X.mg "range" = none
theorem Gd.blk {D : Pd} {C : Calls} {k : Nat} {X : Cx} (g : Gd D C k X) (s : Shared) (H : Hp) (scope : Scope) (cenv : Env) (fp : List Addr) : Gd D C k (X.blk s H scope cenv fp) :=
  ⟨g.hK, g.hu, g.room, g.calm, g.nd, g.fns, g.glo, g.blt, g.tys, g.isi, g.rng⟩

/-! ### iterators -/
/-- over a list, a tuple, a text -/
def iSeq (K : PySem.W.Frag) (tl : TE) : TI := fun σ H R => tl σ H fun x H1 =>
  (∃ a xs, x = .ref a ∧ SqL K H1 a xs ∧ (xs.length ≤ sizeLine → R (Itl K a) H1)) ∨ (∃ a xs, x = .ref a ∧ SqT K H1 a xs ∧ (xs.length ≤ sizeLine → R (Itt K a) H1)) ∨ ∃ z, x = .str z ∧ R (Its z) H1
theorem pi_seq {X : Cx} {tg l : Expr} {tl : TE} (hl : PE X l tl) : PI X tg l (iSeq X.K tl) := by
  constructor
  intro pins s σ H R I h
  refine thn (hl.run pins s σ H _ I h) ?_
  rintro v s1 ⟨y, H1, I1, ry, ⟨a, xs, rfl, hq, q⟩ | ⟨a, xs, rfl, hq, q⟩ | ⟨z, rfl, q⟩⟩
  · cases ry
    obtain ⟨us, rv, pl, hz⟩ := I1.list hq
    exact wpAny_pyIter_list pl.isList (pi_one (tk := s1.toks) I1 _ (turn_list a _) ⟨_, Heap.get?_push_size _ rfl, rfl, rfl⟩ (q hz))
  · cases ry
    obtain ⟨us, rv, pl, hz⟩ := I1.tuple hq
    exact wpAny_pyIter_tuple (show s1.heap.IsTuple a us.toArray from pl) (pi_one (tk := s1.toks) I1 _ (turn_tuple a _) ⟨_, Heap.get?_push_size _ rfl, rfl, rfl⟩ (q hz))
  · obtain ⟨tk, rfl⟩ := ry
    by_cases ha : z.cps.all (· < 128) = true
    · exact wpAny_pyIter_ascii ha (pi_one (tk := s1.toks) I1 _ (turn_str _ z tk "str_ascii_iterator" (.inl rfl)) ⟨_, Heap.get?_push_size _ rfl, rfl, rfl⟩ q)
    · exact wpAny_pyIter_wide (by simpa using ha) (pi_one (tk := s1.toks) I1 _ (turn_str _ z tk "str_iterator" (.inr rfl)) ⟨_, Heap.get?_push_size _ rfl, rfl, rfl⟩ q)
section
variable {K : PySem.W.Frag} {R : Cf → Hp → Prop} {c : Cf}
theorem wk_list {a : Addr} {vs : List V} {ps : List PV} (d : DPs K c.G vs ps) (hz : vs.length ≤ sizeLine) (hl : ∀ c' H', Base K c' H' → R c' H' → SqL K H' a vs ∧ Sub c.G c'.G) : Wk K R (Itl K a) ps := by
  refine ⟨by rw [← DPs.len d]; exact hz, fun c' H' b r => ?_, fun c' H' i p b r e => ?_, fun c' H' i p x H2 b r e y => ?_⟩
  · exact ⟨vs, (hl c' H' b r).1, by rw [DPs.len d]; exact Nat.le_refl _⟩
  · obtain ⟨v, e1, _⟩ := DPs.at d e
    exact ⟨vs, v, (hl c' H' b r).1, e1⟩
  · obtain ⟨h1, h2⟩ := hl c' H' b r
    obtain ⟨v, e1, dv⟩ := DPs.at d e
    have := y.2 vs h1
    rw [e1] at this
    cases this
    exact ⟨y.1, DP.sub h2 dv⟩
theorem wk_tup {a : Addr} {vs : List V} {ps : List PV} (d : DPs K c.G vs ps) (hz : vs.length ≤ sizeLine) (hl : ∀ c' H', Base K c' H' → R c' H' → SqT K H' a vs ∧ Sub c.G c'.G) : Wk K R (Itt K a) ps := by
  refine ⟨by rw [← DPs.len d]; exact hz, fun c' H' b r => ?_, fun c' H' i p b r e => ?_, fun c' H' i p x H2 b r e y => ?_⟩
  · exact ⟨vs, (hl c' H' b r).1, by rw [DPs.len d]; exact Nat.le_refl _⟩
  · obtain ⟨v, e1, _⟩ := DPs.at d e
    exact ⟨vs, v, (hl c' H' b r).1, e1⟩
  · obtain ⟨h1, h2⟩ := hl c' H' b r
    obtain ⟨v, e1, dv⟩ := DPs.at d e
    have := y.2 vs h1
    rw [e1] at this
    cases this
    exact ⟨y.1, DP.sub h2 dv⟩
theorem wk_rng {lo : Int} {n : Nat} (hn : n ≤ sizeLine) : Wk K R (Itr lo n) (Sk.rng lo n) := by
  have at_ : ∀ {i : Nat} {p : PV}, (Sk.rng lo n)[i]? = some p → i < n ∧ p = .int (lo + (i : Int)) := fun {i p} e => by
    unfold Sk.rng at e
    rw [List.getElem?_map] at e
    cases h : (List.range n)[i]? with
    | none => rw [h] at e; cases e
    | some j =>
      rw [h] at e
      obtain ⟨h1, h2⟩ := List.getElem?_eq_some_iff.mp h
      rw [List.length_range] at h1
      rw [List.getElem_range] at h2
      subst h2
      exact ⟨h1, (Option.some.inj e).symm⟩
  have hlen : (Sk.rng lo n).length = n := by unfold Sk.rng; rw [List.length_map, List.length_range]
  refine ⟨by rw [hlen]; exact hn, fun c' H' b r => ?_, fun c' H' i p b r e => (at_ e).1, fun c' H' i p x H2 b r e y => ?_⟩
  · rw [hlen]; exact Nat.le_refl _
  · obtain ⟨h1, h2⟩ := y
    subst h2
    rw [(at_ e).2]
    exact ⟨h1, .int _⟩
theorem wk_str {z : Str} (hz : z.length ≤ sizeLine) : Wk K R (Its z) (z.cps.toList.map fun ch => PV.str ⟨#[ch]⟩) := by
  have hlen : (z.cps.toList.map fun ch => PV.str ⟨#[ch]⟩).length = z.cps.size := by simp
  refine ⟨by rw [hlen]; exact hz, fun c' H' b r => by rw [hlen]; exact Nat.le_refl _, fun c' H' i p b r e => ?_, fun c' H' i p x H2 b r e y => ?_⟩
  · obtain ⟨h1, _⟩ := List.getElem?_eq_some_iff.mp e
    rw [hlen] at h1; exact h1
  · obtain ⟨h1, ch, h2, h3⟩ := y
    subst h3
    rw [List.getElem?_map] at e
    rw [Array.getElem?_toList, h2] at e
    cases e
    exact ⟨h1, .str _⟩
end

/-! ### targets -/
/-- the slots outside of S are as they should be -/
structure RelX (K : PySem.W.Frag) (S : List Nat) (env : Sk.Env) (c : Cf) (σ : St) (H : Hp) : Prop where
  base : Base K c H
  len : env.length = σ.length
  slot : ∀ (i : Nat) (s : Slot), i ∉ S → env[i]? = some s → SlotOk K c H s (σ[i]?.join)
  own : ∀ (i j : Nat) (xs ys : List PV) (a : Addr), i ∉ S → j ∉ S → i ≠ j → env[i]? = some (.ow xs) → env[j]? = some (.ow ys) → σ[i]?.join = some (.ref a) → σ[j]?.join ≠ some (.ref a)
section
variable {K : PySem.W.Frag} {env : Sk.Env} {σ : St} {c : Cf} {H : Hp} {S : List Nat}
theorem Rel.x (r : Rel K env c σ H) {σ' : St} (hl : σ'.length = σ.length) (hs : ∀ i, i ∉ S → σ'[i]? = σ[i]?) : RelX K S env c σ' H :=
  ⟨r.base, r.len.trans hl.symm, fun i s n e => by rw [hs i n]; exact r.slot i s e, fun i j xs ys a ni nj ne e1 e2 e3 => by rw [hs j nj]; rw [hs i ni] at e3; exact r.own i j xs ys a ne e1 e2 e3⟩
theorem RelX.rel (r : RelX K [] env c σ H) : Rel K env c σ H := ⟨r.base, r.len, fun i s e => r.slot i s (by simp) e, fun i j xs ys a ne e1 e2 e3 => r.own i j xs ys a (by simp) (by simp) ne e1 e2 e3⟩
theorem RelX.set {i : Nat} {v : V} {p : PV} (r : RelX K (i :: S) env c σ H) (h : RV K c v p) : RelX K S (env.set i (.sh p)) c (σ.set i (some v)) H := by
  refine ⟨r.base, by rw [List.length_set, List.length_set]; exact r.len, fun j s n e => ?_, fun j l xs ys a nj nl ne e1 e2 e3 => ?_⟩
  · by_cases q : j = i
    · subst q
      have hlt : j < env.length := by
        have := (List.getElem?_eq_some_iff.mp e).1
        rwa [List.length_set] at this
      rw [List.getElem?_set_self hlt] at e
      cases e
      rw [List.getElem?_set_self (by rw [← r.len]; exact hlt)]
      exact h
    · rw [List.getElem?_set_ne (Ne.symm q)] at e ⊢
      exact r.slot j s (fun z => (List.mem_cons.mp z).elim q n) e
  · have hj : j ≠ i := fun q => by
      subst q
      have hlt : j < env.length := by
        have := (List.getElem?_eq_some_iff.mp e1).1
        rwa [List.length_set] at this
      rw [List.getElem?_set_self hlt] at e1; cases e1
    have hl : l ≠ i := fun q => by
      subst q
      have hlt : l < env.length := by
        have := (List.getElem?_eq_some_iff.mp e2).1
        rwa [List.length_set] at this
      rw [List.getElem?_set_self hlt] at e2; cases e2
    rw [List.getElem?_set_ne (Ne.symm hj)] at e1 e3
    rw [List.getElem?_set_ne (Ne.symm hl)] at e2 ⊢
    exact r.own j l xs ys a (fun z => (List.mem_cons.mp z).elim hj nj) (fun z => (List.mem_cons.mp z).elim hl nl) ne e1 e2 e3
theorem Rel.un (r : Rel K env c σ H) (i : Nat) : Rel K (env.set i .un) c σ H := by
  have old : ∀ {j : Nat} {s : Slot}, (env.set i .un)[j]? = some s → s = .un ∨ env[j]? = some s := fun {j s} e => by
    by_cases q : i = j
    · subst q
      have hlt : i < env.length := by
        have := (List.getElem?_eq_some_iff.mp e).1
        rwa [List.length_set] at this
      rw [List.getElem?_set_self hlt] at e; cases e; exact .inl rfl
    · rw [List.getElem?_set_ne q] at e; exact .inr e
  refine ⟨r.base, by rw [List.length_set]; exact r.len, fun j s e => ?_, fun j l xs ys a ne e1 e2 e3 => ?_⟩
  · rcases old e with rfl | e
    · exact trivial
    · exact r.slot j s e
  · rcases old e1 with z | e1
    · cases z
    · rcases old e2 with z | e2
      · cases z
      · exact r.own j l xs ys a ne e1 e2 e3
theorem Rel.wipe : ∀ (w : List Nat) {env : Sk.Env}, Rel K env c σ H → Rel K (Sk.wipeE w env) c σ H
  | [], _, r => r
  | i :: w, _, r => Rel.wipe w (r.un i)
end
def gNms : List Nat → TGs
  | [] => gNil
  | i :: is => gCons (gName i) (gNms is)
def tgM (K : PySem.W.Frag) : MP → TG
  | .nm i => gName i
  | .tp is => gTup K is.length (gNms is)
section
variable {X : Cx} {scope : Scope}
theorem each_names {env : Env} : ∀ {is : List Nat} {es : List Expr}, tgsB X.N scope is es = true → (assignEach es env).length = is.length ∧ (assignEach es env).findIdx? (·.1) = none
  | [], [], _ => ⟨rfl, rfl⟩
  | [], _ :: _, h => by cases h
  | _ :: _, [], h => by cases h
  | i :: is, x :: es, h => by
    cases x <;> simp only [tgsB] at h <;> try (cases h; done)
    simp only [Bool.and_eq_true] at h
    obtain ⟨e1, e2⟩ := each_names (env := env) h.2
    refine ⟨?_, ?_⟩
    · show (assignEach es env).length + 1 = is.length + 1
      rw [e1]
    · show List.findIdx? (·.1) ((false, _) :: assignEach es env) = none
      rw [List.findIdx?_cons, e2]; rfl
theorem pgs_names (nd : X.N.Nodup) (hL : ∀ x, stB scope x = true → Loc X.env.scope x ∧ (X.fn x = true ∨ X.env.scope.names.lookup x = some .local)) : ∀ {is : List Nat} {es : List Expr}, tgsB X.N scope is es = true → PGs X es (gNms is)
  | [], [], _ => pgs_nil
  | [], _ :: _, h => by cases h
  | _ :: _, [], h => by cases h
  | i :: is, x :: es, h => by
    cases x <;> simp only [tgsB] at h <;> try (cases h; done)
    simp only [Bool.and_eq_true] at h
    obtain ⟨l1, l2⟩ := hL _ h.1.2
    exact pgs_cons (pg_name nd (nmB_of h.1.1) l1 l2) (pgs_names nd hL h.2)
theorem pg_M (hc : X.calm = true) (nd : X.N.Nodup) (hL : ∀ x, stB scope x = true → Loc X.env.scope x ∧ (X.fn x = true ∨ X.env.scope.names.lookup x = some .local)) {p : MP} {x : Expr} (h : tgB X.N scope p x = true) : PG X x (tgM X.K p) := by
  cases p with
  | nm i =>
    cases x <;> simp only [tgB] at h <;> try (cases h; done)
    simp only [Bool.and_eq_true] at h
    obtain ⟨l1, l2⟩ := hL _ h.2
    exact pg_name nd (nmB_of h.1) l1 l2
  | tp is =>
    cases x <;> simp only [tgB] at h <;> try (cases h; done)
    rw [Bool.and_eq_true] at h
    obtain ⟨e1, e2⟩ := each_names (env := X.env) h.1
    exact pg_tup hc (pgs_names nd hL h.1) e1 e2
end
section
variable {K : PySem.W.Frag} {env env' : Sk.Env} {σ : St} {c : Cf} {H : Hp}
theorem nms_ok {Q : St → Hp → Prop} : ∀ {is : List Nat} {vs : List V} {ps : List PV} {env env' : Sk.Env} {σ : St}, is.Nodup → RelX K is env c σ H → DPs K c.G vs ps → Sk.bindEach is ps env = some env' →
    (∀ σ2, Rel K env' c σ2 H → σ2.length = σ.length → (∀ i, i ∉ is → σ2[i]? = σ[i]?) → Q σ2 H) → gNms is vs σ H Q
  | [], vs, ps, env, env', σ, nd, r, d, e, k => by
    cases d with
    | nil =>
      cases e
      exact ⟨rfl, k σ r.rel rfl fun _ _ => rfl⟩
    | cons _ _ => cases e
  | i :: is, vs, ps, env, env', σ, nd, r, d, e, k => by
    cases d with
    | nil => cases e
    | @cons v p vs ps d ds =>
      have nd' := List.nodup_cons.mp nd
      refine ⟨v, vs, rfl, nms_ok nd'.2 (r.set (RV.of d)) ds e fun σ2 r2 hl hs => k σ2 r2 (hl.trans (List.length_set ..)) fun j nj => ?_⟩
      rw [hs j (fun z => nj (List.mem_cons_of_mem _ z)), List.getElem?_set_ne (fun z => nj (by rw [z]; exact List.mem_cons_self ..))]
/-- a target takes a value -/
theorem tg_ok {p : MP} {pv : PV} {x : V} {Q : St → Hp → Prop} (hp : (slotsP p).Nodup) (r : RelX K (slotsP p) env c σ H) (d : DP K c.G x pv) (e : Sk.bindTo p pv env = some env')
    (k : ∀ σ2, Rel K env' c σ2 H → σ2.length = σ.length → (∀ i, i ∉ slotsP p → σ2[i]? = σ[i]?) → Q σ2 H) : tgM K p x σ H Q := by
  cases p with
  | nm i =>
    cases e
    exact k _ (r.set (RV.of d)).rel (List.length_set ..) fun j nj => List.getElem?_set_ne fun z => nj (by rw [z]; exact List.mem_cons_self ..)
  | tp is =>
    cases pv <;> simp only [Sk.bindTo] at e <;> try (cases e; done)
    cases d with
    | tup hs ds =>
      have hlen : ∀ {is : List Nat} {ps : List PV} {env env' : Sk.Env}, Sk.bindEach is ps env = some env' → is.length = ps.length := by
        intro is
        induction is with
        | nil => intro ps env env' e; cases ps <;> first | rfl | cases e
        | cons i is ih =>
          intro ps env env' e
          cases ps with
          | nil => cases e
          | cons p ps => exact congrArg (· + 1) (ih e)
      exact ⟨_, _, rfl, sqt_sub r.base.sub hs, by rw [DPs.len ds, hlen e], nms_ok hp r ds e k⟩
end
end SkB

set_option Elab.async false
set_option linter.all false
set_option maxRecDepth 100000
/-! Part B8: expressions. -/
namespace SkB
open PySem PySem.Spec L2
open Sk (PV ME MEs MO MI MP MS MSs Slot Sto Out Fl Calls FD BO CO Bi Ty)

def WF : WX := fun _ _ _ _ => False
theorem takes_F {X : Cx} : Takes X WF := fun u s' ⟨a, B, sI, pins, σ, H, cls, d, e, I, nb, up, sky, na, os, ag, w⟩ => w.elim

/-! ### computations from a fixed ground -/
def tN {α : Type} (T : Px) (W : WX) (env : Sk.Env) (σ : St) (b : Cf) (Hb : Hp) (st : Sto) (m : Sk.M α) (k : α → Cf → Hp → Prop) : Prop := match m st with
  | .ok a st' => ∀ c' H', c'.st = st' → Rel T.K env c' σ H' → Ext b Hb c' H' → k a c' H'
  | .exn n v st' => ∀ c' H' d, c'.st = st' → Rel T.K env c' σ H' → Ext b Hb c' H' → Exo T c' H' n d v → W (.ref (T.xc n)) (some d) σ H'
  | .bad => False
section
variable {α β : Type} {T : Px} {W : WX} {env : Sk.Env} {σ : St} {b c : Cf} {Hb H : Hp} {st : Sto}
theorem tN_bnd0 {m : Sk.M α} {f : α → Sk.M β} {k : β → Cf → Hp → Prop} (h : tN T W env σ b Hb st (Sk.bnd m f) k) : tN T W env σ b Hb st m fun a c1 _ => tN T W env σ b Hb c1.st (f a) k := by
  unfold tN Sk.bnd at h
  unfold tN
  cases e : m st with
  | ok a st' =>
    rw [e] at h
    intro c1 H1 e1 _ _
    rw [e1]
    exact h
  | exn n v st' => rw [e] at h; exact h
  | bad => rw [e] at h; exact h
theorem tN_tM {m : Sk.M α} {k : α → Cf → Hp → Prop} (h : tN T W env σ b Hb st m k) (e : c.st = st) (x : Ext b Hb c H) : tM T W env σ c H m k := by
  subst e
  unfold tN at h
  unfold tM
  cases e : m c.st with
  | ok a st' => rw [e] at h; exact fun c' H' e1 r1 x1 => h c' H' e1 r1 (x.trans x1)
  | exn n v st' => rw [e] at h; exact fun c' H' d e1 r1 x1 xo => h c' H' d e1 r1 (x.trans x1) xo
  | bad => rw [e] at h; exact h
theorem tN_bnd {m : Sk.M α} {f : α → Sk.M β} {k : β → Cf → Hp → Prop} (h : tN T W env σ b Hb st (Sk.bnd m f) k) (e : c.st = st) (x : Ext b Hb c H) : tM T W env σ c H m fun a c1 _ => tN T W env σ b Hb c1.st (f a) k := tN_tM (tN_bnd0 h) e x
theorem tN_mono {m : Sk.M α} {k k' : α → Cf → Hp → Prop} (h : tN T W env σ b Hb st m k) (f : ∀ a c' H', Rel T.K env c' σ H' → Ext b Hb c' H' → k a c' H' → k' a c' H') : tN T W env σ b Hb st m k' := by
  unfold tN at h ⊢
  cases e : m st with
  | ok a st' => rw [e] at h; exact fun c' H' e1 r x => f a c' H' r x (h c' H' e1 r x)
  | exn n v st' => rw [e] at h; exact h
  | bad => rw [e] at h; exact h
theorem tN_rt {a : α} {k : α → Cf → Hp → Prop} (h : tN T W env σ b Hb st (Sk.rt a) k) (e : c.st = st) (r : Rel T.K env c σ H) (x : Ext b Hb c H) : k a c H := h c H e r x
end

/-! ### an own list is written -/
section
variable {K : PySem.W.Frag} {c b : Cf} {H Hb : Hp} {a : Addr} {o : HO}
theorem Base.own_upd (h : Base K c H) (g : c.G a = none) : Base K c (upd H a o) := by
  refine ⟨fun d u e => ?_, fun d z => ?_, h.st, fun d u e => ?_⟩
  · have q : d ≠ a := fun q => by rw [q, g] at e; cases e
    rw [upd_ne q]; exact h.sub d u e
  · rw [h.st.2] at z; cases z
  · by_cases q : d = a
    · subst q; exact ⟨o, upd_same⟩
    · rw [upd_ne q]; exact h.zs d u e
theorem Ext.own_upd (h : Ext b Hb c H) (n : Hb a = none) : Ext b Hb c (upd H a o) := by
  refine ⟨h.io, h.g, fun d u e ne => ?_, fun d u e => ?_, h.no, h.new, h.z⟩
  · rw [upd_ne (ne_of_none e n)]; exact h.keep d u e ne
  · rw [upd_ne (ne_of_none e n)]; exact h.there d u e
end

/-! ### comprehensions -/
theorem wipe_out {σ : St} {i : Nat} : ∀ {vs : List Nat}, i ∉ vs → (wipe σ vs)[i]? = σ[i]?
  | [], _ => rfl
  | v :: vs, h => by
    have h1 : v ≠ i := fun e => h (by rw [e]; exact List.mem_cons_self ..)
    unfold wipe
    rw [List.getElem?_set_ne h1, wipe_out fun z => h (List.mem_cons_of_mem _ z)]
theorem wipe_in {σ : St} {i : Nat} : ∀ {vs : List Nat}, i ∈ vs → (wipe σ vs)[i]? = if i < σ.length then some none else none
  | v :: vs, h => by
    unfold wipe
    by_cases e : v = i
    · subst e
      by_cases hl : v < σ.length
      · rw [List.getElem?_set_self (by rw [wipe_length]; exact hl), if_pos hl]
      · rw [List.getElem?_eq_none (by rw [List.length_set, wipe_length]; omega), if_neg hl]
    · rw [List.getElem?_set_ne e]
      exact wipe_in ((List.mem_cons.mp h).resolve_left fun z => e z.symm)
theorem wipe_eq {σ σ2 : St} {vs : List Nat} (hl : σ2.length = σ.length) (h : ∀ i, i ∉ vs → σ2[i]? = σ[i]?) : wipe σ2 vs = wipe σ vs := by
  refine List.ext_getElem? fun i => ?_
  by_cases m : i ∈ vs
  · rw [wipe_in m, wipe_in m, hl]
  · rw [wipe_out m, wipe_out m, h i m]
theorem sameB_mem {a b : List Nat} (h : sameB a b = true) (i : Nat) : i ∈ a ↔ i ∈ b := by
  unfold sameB at h
  rw [Bool.and_eq_true, List.all_eq_true, List.all_eq_true] at h
  exact ⟨fun m => of_decide_eq_true (h.1 i m), fun m => of_decide_eq_true (h.2 i m)⟩
section
variable {D : Pd} {C : Calls} {W : WX}
theorem lc_ok {elt : ME} {p : MP} {it : MI} {cond : MO} {vs : List Nat} {σ : St} {H : Hp} {Q : VK} (hv : ∀ i, i ∈ vs ↔ i ∈ slotsP p) (hp : (slotsP p).Nodup) (h : tP D C W (.comp elt p it cond) σ H Q) :
    tLc (tI D C W it) (tgM D.T.K p) (tC' D C WF cond) (tE D C WF elt) vs σ H Q := by
  obtain ⟨env, c, r, h⟩ := h
  refine ⟨env, c, r, tM_mono (tM_bnd h) fun ps c1 H1 r1 x1 h1 J wk Dd hD => ?_⟩
  have h2 := tM_bnd h1
  clear h h1
  generalize hf : (fun x => Sk.noX (Sk.bnd (Sk.opt (Sk.bindTo p x env)) fun env' => Sk.bnd (Sk.evC D.G C cond env') fun k => match k with
      | true => Sk.bnd (Sk.ev D.G C elt env') fun v => if Sk.isRef v then Sk.fail else Sk.rt (some v)
      | false => Sk.rt none)) = f at h2
  let Pv : Nat → Hp → Prop := fun i H' => ∃ c' acc done, Base D.T.K c' H' ∧ Ext c1 H1 c' H' ∧ H' Dd = some (.lst acc) ∧ c'.G Dd = none ∧ DPs D.T.K c'.G acc done ∧ acc.length ≤ i ∧
    tN D.T W env σ c1 H1 c'.st (Sk.filtM f (ps.drop i)) fun rest c2 H2 => tM D.T W env σ c2 H2 (Sk.rt (.lst (done ++ rest))) fun v c' H' => Fin D.T H v true c' H' Q
  refine ⟨fun i m H' => m = ps.length - i ∧ i ≤ ps.length ∧ Pv i H', ⟨ps.length - 0, rfl, Nat.zero_le _, c1, [], [], r1.base.mkO hD, Ext.mkO hD, upd_same, r1.base.fresh hD, .nil, Nat.le_refl _, ?_⟩, ?_⟩
  · rw [List.drop_zero]
    exact h2
  · rintro i m H' ⟨rfl, hi, c', acc, done, b', x', hDd, gD, d', la, hn⟩
    have io' : c'.io = [] := b'.st.2
    by_cases hlt : i < ps.length
    · right
      have he : ps[i]? = some ps[i] := List.getElem?_eq_getElem hlt
      refine ⟨wk.go c' H' i _ b' x' he, Pv (i + 1), fun H2 hp2 => ⟨ps.length - (i + 1), by omega, rfl, by omega, hp2⟩, fun x H2 hy => ?_⟩
      obtain ⟨e2, dx⟩ := wk.yld c' H' i _ x H2 b' x' he hy
      subst e2
      rw [List.drop_eq_getElem_cons hlt] at hn
      have hn1 := tN_bnd (f := fun o => Sk.bnd (Sk.filtM f (ps.drop (i + 1))) fun r => Sk.rt (match o with | some v => v :: r | none => r)) hn rfl x'
      rw [← hf] at hn1
      have hn2 := tM_bnd (tM_noX hn1)
      rw [hf] at hn2
      obtain ⟨env', eb, hn3⟩ := tM_opt hn2
      have r' : Rel D.T.K env c' σ H2 := r1.ext x' b'
      have hn4 := tM_rt hn3 r'
      refine tg_ok hp (r'.x (S := slotsP p) (σ' := wipe σ vs) (wipe_length σ vs) fun j nj => wipe_out fun z => nj ((hv j).mp z)) dx eb fun σ2 r2 l2 a2 => ⟨?_, ?_⟩
      · refine wipe_eq (l2.trans (wipe_length σ vs)) fun j nj => ?_
        rw [a2 j fun z => nj ((hv j).mpr z), wipe_out nj]
      · have hn5 := tM_env (W' := WF) (env' := env') (σ' := σ2) r' hn4 (fun _ _ _ _ _ _ z => z) fun _ _ _ _ _ _ k => k
        refine ⟨env', c', r2, tM_mono (tM_bnd hn5) fun bb c3 H3 r3 x3 h3 => ?_⟩
        cases bb with
        | false =>
          have k1 := tM_rt h3 r3
          refine (if_neg Bool.false_ne_true).mpr ?_
          refine ⟨c3, acc, done, r3.base, x'.trans x3, x3.keep _ _ hDd (by rw [io']; simp), x3.no _ _ hDd gD, DPs.sub x3.g d', by omega, ?_⟩
          exact tN_mono (tN_bnd0 k1) fun rest c5 H5 r5 x5 k5 => tN_rt k5 rfl r5 x5
        | true =>
          refine (if_pos rfl).mpr ?_
          refine ⟨env', c3, r3, tM_mono (tM_bnd h3) fun v c4 H4 r4 x4 h4 y ry => ?_⟩
          cases hr : Sk.isRef v with
          | true => rw [hr] at h4; exact h4.elim
          | false =>
            rw [hr] at h4
            have k1 := tM_rt (show tM D.T WF env' σ2 c4 H4 (Sk.rt (some v)) _ from h4) r4
            have x34 := x3.trans x4
            have hD4 : H4 Dd = some (.lst acc) := x34.keep _ _ hDd (by rw [io']; simp)
            have gD4 : c4.G Dd = none := x34.no _ _ hDd gD
            have lz := wk.len
            refine ⟨acc, hD4, by omega, c4, acc ++ [y], done ++ [v], r4.base.own_upd gD4, (x'.trans x34).own_upd hD, upd_same, gD4, DPs.app (DPs.sub x34.g d') (.cons (ry.dp hr) .nil), by rw [List.length_append]; exact Nat.succ_le_succ la, ?_⟩
            refine tN_mono (tN_bnd0 k1) fun rest c5 H5 r5 x5 k5 => ?_
            have k6 := tN_rt k5 rfl r5 x5
            rw [List.append_assoc]
            exact k6
    · left
      have ei : i = ps.length := by omega
      subst ei
      refine ⟨wk.stop c' H' b' x', ?_⟩
      rw [List.drop_length] at hn
      have r' : Rel D.T.K env c' σ H' := r1.ext x' b'
      have k1 := tN_rt hn rfl r' x'
      rw [List.append_nil] at k1
      exact tM_rt k1 r' Dd acc hDd gD (by rw [io']; simp) (x1.gone hD) d'
end
end SkB

set_option Elab.async false
set_option linter.all false
set_option maxRecDepth 100000
/-! Part B9: expressions, all of them. -/
namespace SkB
open PySem PySem.Spec L2
open Sk (PV ME MEs MO MI MP MS MSs Slot Sto Out Fl Calls FD BO CO Bi Ty)

section
variable {D : Pd} {C : Calls} {W : WX} {X : Cx} {x : Expr} {σ : St} {H : Hp} {k : Nat}
theorem notFresh (e : ME) (he : ∀ env, Sk.evF D.G C e env = Sk.fail) (h : PE X x (tE D C W e)) : PE X x (tE D C W e) ∧ PE X x (tF D C W e) :=
  ⟨h, PE_imp h fun σ H Q ⟨env, c, r, q⟩ => by rw [he env] at q; exact q.elim⟩
theorem bothP (e : ME) (hc : ∀ f es, e ≠ .call f es) (h : PE X x (tP D C W e)) : PE X x (tE D C W e) ∧ PE X x (tF D C W e) := by
  refine ⟨PE_imp h fun _ _ _ => tE_tP, PE_imp h fun σ H Q q => ?_⟩
  have hf : ∀ env, Sk.evF D.G C e env = if Sk.isFresh e = true then Sk.bnd (Sk.ev D.G C e env) fun v => Sk.opt (Sk.lstOf v) else Sk.fail := fun env => by
    cases e <;> first | rfl | exact absurd rfl (hc _ _)
  by_cases fr : Sk.isFresh e = true
  · exact tE_of_tF (fun env => by rw [hf env, if_pos fr]) q
  · obtain ⟨env, c, r, q⟩ := q
    rw [hf env, if_neg fr] at q
    exact q.elim
theorem sB_of {e : ME} {N : List Str} (hN : X.N = N) (h : PE X x (tE D C W e)) (hx : chkE D.fn D.gl X.N e X.env.scope x = true) : PE X x (tB D C W e) := by
  by_cases hv : ∃ i, e = .var i
  · obtain ⟨i, rfl⟩ := hv
    unfold chkE at hx
    cases x <;> try (cases hx; done)
    simp only [Bool.and_eq_true, Bool.not_eq_true'] at hx
    exact PE_imp (pe_var (nmB_of hx.1.1.1) (visB_of hx.1.1.2) hx.1.2 hx.2) fun _ _ _ => tB_var
  · exact PE_imp h fun _ _ _ => tB_tE fun i z => hv ⟨i, z⟩
/-- what a test gives -/
theorem tM_evB {env : Sk.Env} {c : Cf} {a : ME} {f : PV → Cf → Hp → Prop} (h : tM D.T W env σ c H (Sk.ev D.G C a env) f) : tM D.T W env σ c H (Sk.evB D.G C a env) f := by
  by_cases hv : ∃ i, a = .var i
  · obtain ⟨i, rfl⟩ := hv
    obtain ⟨p, e, h1⟩ := tM_opt (show tM D.T W env σ c H (Sk.opt (Sk.shOf env[i]?)) f from h)
    show tM D.T W env σ c H (Sk.opt (Sk.boOf env[i]?)) f
    have e2 : Sk.boOf env[i]? = some p := by
      cases hs : env[i]? with
      | none => rw [hs] at e; cases e
      | some s => rw [hs] at e; cases s <;> simp only [Sk.shOf] at e <;> cases e; rfl
    rw [e2]; exact h1
  · have hb : Sk.evB D.G C a env = Sk.ev D.G C a env := by
      cases a <;> first | rfl | exact absurd ⟨_, rfl⟩ hv
    rw [hb]; exact h
end

/-- a test, the truth asked last -/
def tT' (D : Pd) (C : Calls) (W : WX) (e : ME) : TT := fun σ H Q => ∃ env c, Rel D.T.K env c σ H ∧ tM D.T W env σ c H (Sk.evB D.G C e env) fun v c' H' => ∃ k, Sk.truthy v = some k ∧ Q k H'
section
variable {D : Pd} {C : Calls} {W : WX} {X : Cx} {x : Expr} {σ : St} {H : Hp} {k : Nat}
theorem tT_of {e : ME} {Q : Bool → Hp → Prop} (h : tT D C W e σ H Q) : tT' D C W e σ H Q := by
  obtain ⟨env, c, r, h⟩ := h
  refine ⟨env, c, r, tM_mono (tM_bnd h) fun v c1 H1 r1 x1 h1 => ?_⟩
  obtain ⟨b, e, h2⟩ := tM_opt h1
  exact ⟨b, e, tM_rt h2 r1⟩
theorem tT_any (hK : X.K = D.T.K) {e : ME} (h : PE X x (tB D C W e)) (he : ∀ whole, isTrue x X.env whole = (do let v ← whole; standAt x.pos; holding [v] (truthy v))) : PT X x (tT' D C W e) := by
  refine PT_imp (pt_truth h he) fun σ H Q ⟨env, c, r, q⟩ => ⟨env, c, r, tM_mono q fun v c1 H1 r1 x1 ⟨b, e1, q1⟩ u ru => ⟨b, ?_, q1⟩⟩
  rw [hK]
  exact truV_of r1.base ru e1
theorem tT_bnd {a : ME} {α : Type} {env : Sk.Env} {c : Cf} {f : PV → Sk.M α} {K : α → Cf → Hp → Prop} {Q : Bool → Hp → Prop} (r : Rel D.T.K env c σ H) (h : tM D.T W env σ c H (Sk.bnd (Sk.ev D.G C a env) f) K)
    (q : ∀ v c1 H1, Rel D.T.K env c1 σ H1 → Ext c H c1 H1 → tM D.T W env σ c1 H1 (f v) K → ∃ k, Sk.truthy v = some k ∧ Q k H1) : tT' D C W a σ H Q :=
  ⟨env, c, r, tM_evB (tM_mono (tM_bnd h) fun v c1 H1 r1 x1 h1 => q v c1 H1 r1 x1 h1)⟩

/-! ### node by node -/
theorem n_bin {op : BO} {a b : ME} {Q : VK} (h : tP D C W (.bin op a b) σ H Q) : tOp (rBin D.T op) (tB D C W a) (tB D C W b) σ H Q := by
  obtain ⟨env, c, r, h⟩ := h
  refine to_tB r h fun v c1 H1 u r1 x1 ru h1 => to_tB r1 h1 fun w c2 H2 u2 r2 x2 ru2 h2 => ?_
  obtain ⟨z, e, h3⟩ := tM_opt h2
  exact ⟨c2, v, w, z, r2.base, ru.ext x2, ru2, e, Fin.pst r2 (x1.trans x2) h3⟩
theorem n_neg {a : ME} {Q : VK} (h : tE D C W (.neg a) σ H Q) : tUn (rU fun i => .int (-i)) (tE D C W a) σ H Q := by
  obtain ⟨env, c, r, h⟩ := h
  refine to_tE r h fun v c1 H1 u r1 x1 ru h1 => ?_
  obtain ⟨z, e, h2⟩ := tM_opt h1
  cases v <;> simp at e
  subst e
  cases (ru : DP D.T.K c1.G u _)
  exact ⟨_, rfl, tM_rt h2 r1 _ (.int _)⟩
theorem n_not (hK : X.K = D.T.K) {a : ME} {Q : VK} (h : tE D C W (.not a) σ H Q) : tUn (fun x H Q => ∃ k, TruV X.K x H k ∧ Q (.bl (!k)) H) (tE D C W a) σ H Q := by
  obtain ⟨env, c, r, h⟩ := h
  refine to_tE r h fun v c1 H1 u r1 x1 ru h1 => ?_
  obtain ⟨z, e, h2⟩ := tM_opt h1
  obtain ⟨b, e1, e2⟩ := Option.map_eq_some_iff.mp e
  subst e2
  exact ⟨b, by rw [hK]; exact truV_of r1.base (.inl ru) e1, tM_rt h2 r1 _ (.bl _)⟩
theorem n_and {a b : ME} {Q : VK} (h : tE D C W (.and a b) σ H Q) : tAndV (tE D C W a) (tE D C W b) σ H Q := by
  obtain ⟨env, c, r, h⟩ := h
  refine to_tE r h fun v c1 H1 u r1 x1 ru h1 => ?_
  cases v <;> try (exact h1.elim)
  rename_i k
  cases (ru : DP D.T.K c1.G u _)
  refine ⟨k, rfl, ?_⟩
  cases k with
  | true => exact (if_pos rfl).mpr ⟨env, c1, r1, h1⟩
  | false => exact (if_neg Bool.false_ne_true).mpr (tM_rt h1 r1 _ (.bl _))
theorem n_or {a b : ME} {Q : VK} (h : tE D C W (.or a b) σ H Q) : tOrV (tE D C W a) (tE D C W b) σ H Q := by
  obtain ⟨env, c, r, h⟩ := h
  refine to_tE r h fun v c1 H1 u r1 x1 ru h1 => ?_
  cases v <;> try (exact h1.elim)
  rename_i k
  cases (ru : DP D.T.K c1.G u _)
  refine ⟨k, rfl, ?_⟩
  cases k with
  | false => exact (if_neg Bool.false_ne_true).mpr ⟨env, c1, r1, h1⟩
  | true => exact (if_pos rfl).mpr (tM_rt h1 r1 _ (.bl _))
theorem n_cmp {op : CO} {a b : ME} {K : PV → Cf → Hp → Prop} {Q : VK} {env : Sk.Env} {c : Cf} (r : Rel D.T.K env c σ H) (h : tM D.T W env σ c H (Sk.ev D.G C (.cmp op a b) env) K) (q : ∀ k c1 H1, Rel D.T.K env c1 σ H1 → K (.bl k) c1 H1 → Q (.bl k) H1) :
    tOp (rCmp D.T op) (tB D C W a) (tB D C W b) σ H Q := by
  refine to_tB r h fun v c1 H1 u r1 x1 ru h1 => to_tB r1 h1 fun w c2 H2 u2 r2 x2 ru2 h2 => ?_
  obtain ⟨z, e, h3⟩ := tM_withS h2
  obtain ⟨k, e1, e2⟩ := Option.map_eq_some_iff.mp e
  subst e2
  exact ⟨c2, v, w, k, r2.base, ru.ext x2, ru2, e1, q k c2 H2 r2 (tM_rt h3 r2)⟩
theorem n_chain {op op' : CO} {a b d : ME} {K : PV → Cf → Hp → Prop} {Q : VK} {env : Sk.Env} {c : Cf} (r : Rel D.T.K env c σ H) (h : tM D.T W env σ c H (Sk.ev D.G C (.chain op op' a b d) env) K) (q : ∀ k c1 H1, Rel D.T.K env c1 σ H1 → K (.bl k) c1 H1 → Q (.bl k) H1) :
    tChain (rCmp D.T op) (rCmp D.T op') (tB D C W a) (tB D C W b) (tB D C W d) σ H Q := by
  refine to_tB r h fun v c1 H1 u r1 x1 ru h1 => to_tB r1 h1 fun w c2 H2 u2 r2 x2 ru2 h2 => ?_
  obtain ⟨k, e, h3⟩ := tM_withS (tM_bnd h2)
  have h4 := tM_rt h3 r2
  refine ⟨c2, v, w, k, r2.base, ru.ext x2, ru2, e, k, rfl, ?_⟩
  cases k with
  | false => exact (if_neg Bool.false_ne_true).mpr (q false c2 H2 r2 (tM_rt h4 r2))
  | true =>
    refine (if_pos rfl).mpr (to_tB r2 h4 fun y c3 H3 u3 r3 x3 ru3 h5 => ?_)
    obtain ⟨z, e5, h6⟩ := tM_withS h5
    obtain ⟨k', e6, e7⟩ := Option.map_eq_some_iff.mp e5
    subst e7
    exact ⟨c3, w, y, k', r3.base, ru2.ext x3, ru3, e6, q k' c3 H3 r3 (tM_rt h6 r3)⟩
theorem n_idx {a i : ME} {Q : VK} (h : tE D C W (.idx a i) σ H Q) : tOp (rIdx D.T) (tB D C W a) (tE D C W i) σ H Q := by
  obtain ⟨env, c, r, h⟩ := h
  refine to_tB r h fun v c1 H1 u r1 x1 ru h1 => to_tE r1 h1 fun w c2 H2 u2 r2 x2 ru2 h2 => ?_
  obtain ⟨z, e, h3⟩ := tM_withS h2
  exact ⟨c2, v, w, z, r2.base, ru.ext x2, ru2, e, fun y ry => tM_rt h3 r2 y ry⟩
theorem n_sli {a : ME} {lo hi : MO} {Q : VK} (h : tP D C W (.sli a lo hi) σ H Q) : tSl (rSli D.T) (tB D C W a) (tOp' D C W lo) (tOp' D C W hi) σ H Q := by
  obtain ⟨env, c, r, h⟩ := h
  refine to_tB r h fun v c1 H1 u r1 x1 ru h1 => to_tO r1 h1 fun l c2 H2 r2 x2 h2 => to_tO r2 h2 fun l2 c3 H3 r3 x3 h3 => ?_
  obtain ⟨z, e, h4⟩ := tM_opt h3
  exact ⟨c3, v, z, r3.base, ru.ext (x2.trans x3), e, Fin.pst r3 (x1.trans (x2.trans x3)) h4⟩
theorem n_part {e : ME} {Q : Option Int → Hp → Prop} (h : tOp' D C W (.so e) σ H Q) : tPart (tE D C W e) σ H Q := by
  obtain ⟨env, c, r, h⟩ := h
  refine to_tE r h fun v c1 H1 u r1 x1 ru h1 => ?_
  obtain ⟨z, e, h2⟩ := tM_opt h1
  cases v <;> simp at e
  subst e
  cases (ru : DP D.T.K c1.G u _)
  exact ⟨_, rfl, tM_rt h2 r1⟩
theorem mk_of {mkp : List PV → PV} {env : Sk.Env} {c : Cf} {vs : List PV} {k : PV → Cf → Hp → Prop} (h : tM D.T W env σ c H (Sk.mk mkp vs) k) : Sk.noRefs vs = true ∧ vs.length ≤ sizeLine ∧ tM D.T W env σ c H (Sk.rt (mkp vs)) k := by
  unfold Sk.mk at h
  split at h
  · rename_i e
    rw [Bool.and_eq_true, decide_eq_true_eq, lineEq] at e
    exact ⟨e.1, e.2, h⟩
  · exact h.elim
theorem n_tup {es : MEs} {Q : VK} (h : tE D C W (.tup es) σ H Q) : tTup (tA D C W es) σ H Q := by
  obtain ⟨env, c, r, h⟩ := h
  refine to_tA r h fun vs c1 H1 us r1 x1 ru h1 => ?_
  obtain ⟨n, hz, h2⟩ := mk_of h1
  refine ⟨by rw [ru.len]; exact hz, fun p hp => Aft.tupN (aft_of r1 h2) r1.base hp (ru.dps n)⟩
theorem n_lst {es : MEs} {Q : VK} (h : tP D C W (.lst es) σ H Q) : tLst (tA D C W es) σ H Q := by
  obtain ⟨env, c, r, h⟩ := h
  refine to_tA r h fun vs c1 H1 us r1 x1 ru h1 => ?_
  obtain ⟨n, hz, h2⟩ := mk_of h1
  refine ⟨by rw [ru.len]; exact hz, fun p hp => ?_⟩
  exact Fin.pst r1 x1 h2 p us hp (by rw [ru.len]; exact hz) (ru.dps n)
theorem n_blt {b : Bi} {es : MEs} {Q : VK} (h : tP D C W (.blt b es) σ H Q) : tCB (rBlt D.T b) (tAB D C W es) σ H Q := by
  obtain ⟨env, c, r, h⟩ := h
  refine to_tAB r h fun vs c1 H1 us r1 x1 ru h1 => ?_
  obtain ⟨z, e, h2⟩ := tM_withS h1
  exact ⟨c1, vs, z, r1.base, ru, e, Fin.pst r1 x1 h2⟩
theorem n_call {f : Nat} {es : MEs} {Q : VK} (h : tE D C W (.call f es) σ H Q) : tCallS (spI D.T C f) (WE W) (tA D C W es) σ H Q := by
  obtain ⟨env, c, r, h⟩ := h
  refine to_tA r h fun vs c1 H1 us r1 x1 ru h1 => ⟨c1, vs, r1.base, ru, ?_⟩
  unfold tM Sk.bnd at h1
  cases e : C f vs c1.st with
  | ok a st' =>
    obtain ⟨u, fr⟩ := a
    rw [e] at h1
    intro c' H' e1 b' x'
    exact Fin.of r1 (r1.ext x' b') x' fun c2 H2 e2 r2 x2 => h1 c2 H2 (e2.trans e1) r2 x2
  | exn n v st' =>
    rw [e] at h1
    exact fun c' H' d e1 b' x' xo => h1 c' H' d e1 (r1.ext x' b') x' xo
  | bad => rw [e] at h1; exact h1
theorem n_callF {f : Nat} {es : MEs} {Q : VK} (h : tF D C W (.call f es) σ H Q) : tCallS (spI D.T C f) (WE W) (tA D C W es) σ H Q := by
  obtain ⟨env, c, r, h⟩ := h
  refine to_tA r h fun vs c1 H1 us r1 x1 ru h1 => ⟨c1, vs, r1.base, ru, ?_⟩
  unfold tM Sk.bnd at h1
  cases e : C f vs c1.st with
  | ok a st' =>
    obtain ⟨u, fr⟩ := a
    rw [e] at h1
    intro c' H' e1 b' x'
    cases u <;> try (exact h1.elim)
    rename_i ps
    cases fr
    · exact h1.elim
    · intro a vs g1 g2 g3 g4 d
      exact h1 c' H' e1 (r1.ext x' b') x' a vs g1 g2 g3 (x1.gone g4) d
  | exn n v st' =>
    rw [e] at h1
    exact fun c' H' d e1 b' x' xo => h1 c' H' d e1 (r1.ext x' b') x' xo
  | bad => rw [e] at h1; exact h1
theorem n_isi {a : ME} {t : Ty} {Q : VK} (hK : X.K = D.T.K) (h : tE D C W (.isi a t) σ H Q) : tCB (rIsi X.K) (tCons (tB D C W a) (tCons (tC (.ty (tyS t))) tNil)) σ H Q := by
  obtain ⟨env, c, r, h⟩ := h
  refine to_tB r h fun v c1 H1 u r1 x1 ru h1 => ?_
  obtain ⟨z, e, h2⟩ := tM_opt h1
  obtain ⟨k, e1, e2⟩ := Option.map_eq_some_iff.mp e
  subst e2
  have fin : Q (.bl k) H1 := tM_rt h2 r1 _ (.bl _)
  have go : ∀ (s : String), TyX X.K H1 u (.type s) → kitB s (tyS t) = some k → rIsi X.K [u, .ty (tyS t)] H1 Q := fun s ty kb => ⟨u, _, _, _, k, rfl, .ty _, ty, kit_ty kb, fin⟩
  cases v with
  | non => cases ru.non; cases t <;> simp only [Sk.isTy] at e1 <;> cases e1 <;> exact go "NoneType" (.base .non) (by decide +kernel)
  | bl j => cases ru.bl; cases t <;> simp only [Sk.isTy] at e1 <;> cases e1 <;> exact go "bool" (.base (.bl _)) (by decide +kernel)
  | int j => cases ru.int; cases t <;> simp only [Sk.isTy] at e1 <;> cases e1 <;> exact go "int" (.base (.int _)) (by decide +kernel)
  | str j => cases ru.str; cases t <;> simp only [Sk.isTy] at e1 <;> cases e1 <;> exact go "str" (.base (.str _)) (by decide +kernel)
  | tup ps =>
    obtain ⟨p, vs, rfl, g1, _, _⟩ := ru.tup r1.base
    have ty : TyX X.K H1 (.ref p) (.type "tuple") := by
      rcases g1 with (g1 | ⟨o, g1⟩) | ⟨o, its, n, g1, g2, _⟩
      · exact .base (.tup g1)
      · exact .fTuple g1
      · exact .kTuple (by rw [hK]; exact g1) g2
    cases t <;> simp only [Sk.isTy] at e1 <;> cases e1 <;> exact go "tuple" ty (by decide +kernel)
  | lst ps =>
    obtain ⟨p, vs, rfl, g1, _⟩ := ru.lst r1.base
    have ty : TyX X.K H1 (.ref p) (.type "list") := by
      rcases g1 with (g1 | ⟨o, g1⟩) | ⟨o, its, n, g1, g2, _⟩
      · exact .base (.lst g1)
      · exact .base (.frz g1)
      · exact .kList (by rw [hK]; exact g1) g2
    cases t <;> simp only [Sk.isTy] at e1 <;> cases e1 <;> exact go "list" ty (by decide +kernel)
  | ref n => cases t <;> simp only [Sk.isTy] at e1 <;> cases e1
theorem dps_rg {K : PySem.W.Frag} {G : Hp} (a b : Int) : DPs K G (rgV a b) (Sk.rng a (b - a).toNat) := by
  unfold rgV Sk.rng
  generalize List.range (b - a).toNat = l
  induction l with
  | nil => exact .nil
  | cons n l ih => exact .cons (.int _) ih
theorem r62_of {i : Int} (h : Sk.r62 i = true) : -(2 ^ 62) ≤ i ∧ i < 2 ^ 62 := by
  unfold Sk.r62 at h
  rw [Bool.and_eq_true, decide_eq_true_eq, decide_eq_true_eq] at h
  omega
theorem int_at {K : PySem.W.Frag} {c : Cf} {u : V} {i : Int} (h : RV K c u (.int i)) : u = .int i := by
  cases (show DP K c.G u (.int i) from h); rfl
theorem rg1_of {a : ME} {α : Type} {f : List PV → Sk.M α} {env : Sk.Env} {c : Cf} {k : α → Cf → Hp → Prop} {Q : Int → Int → Hp → Prop} (r : Rel D.T.K env c σ H) (h : tM D.T W env σ c H (Sk.bnd (Sk.evI D.G C (.rg1 a) env) f) k)
    (q : ∀ j c1 H1, Rel D.T.K env c1 σ H1 → Ext c H c1 H1 → RgOk 0 j → tM D.T W env σ c1 H1 (f (Sk.rng 0 (j - 0).toNat)) k → Q 0 j H1) : tRg1 (tE D C W a) σ H Q := by
  refine to_tE r (tM_bnd h) fun v c1 H1 u r1 x1 ru h4 => ?_
  cases v <;> try (exact h4.elim)
  rename_i i
  cases int_at ru
  dsimp only at h4
  split at h4
  · rename_i hc
    rw [Bool.and_eq_true, decide_eq_true_eq, lineEq, sizeLine_eq] at hc
    obtain ⟨b1, b2⟩ := r62_of hc.1
    refine ⟨i, rfl, q i c1 H1 r1 x1 ⟨by omega, by omega, b1, b2, by omega⟩ ?_⟩
    rw [Int.sub_zero]
    exact tM_rt h4 r1
  · exact h4.elim
theorem rg2_of {a b : ME} {α : Type} {f : List PV → Sk.M α} {env : Sk.Env} {c : Cf} {k : α → Cf → Hp → Prop} {Q : Int → Int → Hp → Prop} (r : Rel D.T.K env c σ H) (h : tM D.T W env σ c H (Sk.bnd (Sk.evI D.G C (.rg2 a b) env) f) k)
    (q : ∀ i j c1 H1, Rel D.T.K env c1 σ H1 → Ext c H c1 H1 → RgOk i j → tM D.T W env σ c1 H1 (f (Sk.rng i (j - i).toNat)) k → Q i j H1) : tRg2 (tE D C W a) (tE D C W b) σ H Q := by
  refine to_tE r (tM_bnd h) fun v c1 H1 u r1 x1 ru h4 => to_tE r1 h4 fun w c2 H2 u2 r2 x2 ru2 h6 => ?_
  cases v <;> try (exact h6.elim)
  rename_i i
  cases w <;> try (exact h6.elim)
  rename_i j
  cases int_at ru
  cases int_at ru2
  dsimp only at h6
  split at h6
  · rename_i hc
    simp only [Bool.and_eq_true, decide_eq_true_eq] at hc
    rw [lineEq, sizeLine_eq] at hc
    obtain ⟨b1, b2⟩ := r62_of hc.1.1
    obtain ⟨b3, b4⟩ := r62_of hc.1.2
    exact ⟨i, j, rfl, rfl, q i j c2 H2 r2 (x1.trans x2) ⟨b1, b2, b3, b4, by omega⟩ (tM_rt h6 r2)⟩
  · exact h6.elim
theorem rgt_fin {env : Sk.Env} {c c1 : Cf} {H1 : Hp} {i j : Int} {Q : VK} (r1 : Rel D.T.K env c1 σ H1) (o : RgOk i j) (h : tM D.T W env σ c1 H1 (if (Sk.rng i (j - i).toNat).length ≤ Sk.line then Sk.rt (.tup (Sk.rng i (j - i).toNat)) else Sk.fail) fun v c' H' => ∀ u, RV D.T.K c' u v → Q u H') :
    RgOk i j ∧ ∀ q, H1 q = none → Q (.ref q) (upd H1 q (.tup (rgV i j))) := by
  refine ⟨o, fun p hp => ?_⟩
  split at h
  · exact Aft.tupN (aft_of r1 h) r1.base hp (dps_rg i j)
  · exact h.elim
theorem rgl_fin {env : Sk.Env} {c c1 : Cf} {H1 : Hp} {i j : Int} {Q : VK} (r1 : Rel D.T.K env c1 σ H1) (x1 : Ext c H c1 H1) (o : RgOk i j) (h : tM D.T W env σ c1 H1 (if (Sk.rng i (j - i).toNat).length ≤ Sk.line then Sk.rt (.lst (Sk.rng i (j - i).toNat)) else Sk.fail) fun v c' H' => Fin D.T H v true c' H' Q) :
    RgOk i j ∧ ∀ q, H1 q = none → Q (.ref q) (upd H1 q (.lst (rgV i j))) := by
  refine ⟨o, fun p hp => ?_⟩
  split at h
  · refine Fin.pst r1 x1 h p _ hp ?_ (dps_rg i j)
    obtain ⟨_, _, _, _, z⟩ := o
    rw [rgV_length, sizeLine_eq]
    omega
  · exact h.elim
end
end SkB

set_option Elab.async false
set_option linter.all false
set_option maxRecDepth 100000
set_option maxHeartbeats 1000000
/-! Part B10: every expression that the checker lets pass. -/
namespace SkB
open PySem PySem.Spec L2
open Sk (PV ME MEs MO MI MP MS MSs Slot Sto Out Fl Calls FD BO CO Bi Ty)

theorem boot_blt (b : Bi) : bootBuiltins (bltN b) = some (bltV b) := by cases b <;> decide +kernel
theorem boot_ty (t : Ty) : bootBuiltins (tyN t) = some (.type (tyS t)) := by cases t <;> decide +kernel
theorem boot_isi : bootBuiltins "isinstance" = some (.builtin "isinstance") := by decide +kernel
theorem blt_name (b : Bi) : bltN b ≠ "__name__" := by cases b <;> decide
theorem ty_name (t : Ty) : tyN t ≠ "__name__" := by cases t <;> decide

/-- what is known of an expression -/
structure Snd (D : Pd) (C : Calls) (W : WX) (X : Cx) (x : Expr) (e : ME) : Prop where
  pe : PE X x (tE D C W e)
  pf : PE X x (tF D C W e)
  pt : PT X x (tT' D C W e)
  pw : (∃ op vs p, x = .BoolOp op vs p) → PW X x (tT' D C W e)
section
variable {D : Pd} {C : Calls} {W : WX} {X : Cx} {x : Expr} {σ : St} {H : Hp} {k : Nat}
theorem Snd.pb {e : ME} (h : Snd D C W X x e) (hx : chkE D.fn D.gl X.N e X.env.scope x = true) : PE X x (tB D C W e) := sB_of rfl h.pe hx
theorem snd_of {e : ME} (g : Gd D C k X) (hx : chkE D.fn D.gl X.N e X.env.scope x = true) (h : PE X x (tE D C W e) ∧ PE X x (tF D C W e)) (hb : ∀ op vs p, x ≠ .BoolOp op vs p)
    (he : ∀ whole, isTrue x X.env whole = (do let v ← whole; standAt x.pos; holding [v] (truthy v))) : Snd D C W X x e :=
  ⟨h.1, h.2, tT_any g.hK (sB_of rfl h.1 hx) he, fun ⟨op, vs, p, z⟩ => absurd z (hb op vs p)⟩
theorem loc_fun {scope : Scope} (hs : X.env.scope = scope) (hf : ∀ x, X.fn x = true) : ∀ x, stB scope x = true → Loc X.env.scope x ∧ (X.fn x = true ∨ X.env.scope.names.lookup x = some .local) := fun x h => by
  rw [hs]; exact ⟨stB_of h, .inl (hf x)⟩
theorem loc_blk {s : Shared} {H : Hp} {scope : Scope} {cl : List (Str × Addr)} {Ca : Addr} {fp : List Addr} :
    ∀ x, stB scope x = true → Loc (X.blk s H scope (compEnvC scope cl Ca X.env) fp).env.scope x ∧ ((X.blk s H scope (compEnvC scope cl Ca X.env) fp).fn x = true ∨ (X.blk s H scope (compEnvC scope cl Ca X.env) fp).env.scope.names.lookup x = some .local) := fun x h => by
  rcases stB_of h with h | h
  · have := lookup_relS_keep (sc := X.env.scope) (by decide) h
    exact ⟨.inl this, .inr this⟩
  · have := lookup_relS_keep (sc := X.env.scope) (by decide) h
    refine ⟨.inr this, .inl ?_⟩
    show (scope.names.lookup x == some NameKind.cell) = true
    rw [h]; rfl
theorem tg_nodup {N : List Str} {scope : Scope} {p : MP} {t : Expr} (h : tgB N scope p t = true) : (slotsP p).Nodup := by
  cases p with
  | nm i => exact List.nodup_cons.mpr ⟨by simp, List.nodup_nil⟩
  | tp is =>
    cases t <;> simp only [tgB] at h <;> try (cases h; done)
    rw [Bool.and_eq_true, decide_eq_true_eq] at h
    exact h.2
theorem set_iter {it : Expr} {env : Env} (h : isSet it = false) : ∀ v, foldedSetIterable it env v = pure v := fun v => by
  cases it <;> first | rfl | cases h
theorem rd_keep {K : PySem.W.Frag} {c c' : Cf} {H H' : Hp} {a : Addr} {u : HO} (b : Base K c H) (x : Ext c H c' H') (h : Rd H a u) : Rd H' a u := by
  have n : a ∉ c.io := by rw [b.st.2]; simp
  rcases h with h | ⟨o, h⟩
  · exact .inl (x.keep _ _ h n)
  · exact .inr ⟨o, x.keep _ _ h n⟩
theorem sql_keep {K : PySem.W.Frag} {c c' : Cf} {H H' : Hp} {a : Addr} {vs : List V} (b : Base K c H) (x : Ext c H c' H') (h : SqL K H a vs) : SqL K H' a vs := by
  rcases h with h | h
  · exact .inl (rd_keep b x h)
  · exact .inr h
end

section
variable {D : Pd} {C : Calls} {k : Nat}
mutual
theorem sE : ∀ (e : ME) {X : Cx} {W : WX} {x : Expr}, Gd D C k X → Takes X W → chkE D.fn D.gl X.N e X.env.scope x = true → Snd D C W X x e
  | .var i, X, W, x, g, tk, hx => by
    have hx' := hx
    unfold chkE at hx'
    split at hx'
    · simp only [Bool.and_eq_true, Bool.not_eq_true'] at hx'
      exact snd_of g hx (notFresh _ (fun _ => rfl) (PE_imp (pe_var (nmB_of hx'.1.1.1) (visB_of hx'.1.1.2) hx'.1.2 hx'.2) fun _ _ _ => tE_var)) (fun _ _ _ z => nomatch z) (fun _ => rfl)
    · cases hx'
  | .int i, X, W, x, g, tk, hx => by
    have hx' := hx
    unfold chkE at hx'
    split at hx'
    · have e := beq_iff_eq.mp hx'
      subst e
      exact snd_of g hx (notFresh _ (fun _ => rfl) (PE_imp pe_int fun _ _ _ ⟨_, _, r, h⟩ => tM_rt h r _ (.int _))) (fun _ _ _ z => nomatch z) (fun _ => rfl)
    · cases hx'
  | .bl b, X, W, x, g, tk, hx => by
    have hx' := hx
    unfold chkE at hx'
    split at hx'
    · have e := beq_iff_eq.mp hx'
      subst e
      exact snd_of g hx (notFresh _ (fun _ => rfl) (PE_imp pe_bl fun _ _ _ ⟨_, _, r, h⟩ => tM_rt h r _ (.bl _))) (fun _ _ _ z => nomatch z) (fun _ => rfl)
    · cases hx'
  | .non, X, W, x, g, tk, hx => by
    have hx' := hx
    unfold chkE at hx'
    split at hx'
    · exact snd_of g hx (notFresh _ (fun _ => rfl) (PE_imp pe_non fun _ _ _ ⟨_, _, r, h⟩ => tM_rt h r _ .non)) (fun _ _ _ z => nomatch z) (fun _ => rfl)
    · cases hx'
  | .str s, X, W, x, g, tk, hx => by
    have hx' := hx
    unfold chkE at hx'
    split at hx'
    · have e := of_decide_eq_true hx'
      subst e
      exact snd_of g hx (notFresh _ (fun _ => rfl) (PE_imp pe_str fun _ _ _ ⟨_, _, r, h⟩ => tM_rt h r _ (.str _))) (fun _ _ _ z => nomatch z) (fun _ => rfl)
    · cases hx'
  | .glo q, X, W, x, g, tk, hx => by
    have hx' := hx
    unfold chkE at hx'
    split at hx'
    · rename_i n pos
      rw [Bool.and_eq_true, decide_eq_true_eq] at hx'
      obtain ⟨g1, g2⟩ := glB_of hx'.2
      refine snd_of g hx (notFresh _ (fun _ => rfl) ⟨fun pins s σ H Q I h => ?_⟩) (fun _ _ _ z => nomatch z) (fun _ => rfl)
      obtain ⟨env, c, r, h⟩ := h
      obtain ⟨v, e, h1⟩ := tM_opt (show tM D.T W env σ c H (Sk.opt (D.G q)) _ from h)
      obtain ⟨u, z, m, rz, dz⟩ := g.glo q n v hx'.1 e
      exact (pe_glob g1 m rz g2).run pins s σ H Q I (tM_rt h1 r _ (RV.of (dz _)))
    · cases hx'
  | .bin op a b, X, W, x, g, tk, hx => by
    have hx' := hx
    unfold chkE at hx'
    split at hx'
    · simp only [Bool.and_eq_true] at hx'
      have ha := (sE a g tk hx'.1.2).pb hx'.1.2
      have hb := (sE b g tk hx'.2).pb hx'.2
      have e := bopB_eq hx'.1.1
      subst e
      exact snd_of g hx (bothP _ (fun _ _ z => nomatch z) (PE_imp (pe_op (op_bin g.hK op) ha hb) fun _ _ _ => n_bin)) (fun _ _ _ z => nomatch z) (fun _ => rfl)
    · cases hx'
  | .neg a, X, W, x, g, tk, hx => by
    have hx' := hx
    unfold chkE at hx'
    split at hx'
    · exact snd_of g hx (notFresh _ (fun _ => rfl) (PE_imp (pe_un un_neg (sE a g tk hx').pe) fun _ _ _ => n_neg)) (fun _ _ _ z => nomatch z) (fun _ => rfl)
    · cases hx'
  | .not a, X, W, x, g, tk, hx => by
    have hx' := hx
    unfold chkE at hx'
    split at hx'
    · rename_i a' pos
      have ha := sE a g tk hx'
      have h := notFresh (D := D) (C := C) (W := W) (.not a) (fun _ => rfl) (PE_imp (pe_un (pos := pos) un_not ha.pe) fun _ _ _ => n_not g.hK)
      refine ⟨h.1, h.2, PT_imp (pt_not ha.pt) fun σ H Q ⟨env, c, r, q⟩ => ?_, fun ⟨_, _, _, z⟩ => nomatch z⟩
      refine tT_bnd r q fun v c1 H1 r1 x1 h1 => ?_
      obtain ⟨z, e, h2⟩ := tM_opt h1
      obtain ⟨b, e1, e2⟩ := Option.map_eq_some_iff.mp e
      subst e2
      obtain ⟨b', e3, q3⟩ := tM_rt h2 r1
      cases e3
      exact ⟨b, e1, q3⟩
    · cases hx'
  | .and a b, X, W, x, g, tk, hx => by
    have hx' := hx
    unfold chkE at hx'
    split at hx'
    · rename_i a' b' r p
      rw [Bool.and_eq_true] at hx'
      have ha := sE a g tk hx'.1
      have tt : ∀ {σ : St} {H : Hp} {Q : Bool → Hp → Prop}, tT' D C W (.and a b) σ H Q → tAnd (tT' D C W a) (tT' D C W b) σ H Q := fun {σ H Q} ⟨env, c, r, q⟩ => by
        refine tT_bnd r q fun v c1 H1 r1 x1 h1 => ?_
        cases v <;> try (exact h1.elim)
        rename_i kb
        refine ⟨kb, rfl, ?_⟩
        cases kb with
        | true => exact (if_pos rfl).mpr ⟨env, c1, r1, tM_evB h1⟩
        | false =>
          obtain ⟨b', e3, q3⟩ := tM_rt h1 r1
          cases e3
          exact (if_neg Bool.false_ne_true).mpr q3
      have hx2 := hx'.2
      split at hx2
      · have hb := sE b g tk hx2
        have h := notFresh (D := D) (C := C) (W := W) (.and a b) (fun _ => rfl) (PE_imp (pe_and (pos := p) ha.pe (pe_one hb.pe)) fun _ _ _ => n_and)
        have w := PW_imp (pw_and (pos := p) ha.pt (pw_and1 hb.pt)) fun _ _ _ => tt
        exact ⟨h.1, h.2, w.pt, fun _ => w⟩
      · have hb := sE b g tk hx2
        have h := notFresh (D := D) (C := C) (W := W) (.and a b) (fun _ => rfl) (PE_imp (pe_and (pos := p) ha.pe hb.pe) fun _ _ _ => n_and)
        have w := PW_imp (pw_and (pos := p) ha.pt (hb.pw ⟨_, _, _, rfl⟩)) fun _ _ _ => tt
        exact ⟨h.1, h.2, w.pt, fun _ => w⟩
    · cases hx'
  | .or a b, X, W, x, g, tk, hx => by
    have hx' := hx
    unfold chkE at hx'
    split at hx'
    · rename_i a' b' r p
      rw [Bool.and_eq_true] at hx'
      have ha := sE a g tk hx'.1
      have tt : ∀ {σ : St} {H : Hp} {Q : Bool → Hp → Prop}, tT' D C W (.or a b) σ H Q → tOr (tT' D C W a) (tT' D C W b) σ H Q := fun {σ H Q} ⟨env, c, r, q⟩ => by
        refine tT_bnd r q fun v c1 H1 r1 x1 h1 => ?_
        cases v <;> try (exact h1.elim)
        rename_i kb
        refine ⟨kb, rfl, ?_⟩
        cases kb with
        | false => exact (if_neg Bool.false_ne_true).mpr ⟨env, c1, r1, tM_evB h1⟩
        | true =>
          obtain ⟨b', e3, q3⟩ := tM_rt h1 r1
          cases e3
          exact (if_pos rfl).mpr q3
      have hx2 := hx'.2
      split at hx2
      · have hb := sE b g tk hx2
        have h := notFresh (D := D) (C := C) (W := W) (.or a b) (fun _ => rfl) (PE_imp (pe_or (pos := p) ha.pe (pe_one hb.pe)) fun _ _ _ => n_or)
        have w := PW_imp (pw_or (pos := p) ha.pt (pw_or1 hb.pt)) fun _ _ _ => tt
        exact ⟨h.1, h.2, w.pt, fun _ => w⟩
      · have hb := sE b g tk hx2
        have h := notFresh (D := D) (C := C) (W := W) (.or a b) (fun _ => rfl) (PE_imp (pe_or (pos := p) ha.pe hb.pe) fun _ _ _ => n_or)
        have w := PW_imp (pw_or (pos := p) ha.pt (hb.pw ⟨_, _, _, rfl⟩)) fun _ _ _ => tt
        exact ⟨h.1, h.2, w.pt, fun _ => w⟩
    · cases hx'
  | .cmp op a b, X, W, x, g, tk, hx => by
    have hx' := hx
    unfold chkE at hx'
    split at hx'
    · rename_i a' op' b' pos
      simp only [Bool.and_eq_true, Bool.not_eq_true'] at hx'
      obtain ⟨⟨⟨h0, h1⟩, h2⟩, h3⟩ := hx'
      have ha := (sE a g tk h1).pb h1
      have hb := (sE b g tk h2).pb h2
      have e := copB_eq h0
      subst e
      have h := notFresh (D := D) (C := C) (W := W) (.cmp op a b) (fun _ => rfl) (PE_imp (pe_cmpR (pos := pos) (op_cmp g.hK g.hu op) ha hb h3) fun σ H Q ⟨env, c, r, q⟩ => n_cmp r q fun k c1 H1 r1 q1 => q1 _ (.bl _))
      exact ⟨h.1, h.2, PT_imp (pt_cmpR (op_cmp g.hK g.hu op) ha hb h3) fun σ H Q ⟨env, c, r, q⟩ => n_cmp r q fun k c1 H1 r1 ⟨k', e, q1⟩ => ⟨k, rfl, by cases e; exact q1⟩, fun ⟨_, _, _, z⟩ => nomatch z⟩
    · cases hx'
  | .chain op1 op2 a b d, X, W, x, g, tk, hx => by
    have hx' := hx
    unfold chkE at hx'
    split at hx'
    · rename_i a' o1 o2 b' d' pos
      simp only [Bool.and_eq_true, Bool.not_eq_true'] at hx'
      obtain ⟨⟨⟨⟨⟨h0, h0'⟩, h1⟩, h2⟩, h3⟩, h4⟩ := hx'
      have ha := (sE a g tk h1).pb h1
      have hb := (sE b g tk h2).pb h2
      have hd := (sE d g tk h3).pb h3
      have e := copB_eq h0
      have e' := copB_eq h0'
      subst e e'
      have h := notFresh (D := D) (C := C) (W := W) (.chain op1 op2 a b d) (fun _ => rfl) (PE_imp (pe_chain (pos := pos) (op_cmp g.hK g.hu op1) (op_cmp g.hK g.hu op2) ha hb hd h4) fun σ H Q ⟨env, c, r, q⟩ => n_chain r q fun k c1 H1 r1 q1 => q1 _ (.bl _))
      exact ⟨h.1, h.2, PT_imp (pt_chain (op_cmp g.hK g.hu op1) (op_cmp g.hK g.hu op2) ha hb hd h4) fun σ H Q ⟨env, c, r, q⟩ => n_chain r q fun k c1 H1 r1 ⟨k', e, q1⟩ => ⟨k, rfl, by cases e; exact q1⟩, fun ⟨_, _, _, z⟩ => nomatch z⟩
    · cases hx'
  | .idx a i, X, W, x, g, tk, hx => by
    have hx' := hx
    unfold chkE at hx'
    split at hx'
    · rw [Bool.and_eq_true] at hx'
      have ha := (sE a g tk hx'.1).pb hx'.1
      exact snd_of g hx (notFresh _ (fun _ => rfl) (PE_imp (pe_ix (ix_all g.hK) ha (sE i g tk hx'.2).pe (plainIx_of hx'.2)) fun _ _ _ => n_idx)) (fun _ _ _ z => nomatch z) (fun _ => rfl)
    · cases hx'
  | .sli a lo hi, X, W, x, g, tk, hx => by
    have hx' := hx
    unfold chkE at hx'
    split at hx'
    · simp only [Bool.and_eq_true] at hx'
      have ha := (sE a g tk hx'.1.1).pb hx'.1.1
      exact snd_of g hx (bothP _ (fun _ _ z => nomatch z) (PE_imp (pe_slice (sl_all g.hK) ha (sO lo g tk hx'.1.2) (sO hi g tk hx'.2)) fun _ _ _ => n_sli)) (fun _ _ _ z => nomatch z) (fun _ => rfl)
    · cases hx'
  | .tup es, X, W, x, g, tk, hx => by
    have hx' := hx
    unfold chkE at hx'
    split at hx'
    · exact snd_of g hx (notFresh _ (fun _ => rfl) (PE_imp (pe_tup (sA es g tk hx').1) fun _ _ _ => n_tup)) (fun _ _ _ z => nomatch z) (fun _ => rfl)
    · cases hx'
  | .lst es, X, W, x, g, tk, hx => by
    have hx' := hx
    unfold chkE at hx'
    split at hx'
    · exact snd_of g hx (bothP _ (fun _ _ z => nomatch z) (PE_imp (pe_lst (sA es g tk hx').1) fun _ _ _ => n_lst)) (fun _ _ _ z => nomatch z) (fun _ => rfl)
    · cases hx'
  | .call f es, X, W, x, g, tk, hx => by
    have hx' := hx
    unfold chkE at hx'
    split at hx'
    · rename_i n p1 e' es' p2
      simp only [Bool.and_eq_true, decide_eq_true_eq] at hx'
      obtain ⟨⟨h1, h2⟩, h3⟩ := hx'
      obtain ⟨a, fd, ps, m1, m2, m3, F⟩ := g.fns f n h1
      obtain ⟨g1, g2⟩ := glB_of h2
      have ha := (sA es g tk h3).1
      have he : starEach (e' :: es') X.env = (false, eval e' X.env) :: starEach es' X.env := by
        cases es with
        | nil => cases h3
        | cons e1 es1 =>
          simp only [chkEs, Bool.and_eq_true] at h3
          exact star_cons (chkE_star h3.1)
      have hpl : (backTo p2 (starEach es' X.env)).any (·.1) = false := by
        cases es with
        | nil => cases h3
        | cons e1 es1 =>
          simp only [chkEs, Bool.and_eq_true] at h3
          exact star_any h3.2
      have go := pe_callS (p := p1) (pos := p2) F g.room g1 m1 m2 m3 (passAt tk) ha g2 he hpl
      exact snd_of g hx ⟨PE_imp go fun _ _ _ => n_call, PE_imp go fun _ _ _ => n_callF⟩ (fun _ _ _ z => nomatch z) (fun _ => rfl)
    · cases hx'
  | .blt b es, X, W, x, g, tk, hx => by
    have hx' := hx
    unfold chkE at hx'
    split at hx'
    · rename_i n p1 e' es' p2
      simp only [Bool.and_eq_true, decide_eq_true_eq] at hx'
      obtain ⟨⟨h1, h2⟩, h3⟩ := hx'
      obtain ⟨g1, g2⟩ := glB_of h2
      subst h1
      have ha := (sA es g tk h3).2
      have he : starEach (e' :: es') X.env = (false, eval e' X.env) :: starEach es' X.env := by
        cases es with
        | nil => cases h3
        | cons e1 es1 =>
          simp only [chkEs, Bool.and_eq_true] at h3
          exact star_cons (chkE_star h3.1)
      have hpl : (backTo p2 (starEach es' X.env)).any (·.1) = false := by
        cases es with
        | nil => cases h3
        | cons e1 es1 =>
          simp only [chkEs, Bool.and_eq_true] at h3
          exact star_any h3.2
      have op := op_blt (X := X) (T := D.T) g.hK g.hu g.calm b
      have bo := boot_blt b
      have go : PE X (.Call (.Name (bltN b) p1) (e' :: es') [] p2) (tCB (rBlt D.T b) (tAB D C W es)) := by
        have bn := g.blt b
        have nn := blt_name b
        cases b <;> first
          | exact pe_callB op g1 bn bo ha nn g2 he hpl
          | exact pe_callTy op g1 bn bo ha nn g2 he hpl
      exact snd_of g hx (bothP _ (fun _ _ z => nomatch z) (PE_imp go fun _ _ _ => n_blt)) (fun _ _ _ z => nomatch z) (fun _ => rfl)
    · cases hx'
  | .isi a t, X, W, x, g, tk, hx => by
    have hx' := hx
    unfold chkE at hx'
    split at hx'
    · rename_i n p1 a' m p3 p2
      simp only [Bool.and_eq_true, decide_eq_true_eq] at hx'
      obtain ⟨⟨⟨⟨h1, h2⟩, h3⟩, h4⟩, h5⟩ := hx'
      subst h1 h2
      obtain ⟨g1, g2⟩ := glB_of h3
      obtain ⟨g3, g4⟩ := glB_of h4
      have ha := (sE a g tk h5).pb h5
      have go := pe_callB (p := p1) (pos := p2) (call_isi (X := X)) g1 g.isi boot_isi (pa_cons ha (pa_cons (pe_bltn (pos := p3) g3 (g.tys t) (boot_ty t) (v := .ty (tyS t)) rfl (ty_name t) g4) pa_nil) (star_cons (chkE_star h5))) (by decide) g2 (star_cons (chkE_star h5)) rfl
      exact snd_of g hx (notFresh _ (fun _ => rfl) (PE_imp go fun _ _ _ => n_isi g.hK)) (fun _ _ _ z => nomatch z) (fun _ => rfl)
    · cases hx'
  | .comp elt p it cond, X, W, x, g, tk, hx => by
    have hx' := hx
    unfold chkE at hx'
    split at hx'
    · rename_i elt' tg iter ifs scope pos
      simp only [Bool.and_eq_true, Bool.not_eq_true'] at hx'
      obtain ⟨⟨⟨⟨⟨⟨h1, h2⟩, h3⟩, h4⟩, h5⟩, h6⟩, h7⟩ := hx'
      have go := pe_lc (X := X) (pos := pos) (g := tgM X.K p) g.calm g.nd (sI it (tg := tg) g tk h1) (blkOk_by h5)
        (fun s H Ca cl fp => pg_M (X := X.blk s H scope (compEnvC scope cl Ca X.env) fp) g.calm g.nd loc_blk h2)
        (fun s H Ca cl fp => sC cond (X := X.blk s H scope (compEnvC scope cl Ca X.env) fp) (g.blk s H scope _ fp) takes_F h3)
        (fun s H Ca cl fp => (sE elt (X := X.blk s H scope (compEnvC scope cl Ca X.env) fp) (g.blk s H scope _ fp) takes_F h4).pe) (set_iter h7)
      refine snd_of g hx (bothP _ (fun _ _ z => nomatch z) (PE_imp go fun σ H Q q => ?_)) (fun _ _ _ z => nomatch z) (fun _ => rfl)
      have := lc_ok (sameB_mem h6) (tg_nodup h2) q
      rw [show tgM X.K p = tgM D.T.K p by rw [g.hK]]
      exact this
    · cases hx'
  | .rev _, X, W, x, g, tk, hx => by unfold chkE at hx; cases hx
  | .att _ _, X, W, x, g, tk, hx => by unfold chkE at hx; cases hx
  | .exf _ _, X, W, x, g, tk, hx => by unfold chkE at hx; cases hx
  | .new _ _ _, X, W, x, g, tk, hx => by unfold chkE at hx; cases hx
  | .mth _ _ _ _, X, W, x, g, tk, hx => by unfold chkE at hx; cases hx
  | .comp2 _ _ _ _ _ _, X, W, x, g, tk, hx => by unfold chkE at hx; cases hx
  | .rgt (.rg1 a), X, W, x, g, tk, hx => by
    have hx' := hx
    unfold chkE at hx'
    split at hx'
    · simp only [Bool.and_eq_true, decide_eq_true_eq] at hx'
      obtain ⟨⟨⟨h1, h2⟩, _⟩, h3⟩ := hx'
      subst h1
      obtain ⟨g1, g2⟩ := glB_of h2
      unfold chkI at h3
      split at h3
      · simp only [Bool.and_eq_true, decide_eq_true_eq] at h3
        obtain ⟨⟨k1, k2⟩, k3⟩ := h3
        subst k1
        exact snd_of g hx (notFresh _ (fun _ => rfl) (PE_imp (pe_tupRg g.calm g1 (g.blt .tuple) (prg_1 (glB_of k2).1 g.rng (sE a g tk k3).pe (star_cons (chkE_star k3)))) fun σ H Q ⟨env, c, r, q⟩ => rg1_of r q fun j c1 H1 r1 x1 o h => rgt_fin (c := c) r1 o h)) (fun _ _ _ z => nomatch z) (fun _ => rfl)
      · cases h3
    · cases hx'
  | .rgt (.rg2 a b), X, W, x, g, tk, hx => by
    have hx' := hx
    unfold chkE at hx'
    split at hx'
    · simp only [Bool.and_eq_true, decide_eq_true_eq] at hx'
      obtain ⟨⟨⟨h1, h2⟩, _⟩, h3⟩ := hx'
      subst h1
      obtain ⟨g1, g2⟩ := glB_of h2
      unfold chkI at h3
      split at h3
      · simp only [Bool.and_eq_true, decide_eq_true_eq] at h3
        obtain ⟨⟨⟨k1, k2⟩, k3⟩, k4⟩ := h3
        subst k1
        have sb := star_cons (xs := []) (env := X.env) (chkE_star k4)
        exact snd_of g hx (notFresh _ (fun _ => rfl) (PE_imp (pe_tupRg g.calm g1 (g.blt .tuple) (prg_2 (glB_of k2).1 g.rng (sE a g tk k3).pe (sE b g tk k4).pe (star_cons (chkE_star k3)) sb (by rw [sb]; rfl))) fun σ H Q ⟨env, c, r, q⟩ => rg2_of r q fun i j c1 H1 r1 x1 o h => rgt_fin (c := c) r1 o h)) (fun _ _ _ z => nomatch z) (fun _ => rfl)
      · cases h3
    · cases hx'
  | .rgl (.rg1 a), X, W, x, g, tk, hx => by
    have hx' := hx
    unfold chkE at hx'
    split at hx'
    · simp only [Bool.and_eq_true, decide_eq_true_eq] at hx'
      obtain ⟨⟨⟨h1, h2⟩, _⟩, h3⟩ := hx'
      subst h1
      obtain ⟨g1, g2⟩ := glB_of h2
      unfold chkI at h3
      split at h3
      · simp only [Bool.and_eq_true, decide_eq_true_eq] at h3
        obtain ⟨⟨k1, k2⟩, k3⟩ := h3
        subst k1
        exact snd_of g hx (bothP _ (fun _ _ z => nomatch z) (PE_imp (pe_listRg g.calm g1 (g.blt .list) (prg_1 (glB_of k2).1 g.rng (sE a g tk k3).pe (star_cons (chkE_star k3)))) fun σ H Q ⟨env, c, r, q⟩ => rg1_of r q fun j c1 H1 r1 x1 o h => rgl_fin r1 x1 o h)) (fun _ _ _ z => nomatch z) (fun _ => rfl)
      · cases h3
    · cases hx'
  | .rgl (.rg2 a b), X, W, x, g, tk, hx => by
    have hx' := hx
    unfold chkE at hx'
    split at hx'
    · simp only [Bool.and_eq_true, decide_eq_true_eq] at hx'
      obtain ⟨⟨⟨h1, h2⟩, _⟩, h3⟩ := hx'
      subst h1
      obtain ⟨g1, g2⟩ := glB_of h2
      unfold chkI at h3
      split at h3
      · simp only [Bool.and_eq_true, decide_eq_true_eq] at h3
        obtain ⟨⟨⟨k1, k2⟩, k3⟩, k4⟩ := h3
        subst k1
        have sb := star_cons (xs := []) (env := X.env) (chkE_star k4)
        exact snd_of g hx (bothP _ (fun _ _ z => nomatch z) (PE_imp (pe_listRg g.calm g1 (g.blt .list) (prg_2 (glB_of k2).1 g.rng (sE a g tk k3).pe (sE b g tk k4).pe (star_cons (chkE_star k3)) sb (by rw [sb]; rfl))) fun σ H Q ⟨env, c, r, q⟩ => rg2_of r q fun i j c1 H1 r1 x1 o h => rgl_fin r1 x1 o h)) (fun _ _ _ z => nomatch z) (fun _ => rfl)
      · cases h3
    · cases hx'
  | .rgt (.seq _), X, W, x, g, tk, hx => by
    unfold chkE at hx
    split at hx
    · simp only [isRg, Bool.and_false, Bool.false_and] at hx; cases hx
    · cases hx
  | .rgt (.rgd _ _), X, W, x, g, tk, hx => by
    unfold chkE at hx
    split at hx
    · simp only [isRg, Bool.and_false, Bool.false_and] at hx; cases hx
    · cases hx
  | .rgl (.seq _), X, W, x, g, tk, hx => by
    unfold chkE at hx
    split at hx
    · simp only [isRg, Bool.and_false, Bool.false_and] at hx; cases hx
    · cases hx
  | .rgl (.rgd _ _), X, W, x, g, tk, hx => by
    unfold chkE at hx
    split at hx
    · simp only [isRg, Bool.and_false, Bool.false_and] at hx; cases hx
    · cases hx
  | .dnew, X, W, x, g, tk, hx => by unfold chkE at hx; cases hx
  | .dstr _ _, X, W, x, g, tk, hx => by unfold chkE at hx; cases hx
  | .dcomp _ _ _ _, X, W, x, g, tk, hx => by unfold chkE at hx; cases hx
theorem sA : ∀ (es : MEs) {X : Cx} {W : WX} {xs : List Expr}, Gd D C k X → Takes X W → chkEs D.fn D.gl X.N es X.env.scope xs = true → PA X xs (tA D C W es) ∧ PA X xs (tAB D C W es)
  | .nil, X, W, xs, g, tk, hx => by
    unfold chkEs at hx
    split at hx
    · exact ⟨PA_imp pa_nil fun _ _ _ ⟨_, _, r, h⟩ => tM_rt h r _ trivial, PA_imp pa_nil fun _ _ _ ⟨_, _, r, h⟩ => tM_rt h r _ trivial⟩
    · cases hx
  | .cons e es, X, W, xs, g, tk, hx => by
    unfold chkEs at hx
    split at hx
    · rw [Bool.and_eq_true] at hx
      have he := sE e g tk hx.1
      have hs := sA es g tk hx.2
      refine ⟨PA_imp (pa_cons he.pe hs.1 (star_cons (chkE_star hx.1))) fun σ H Q ⟨env, c, r, h⟩ => ?_, PA_imp (pa_cons (he.pb hx.1) hs.2 (star_cons (chkE_star hx.1))) fun σ H Q ⟨env, c, r, h⟩ => ?_⟩
      · exact to_tE r h fun v c1 H1 u r1 x1 ru h1 => to_tA r1 h1 fun vs c2 H2 us r2 x2 rus h2 => tM_rt h2 r2 (u :: us) ⟨ru.ext x2, rus⟩
      · exact to_tB r h fun v c1 H1 u r1 x1 ru h1 => to_tAB r1 h1 fun vs c2 H2 us r2 x2 rus h2 => tM_rt h2 r2 (u :: us) ⟨ru.ext x2, rus⟩
    · cases hx
theorem sO : ∀ (o : MO) {X : Cx} {W : WX} {x : Option Expr}, Gd D C k X → Takes X W → chkO D.fn D.gl X.N o X.env.scope x = true → PO X x (tOp' D C W o)
  | .no, X, W, x, g, tk, hx => by
    unfold chkO at hx
    split at hx
    · exact PO_imp po_none fun _ _ _ ⟨_, _, r, h⟩ => tM_rt h r
    · cases hx
  | .so e, X, W, x, g, tk, hx => by
    unfold chkO at hx
    split at hx
    · exact PO_imp (po_some (sE e g tk hx).pe) fun _ _ _ => n_part
    · cases hx
theorem sC : ∀ (o : MO) {X : Cx} {W : WX} {xs : List Expr}, Gd D C k X → Takes X W → chkC D.fn D.gl X.N o X.env.scope xs = true → PTs X xs (tC' D C W o)
  | .no, X, W, xs, g, tk, hx => by
    unfold chkC at hx
    split at hx
    · exact ⟨fun pins s σ H Q I ⟨_, _, r, h⟩ => pts_nil.run pins s σ H Q I (tM_rt h r)⟩
    · cases hx
  | .so e, X, W, xs, g, tk, hx => by
    unfold chkC at hx
    split at hx
    · exact ⟨fun pins s σ H Q I h => (pts_one (sE e g tk hx).pt).run pins s σ H Q I (tT_of h)⟩
    · cases hx
theorem sI : ∀ (it : MI) {X : Cx} {W : WX} {tg x : Expr}, Gd D C k X → Takes X W → chkI D.fn D.gl X.N it X.env.scope x = true → PI X tg x (tI D C W it)
  | .seq e, X, W, tg, x, g, tk, hx => by
    unfold chkI at hx
    have hp := pi_seq (tg := tg) ((sE e g tk hx).pb hx)
    rw [g.hK] at hp
    refine PI_imp hp fun σ H R ⟨env, c, r, h⟩ => to_tB r h fun v c1 H1 u r1 x1 ru h1 => ?_
    obtain ⟨ps, e1, h2⟩ := tM_opt h1
    have q := tM_rt h2 r1
    cases v <;> simp only [Sk.itemsOf] at e1 <;> try (cases e1; done)
    · split at e1
      · rename_i hz
        rw [lineEq] at hz
        cases e1
        cases ru.str
        exact .inr (.inr ⟨_, rfl, q _ (wk_str hz)⟩)
      · cases e1
    · cases e1
      obtain ⟨a, vs, rfl, g1, g2, d⟩ := ru.tup r1.base
      exact .inr (.inl ⟨a, vs, rfl, g1, fun hz => q _ (wk_tup d hz fun c' H' b x => ⟨sqt_sub b.sub (sqt_sub x.g g2), x.g⟩)⟩)
    · cases e1
      obtain ⟨a, vs, rfl, g1, d⟩ := ru.lst r1.base
      exact .inl ⟨a, vs, rfl, g1, fun hz => q _ (wk_list d hz fun c' H' b x => ⟨sql_keep r1.base x g1, x.g⟩)⟩
  | .rg1 a, X, W, tg, x, g, tk, hx => by
    unfold chkI at hx
    split at hx
    · simp only [Bool.and_eq_true, decide_eq_true_eq] at hx
      obtain ⟨⟨h1, h2⟩, h3⟩ := hx
      subst h1
      obtain ⟨g1, g2⟩ := glB_of h2
      refine PI_imp (pi_range1 g1 g.rng (pa_cons (sE a g tk h3).pe pa_nil (star_cons (chkE_star h3))) (star_cons (chkE_star h3))) fun σ H R ⟨env, c, r, h⟩ => to_tE r h fun v c1 H1 u r1 x1 ru h4 => ?_
      cases v <;> try (exact h4.elim)
      rename_i i
      cases int_at ru
      dsimp only at h4
      split at h4
      · rename_i hc
        rw [Bool.and_eq_true, decide_eq_true_eq, lineEq] at hc
        obtain ⟨b1, b2⟩ := r62_of hc.1
        exact ⟨i, rfl, b1, b2, tM_rt h4 r1 _ (wk_rng hc.2)⟩
      · exact h4.elim
    · cases hx
  | .rg2 a b, X, W, tg, x, g, tk, hx => by
    unfold chkI at hx
    split at hx
    · simp only [Bool.and_eq_true, decide_eq_true_eq] at hx
      obtain ⟨⟨⟨h1, h2⟩, h3⟩, h4⟩ := hx
      subst h1
      obtain ⟨g1, g2⟩ := glB_of h2
      refine PI_imp (pi_range2 g1 g.rng (pa_cons (sE a g tk h3).pe (pa_cons (sE b g tk h4).pe pa_nil (star_cons (chkE_star h4))) (star_cons (chkE_star h3))) ((star_cons (chkE_star h3)).trans (congrArg _ (star_cons (chkE_star h4)))) (star_cons (chkE_star h4)))
        fun σ H R ⟨env, c, r, h⟩ => to_tE r h fun v c1 H1 u r1 x1 ru h5 => to_tE r1 h5 fun w c2 H2 u2 r2 x2 ru2 h6 => ?_
      cases v <;> try (exact h6.elim)
      rename_i i
      cases w <;> try (exact h6.elim)
      rename_i j
      cases int_at ru
      cases int_at ru2
      dsimp only at h6
      split at h6
      · rename_i hc
        simp only [Bool.and_eq_true, decide_eq_true_eq] at hc
        rw [lineEq] at hc
        obtain ⟨b1, b2⟩ := r62_of hc.1.1
        obtain ⟨b3, b4⟩ := r62_of hc.1.2
        exact ⟨i, j, rfl, ⟨b1, b2, b3, b4⟩, tM_rt h6 r2 _ (wk_rng hc.2)⟩
      · exact h6.elim
    · cases hx
  | .rgd _ _, X, W, tg, x, g, tk, hx => by unfold chkI at hx; cases hx
end
/-- what a for statement walks -/
theorem sJ (it : MI) {X : Cx} {W : WX} {tg x : Expr} (g : Gd D C k X) (tk : Takes X W) (hx : chkI D.fn D.gl X.N it X.env.scope x = true) : PI X tg x (tJ D C W it) := by
  have other : (∀ env, Sk.evJ D.G C it env = Sk.evI D.G C it env) → (∀ (c : Cf) (H : Hp) ps J, Wk D.T.K (Ext c H) J ps → Wk D.T.K (Ext c H) J ps) → True := fun _ _ => trivial
  cases it with
  | seq e =>
    unfold chkI at hx
    have hp := pi_seq (tg := tg) (sE e g tk hx).pe
    rw [g.hK] at hp
    refine PI_imp hp fun σ H R ⟨env, c, r, h⟩ => to_tE r h fun v c1 H1 u r1 x1 ru h1 => ?_
    obtain ⟨ps, e1, h2⟩ := tM_opt h1
    have q := tM_rt h2 r1
    cases v <;> simp only [Sk.itemsOf] at e1 <;> try (cases e1; done)
    · split at e1
      · rename_i hz
        rw [lineEq] at hz
        cases e1
        cases (show DP D.T.K c1.G u _ from ru)
        exact .inr (.inr ⟨_, rfl, q _ (wk_str hz)⟩)
      · cases e1
    · cases e1
      cases (show DP D.T.K c1.G u _ from ru) with
      | tup g2 d => exact .inr (.inl ⟨_, _, rfl, sqt_sub r1.base.sub g2, fun hz => q _ (wk_tup d hz fun c' H' b x => ⟨sqt_sub b.sub (sqt_sub x g2), x⟩)⟩)
    · cases e1
      cases (show DP D.T.K c1.G u _ from ru) with
      | lst g2 d => exact .inl ⟨_, _, rfl, sql_sub r1.base.sub g2, fun hz => q _ (wk_list d hz fun c' H' b x => ⟨sql_sub b.sub (sql_sub x g2), x⟩)⟩
  | rg1 a =>
    unfold chkI at hx
    split at hx
    · simp only [Bool.and_eq_true, decide_eq_true_eq] at hx
      obtain ⟨⟨h1, h2⟩, h3⟩ := hx
      subst h1
      obtain ⟨g1, g2⟩ := glB_of h2
      refine PI_imp (pi_range1 g1 g.rng (pa_cons (sE a g tk h3).pe pa_nil (star_cons (chkE_star h3))) (star_cons (chkE_star h3))) fun σ H R ⟨env, c, r, h⟩ => to_tE r h fun v c1 H1 u r1 x1 ru h4 => ?_
      cases v <;> try (exact h4.elim)
      rename_i i
      cases int_at ru
      dsimp only at h4
      split at h4
      · rename_i hc
        rw [Bool.and_eq_true, decide_eq_true_eq, lineEq] at hc
        obtain ⟨b1, b2⟩ := r62_of hc.1
        exact ⟨i, rfl, b1, b2, tM_rt h4 r1 _ (wk_rng hc.2)⟩
      · exact h4.elim
    · cases hx
  | rg2 a b =>
    unfold chkI at hx
    split at hx
    · simp only [Bool.and_eq_true, decide_eq_true_eq] at hx
      obtain ⟨⟨⟨h1, h2⟩, h3⟩, h4⟩ := hx
      subst h1
      obtain ⟨g1, g2⟩ := glB_of h2
      refine PI_imp (pi_range2 g1 g.rng (pa_cons (sE a g tk h3).pe (pa_cons (sE b g tk h4).pe pa_nil (star_cons (chkE_star h4))) (star_cons (chkE_star h3))) ((star_cons (chkE_star h3)).trans (congrArg _ (star_cons (chkE_star h4)))) (star_cons (chkE_star h4)))
        fun σ H R ⟨env, c, r, h⟩ => to_tE r h fun v c1 H1 u r1 x1 ru h5 => to_tE r1 h5 fun w c2 H2 u2 r2 x2 ru2 h6 => ?_
      cases v <;> try (exact h6.elim)
      rename_i i
      cases w <;> try (exact h6.elim)
      rename_i j
      cases int_at ru
      cases int_at ru2
      dsimp only at h6
      split at h6
      · rename_i hc
        simp only [Bool.and_eq_true, decide_eq_true_eq] at hc
        rw [lineEq] at hc
        obtain ⟨b1, b2⟩ := r62_of hc.1.1
        obtain ⟨b3, b4⟩ := r62_of hc.1.2
        exact ⟨i, j, rfl, ⟨b1, b2, b3, b4⟩, tM_rt h6 r2 _ (wk_rng hc.2)⟩
      · exact h6.elim
    · cases hx
  | rgd a b => unfold chkI at hx; cases hx
end
end SkB

set_option Elab.async false
set_option linter.all false
set_option maxRecDepth 100000
/-! Part B11: what a statement promises. -/
namespace SkB
open PySem PySem.Spec L2
open Sk (PV ME MEs MO MI MP MS MSs Slot Sto Out Fl Calls FD BO CO Bi Ty)

/-- how a body's state goes on: what stood at its entry is kept -/
structure ExtS (c : Cf) (H : Hp) (c' : Cf) (H' : Hp) : Prop where
  io : ∃ more, c'.io = c.io ++ more
  g : Sub c.G c'.G
  keep : ∀ a o, H a = some o → c.z a ≠ none → a ∉ c.io → H' a = some o
  there : ∀ a o, H a = some o → ∃ o', H' a = some o'
  no : ∀ a, c.z a ≠ none → c.G a = none → c'.G a = none
  new : ∀ a ∈ c'.io, a ∈ c.io ∨ H a = none
  z : c'.z = c.z
theorem ExtS.refl {c : Cf} {H : Hp} : ExtS c H c H := ⟨⟨[], by simp⟩, fun _ _ h => h, fun _ _ h _ _ => h, fun _ o h => ⟨o, h⟩, fun _ _ h => h, fun _ h => .inl h, rfl⟩
theorem ExtS.trans {c c1 c2 : Cf} {H H1 H2 : Hp} (x : ExtS c H c1 H1) (y : ExtS c1 H1 c2 H2) : ExtS c H c2 H2 := by
  have notIn : ∀ a o, H a = some o → a ∉ c.io → a ∉ c1.io := fun a o h n z => by
    rcases x.new a z with z | z
    · exact n z
    · rw [h] at z; cases z
  refine ⟨?_, fun a o h => y.g a o (x.g a o h), fun a o h hz n => y.keep a o (x.keep a o h hz n) (by rw [x.z]; exact hz) (notIn a o h n), fun a o h => ?_, fun a hz n => y.no a (by rw [x.z]; exact hz) (x.no a hz n), fun a h => ?_, y.z.trans x.z⟩
  · obtain ⟨m1, e1⟩ := x.io
    obtain ⟨m2, e2⟩ := y.io
    exact ⟨m1 ++ m2, by rw [e2, e1, List.append_assoc]⟩
  · obtain ⟨o1, h1⟩ := x.there a o h
    exact y.there a o1 h1
  · rcases y.new a h with h | h
    · exact x.new a h
    · refine .inr ?_
      cases e : H a with
      | none => rfl
      | some o =>
        obtain ⟨o1, h1⟩ := x.there a o e
        rw [h] at h1; cases h1
theorem Ext.s {K : PySem.W.Frag} {c c' : Cf} {H H' : Hp} (b : Base K c H) (x : Ext c H c' H') : ExtS c H c' H' := by
  refine ⟨x.io, x.g, fun a o h _ n => x.keep a o h n, x.there, fun a hz n => ?_, x.new, x.z⟩
  cases e : c.z a with
  | none => exact absurd e hz
  | some o =>
    obtain ⟨o', e'⟩ := b.zs a o e
    exact x.no a o' e' n
theorem ExtS.whole {c c' : Cf} {H H' : Hp} (x : ExtS c H c' H') (hz : ∀ a o, H a = some o → c.z a ≠ none) : Ext c H c' H' :=
  ⟨x.io, x.g, fun a o h n => x.keep a o h (hz a o h) n, x.there, fun a o h n => x.no a (hz a o h) n, x.new, x.z⟩

/-- a statement's computation from the ground (b, Hb) -/
def tK (T : Px) (b : Cf) (Hb : Hp) (st : Sto) (m : Sk.M (Fl × Sk.Env)) (k : Fl → Sk.Env → Cf → St → Hp → Prop) : Prop := match m st with
  | .ok a st' => ∀ c' H' σ', c'.st = st' → Rel T.K a.2 c' σ' H' → ExtS b Hb c' H' → k a.1 a.2 c' σ' H'
  | _ => False
/-- how a statement may be left -/
def Lv (T : Px) (W : WX) (D : Ends) : Fl → Sk.Env → Cf → St → Hp → Prop := fun fl _ c σ H => match fl with
  | .nx => D.nx σ H
  | .bk => D.bk σ H
  | .ct => D.ct σ H
  | .rt v => ∀ u, RV T.K c u v → D.rt u H
  | .ro xs => ∀ a vs, H a = some (.lst vs) → c.G a = none → a ∉ c.io → c.z a = none → DPs T.K c.G vs xs → D.rt (.ref a) H
  | .ex n v => ∀ d, Exo T c H n d v → W (.ref (T.xc n)) (some d) σ H
section
variable {α : Type} {T : Px} {W : WX} {D : Ends} {env : Sk.Env} {σ : St} {b c : Cf} {Hb H : Hp} {st : Sto} {k k' : Fl → Sk.Env → Cf → St → Hp → Prop}
theorem tK_mono {m : Sk.M (Fl × Sk.Env)} (h : tK T b Hb st m k) (f : ∀ fl env' c' σ' H', Rel T.K env' c' σ' H' → ExtS b Hb c' H' → k fl env' c' σ' H' → k' fl env' c' σ' H') : tK T b Hb st m k' := by
  unfold tK at h ⊢
  cases e : m st with
  | ok a st' => rw [e] at h; exact fun c' H' σ' e1 r x => f _ _ _ _ _ r x (h c' H' σ' e1 r x)
  | exn n v st' => rw [e] at h; exact h
  | bad => rw [e] at h; exact h
theorem tK_bnd {m : Sk.M (Fl × Sk.Env)} {f : Fl × Sk.Env → Sk.M (Fl × Sk.Env)} (h : tK T b Hb st (Sk.bnd m f) k) : tK T b Hb st m fun fl env' c' _ _ => tK T b Hb c'.st (f (fl, env')) k := by
  unfold tK Sk.bnd at h
  unfold tK
  cases e : m st with
  | ok a st' =>
    rw [e] at h
    intro c' H' σ' e1 r x
    rw [e1]
    exact h
  | exn n v st' => rw [e] at h; exact h
  | bad => rw [e] at h; exact h
theorem tK_opt {o : Option α} {f : α → Sk.M (Fl × Sk.Env)} (h : tK T b Hb st (Sk.bnd (Sk.opt o) f) k) : ∃ a, o = some a ∧ tK T b Hb st (f a) k := by
  cases o with
  | none => exact h.elim
  | some a => exact ⟨a, rfl, h⟩
theorem tK_bndE {m : Sk.M α} {f : α → Sk.M (Fl × Sk.Env)} (r : Rel T.K env c σ H) (x : ExtS b Hb c H) (h : tK T b Hb c.st (Sk.bndE env m f) (Lv T W D)) : tM T W env σ c H m fun a c1 H1 => tK T b Hb c1.st (f a) (Lv T W D) := by
  unfold tK Sk.bndE at h
  unfold tM
  cases e : m c.st with
  | ok a st' =>
    rw [e] at h
    intro c1 H1 e1 r1 x1
    rw [e1]
    exact h
  | exn n v st' =>
    rw [e] at h
    exact fun c' H' d e1 r1 x1 xo => h c' H' σ e1 r1 (x.trans (x1.s r.base)) d xo
  | bad => rw [e] at h; exact h
theorem tK_rt {fl : Fl} {env' : Sk.Env} (h : tK T b Hb st (Sk.rt (fl, env')) k) (e : c.st = st) (r : Rel T.K env' c σ H) (x : ExtS b Hb c H) : k fl env' c σ H := h c H σ e r x
theorem tK_withO {i : Nat} {f : List PV → Sk.M (Fl × Sk.Env)} (h : tK T b Hb st (Sk.withO env i f) k) : ∃ xs, env[i]? = some (.ow xs) ∧ tK T b Hb st (f xs) k := by
  unfold Sk.withO at h
  split at h
  · rename_i xs e
    cases hs : env[i]? with
    | none => rw [hs] at e; cases e
    | some s =>
      rw [hs] at e
      cases s <;> simp only [Sk.owOf] at e <;> cases e
      exact ⟨xs, rfl, h⟩
  · exact h.elim
end

/-! ### own lists in the slots -/
section
variable {K : PySem.W.Frag} {env : Sk.Env} {σ : St} {c : Cf} {H : Hp} {i : Nat} {xs xs' : List PV} {a : Addr} {vs vs' : List V}
theorem set_slot {s s' : Slot} {j : Nat} (e : (env.set i s)[j]? = some s') : (j = i ∧ s' = s ∧ i < env.length) ∨ (j ≠ i ∧ env[j]? = some s') := by
  by_cases q : j = i
  · subst q
    have hlt : j < env.length := by
      have := (List.getElem?_eq_some_iff.mp e).1
      rwa [List.length_set] at this
    rw [List.getElem?_set_self hlt] at e
    cases e
    exact .inl ⟨rfl, rfl, hlt⟩
  · rw [List.getElem?_set_ne (Ne.symm q)] at e
    exact .inr ⟨q, e⟩
/-- a new list into a slot -/
theorem Rel.setOw (r : Rel K env c σ H) (h1 : H a = some (.lst vs)) (h2 : c.G a = none) (h3 : a ∉ c.io) (h4 : c.z a = none) (d : DPs K c.G vs xs) (ne : ∀ (j : Nat) (ys : List PV), env[j]? = some (Slot.ow ys) → σ[j]?.join ≠ some (V.ref a)) :
    Rel K (env.set i (.ow xs)) c (σ.set i (some (.ref a))) H := by
  have here : i < env.length → (σ.set i (some (V.ref a)))[i]? = some (some (.ref a)) := fun hl => List.getElem?_set_self (by rw [← r.len]; exact hl)
  refine ⟨r.base, by rw [List.length_set, List.length_set]; exact r.len, fun j s e => ?_, fun j l ys zs a' njl e1 e2 e3 => ?_⟩
  · rcases set_slot e with ⟨rfl, rfl, hl⟩ | ⟨q, e⟩
    · rw [here hl]
      exact ⟨a, vs, rfl, h1, h2, h3, d, h4⟩
    · rw [List.getElem?_set_ne (Ne.symm q)]
      exact r.slot j s e
  · rcases set_slot e1 with ⟨rfl, q1, hl⟩ | ⟨q1, f1⟩
    · rw [here hl] at e3
      cases e3
      rcases set_slot e2 with ⟨rfl, _, _⟩ | ⟨q2, e2⟩
      · exact absurd rfl njl
      · rw [List.getElem?_set_ne (Ne.symm q2)]
        exact ne l zs e2
    · rw [List.getElem?_set_ne (Ne.symm q1)] at e3
      rcases set_slot e2 with ⟨rfl, _, hl⟩ | ⟨q2, e2⟩
      · rw [here hl]
        intro z
        cases z
        exact ne j ys f1 e3
      · rw [List.getElem?_set_ne (Ne.symm q2)]
        exact r.own j l ys zs a' njl f1 e2 e3
theorem Rel.newOw {c0 : Cf} {H0 : Hp} (r0 : Rel K env c0 σ H0) (h : H0 a = none) : ∀ (j : Nat) (ys : List PV), env[j]? = some (Slot.ow ys) → σ[j]?.join ≠ some (V.ref a) := fun j ys e z => by
  have k := r0.slot j _ e
  rw [z] at k
  obtain ⟨b, ws, e1, g1, _⟩ := k
  cases e1
  rw [h] at g1; cases g1
/-- what an own slot holds -/
theorem Rel.ow (r : Rel K env c σ H) (e : env[i]? = some (.ow xs)) : ∃ a vs, σ[i]? = some (some (.ref a)) ∧ H a = some (.lst vs) ∧ c.G a = none ∧ a ∉ c.io ∧ DPs K c.G vs xs ∧ c.z a = none := by
  obtain ⟨v, e1, a, vs, e2, g⟩ := var_at r e (fun z => nomatch z)
  subst e2
  exact ⟨a, vs, e1, g⟩
theorem Rel.write (r : Rel K env c σ H) (e : env[i]? = some (.ow xs)) (hs : σ[i]? = some (some (.ref a))) (g : c.G a = none) (io : a ∉ c.io) (z : c.z a = none) (d : DPs K c.G vs' xs') : Rel K (env.set i (.ow xs')) c σ (upd H a (.lst vs')) := by
  have hs' : σ[i]?.join = some (.ref a) := by rw [hs]; rfl
  have old : ∀ {j : Nat} {ys : List PV}, (env.set i (.ow xs'))[j]? = some (.ow ys) → ∃ zs, env[j]? = some (.ow zs) := fun {j ys} e' => by
    rcases set_slot e' with ⟨rfl, _, _⟩ | ⟨_, e'⟩
    · exact ⟨xs, e⟩
    · exact ⟨ys, e'⟩
  refine ⟨r.base.own_upd g, by rw [List.length_set]; exact r.len, fun j s e' => ?_, fun j l ys zs a' ne e1 e2 e3 => ?_⟩
  · rcases set_slot e' with ⟨rfl, rfl, hl⟩ | ⟨q, e'⟩
    · rw [hs']
      exact ⟨a, vs', rfl, upd_same, g, io, d, z⟩
    · have k := r.slot j s e'
      cases s with
      | un => exact trivial
      | sh p => cases ho : σ[j]?.join with
        | none => rw [ho] at k; exact k
        | some v => rw [ho] at k; exact k
      | ow qs =>
        cases ho : σ[j]?.join with
        | none => rw [ho] at k; exact k
        | some v =>
          rw [ho] at k
          obtain ⟨b, ws, e1, g1, g2⟩ := k
          subst e1
          have nb : b ≠ a := fun q2 => by
            subst q2
            exact r.own j i qs xs b q e' e ho hs'
          exact ⟨b, ws, rfl, by rw [upd_ne nb]; exact g1, g2⟩
      | ex p => cases ho : σ[j]?.join with
        | none => rw [ho] at k; exact k
        | some v => exact trivial
  · obtain ⟨ys', e1'⟩ := old e1
    obtain ⟨zs', e2'⟩ := old e2
    exact r.own j l ys' zs' a' ne e1' e2' e3
theorem ExtS.write {b : Cf} {Hb : Hp} (x : ExtS b Hb c H) (z : c.z a = none) {o : HO} : ExtS b Hb c (upd H a o) := by
  have z' : b.z a = none := by rw [← x.z]; exact z
  refine ⟨x.io, x.g, fun d u h hz n => ?_, fun d u h => ?_, x.no, x.new, x.z⟩
  · have q : d ≠ a := fun q => hz (q ▸ z')
    rw [upd_ne q]; exact x.keep d u h hz n
  · by_cases q : d = a
    · subst q; exact ⟨o, upd_same⟩
    · rw [upd_ne q]; exact x.there d u h
/-- an own list is shared from now on -/
theorem Rel.freeze (r : Rel K env c σ H) (e : env[i]? = some (.ow xs)) (hs : σ[i]? = some (some (.ref a))) (h1 : H a = some (.lst vs)) (g : c.G a = none) (io : a ∉ c.io) (d : DPs K c.G vs xs) :
    Rel K (env.set i (.sh (.lst xs))) { c with G := upd c.G a (.lst vs) } σ H := by
  have hs' : σ[i]?.join = some (.ref a) := by rw [hs]; rfl
  have hg : Sub c.G (upd c.G a (.lst vs)) := sub_upd g
  refine ⟨⟨fun b' u e' => ?_, fun b' z => ?_, r.base.st, r.base.zs⟩, by rw [List.length_set]; exact r.len, fun j s e' => ?_, fun j l ys zs a' ne e1 e2 e3 => ?_⟩
  · have e2 : upd c.G a (.lst vs) b' = some u := e'
    by_cases q : b' = a
    · subst q; rw [upd_same] at e2; cases e2; exact h1
    · rw [upd_ne q] at e2; exact r.base.sub b' u e2
  · have q : b' ≠ a := fun q => io (q ▸ z)
    obtain ⟨k1, k2⟩ := r.base.io b' z
    exact ⟨by show upd c.G a (.lst vs) b' = none; rw [upd_ne q]; exact k1, k2⟩
  · rcases set_slot e' with ⟨rfl, rfl, hl⟩ | ⟨q, e'⟩
    · rw [hs']
      exact .lst (.inl (.inl upd_same)) (DPs.sub hg d)
    · have k := r.slot j s e'
      cases s with
      | un => exact trivial
      | sh p =>
        cases ho : σ[j]?.join with
        | none => rw [ho] at k; exact k
        | some v =>
          rw [ho] at k
          cases p with
          | ref n => exact k
          | _ => exact DP.sub hg k
      | ow qs =>
        cases ho : σ[j]?.join with
        | none => rw [ho] at k; exact k
        | some v =>
          rw [ho] at k
          obtain ⟨b', ws, e1, g1, g2, g3, g4, g5⟩ := k
          subst e1
          have nb : b' ≠ a := fun q2 => by
            subst q2
            exact r.own j i qs xs b' q e' e ho hs'
          exact ⟨b', ws, rfl, g1, by show upd c.G a (.lst vs) b' = none; rw [upd_ne nb]; exact g2, g3, DPs.sub hg g4, g5⟩
      | ex p => cases ho : σ[j]?.join with
        | none => rw [ho] at k; exact k
        | some v => exact trivial
  · rcases set_slot e1 with ⟨_, z, _⟩ | ⟨_, e1⟩
    · cases z
    · rcases set_slot e2 with ⟨_, z, _⟩ | ⟨_, e2⟩
      · cases z
      · exact r.own j l ys zs a' ne e1 e2 e3
theorem ExtS.freeze {b : Cf} {Hb : Hp} (x : ExtS b Hb c H) (g : c.G a = none) (z : c.z a = none) : ExtS b Hb { c with G := upd c.G a (.lst vs) } H := by
  have z' : b.z a = none := by rw [← x.z]; exact z
  refine ⟨x.io, fun d o h => sub_upd g d o (x.g d o h), x.keep, x.there, fun d hz n => ?_, x.new, x.z⟩
  have q : d ≠ a := fun q => hz (q ▸ z')
  show upd c.G a (.lst vs) d = none
  rw [upd_ne q]; exact x.no d hz n
end

/-! ### promises -/
section
variable (D' : Pd) (C : Calls) (W : WX)
def tSt (s : MS) : TS := fun D σ H => ∃ env c b Hb, Rel D'.T.K env c σ H ∧ ExtS b Hb c H ∧ tK D'.T b Hb c.st (Sk.sx D'.G C s env) (Lv D'.T W D)
def tSS (ss : MSs) : TS := fun D σ H => ∃ env c b Hb, Rel D'.T.K env c σ H ∧ ExtS b Hb c H ∧ tK D'.T b Hb c.st (Sk.sxs D'.G C ss env) (Lv D'.T W D)
end
theorem PS_imp {X : Cx} {st : Stmt} {t t' : TS} (h : PS X st t) (f : ∀ D σ H, t' D σ H → t D σ H) : PS X st t' := ⟨fun pins s σ H D I q => h.run pins s σ H D I (f D σ H q)⟩
theorem PSs_imp {X : Cx} {st : List Stmt} {t t' : TS} (h : PSs X st t) (f : ∀ D σ H, t' D σ H → t D σ H) : PSs X st t' := ⟨fun pins s σ H D I q => h.run pins s σ H D I (f D σ H q)⟩
end SkB

set_option Elab.async false
set_option linter.all false
set_option maxRecDepth 100000
set_option maxHeartbeats 1000000
/-! Part B12: every statement that the checker lets pass. -/
namespace SkB
open PySem PySem.Spec L2
open Sk (PV ME MEs MO MI MP MS MSs Slot Sto Out Fl Calls FD BO CO Bi Ty)

def isTupE : Expr → Bool
  | .Tuple _ _ _ => true
  | _ => false
def isCompE : Expr → Bool
  | .ListComp _ _ _ _ => true
  | .SetComp _ _ _ _ => true
  | .DictComp _ _ _ _ _ => true
  | _ => false
section
variable (fn gl : Nat → Option Str) (N : List Str) (sc : Scope)
def nm2 (n : Str) (i : Nat) : Bool := nmB N n i && visB sc n && !(n == ("__debug__" : Str)) && !(n == ("__classdict__" : Str))
mutual
def chkS : MS → Stmt → Bool
  | .asg i e, s => match s with
    | .Assign [.Name n _] x _ => nmB N n i && stB sc n && chkE fn gl N e sc x
    | _ => false
  | .asgO i e, s => match s with
    | .Assign [.Name n _] x _ => nmB N n i && stB sc n && chkE fn gl N e sc x
    | _ => false
  | .unp is e, s => match s with
    | .Assign [.Tuple ts k p] x _ => tgB N sc (.tp is) (.Tuple ts k p) && chkE fn gl N e sc x && !(isTupE x)
    | _ => false
  | .app i e, s => match s with
    | .Expr (.Call (.Attribute (.Name n _) m ap) [x] [] cp) _ => nm2 N sc n i && decide (m = "append") && (ap.endLine == cp.line) && chkE fn gl N e sc x
    | _ => false
  | .ext i e, s => match s with
    | .Expr (.Call (.Attribute (.Name n _) m ap) [x] [] cp) _ => nm2 N sc n i && decide (m = "extend") && (ap.endLine == cp.line) && chkE fn gl N e sc x
    | _ => false
  | .ins i k e, s => match s with
    | .Expr (.Call (.Attribute (.Name n _) m ap) [y, x] [] cp) _ => nm2 N sc n i && decide (m = "insert") && (ap.endLine == cp.line) && chkE fn gl N k sc y && chkE fn gl N e sc x
    | _ => false
  | .popD i, s => match s with
    | .Expr (.Call (.Attribute (.Name n _) m ap) [] [] cp) _ => nm2 N sc n i && decide (m = "pop") && (ap.endLine == cp.line)
    | _ => false
  | .popU is i, s => match s with
    | .Assign [.Tuple ts k p] (.Call (.Attribute (.Name n _) m ap) [] [] cp) _ => tgB N sc (.tp is) (.Tuple ts k p) && nm2 N sc n i && decide (m = "pop") && (ap.endLine == cp.line)
    | _ => false
  | .rvs i, s => match s with
    | .Expr (.Call (.Attribute (.Name n _) m ap) [] [] cp) _ => nm2 N sc n i && decide (m = "reverse") && (ap.endLine == cp.line)
    | _ => false
  | .seti i k e, s => match s with
    | .Assign [.Subscript (.Name n _) y _] x _ => nm2 N sc n i && chkE fn gl N k sc y && chkE fn gl N e sc x
    | _ => false
  | .exp e, s => match s with
    | .Expr x _ => chkE fn gl N e sc x && !(isCompE x)
    | _ => false
  | .ret e, s => match s with
    | .Return (some x) _ => chkE fn gl N e sc x
    | _ => false
  | .retO i, s => match s with
    | .Return (some (.Name n _)) _ => nm2 N sc n i
    | _ => false
  | .retN, s => match s with
    | .Return none _ => true
    | _ => false
  | .ite t a b, s => match s with
    | .If x a' b' _ => chkE fn gl N t sc x && chkSs a a' && chkSs b b'
    | _ => false
  | .for p it _ b, s => match s with
    | .For tg iter body [] _ => chkI fn gl N it sc iter && tgB N sc p tg && !(isSet iter) && chkSs b body
    | _ => false
  | .whl _ t _ b, s => match s with
    | .While x body [] _ => chkE fn gl N t sc x && chkSs b body
    | _ => false
  | .brk, s => match s with
    | .Break _ => true
    | _ => false
  | .cnt, s => match s with
    | .Continue _ => true
    | _ => false
  | .pas, s => match s with
    | .Pass _ => true
    | _ => false
  | _, _ => false
def chkSs : MSs → List Stmt → Bool
  | .nil, ss => match ss with
    | [] => true
    | _ => false
  | .cons (.frz _) r, ss => chkSs r ss
  | .cons .nev _, _ => true
  | .cons s r, ss => match ss with
    | x :: xs => chkS s x && chkSs r xs
    | _ => false
end
end

/-! ### small facts -/
theorem swap_no {x : Expr} {t : Option Expr} {l : Nat} {env : Env} (h : isCompE x = false) : swapsWith x t l env = pure false := by
  cases x <;> first | rfl | cases h
theorem swap_sole {x : Expr} {es : List Expr} {k : Nat} {p : Pos} {l : Nat} {env : Env} : swapsWithSole [.Tuple es k p] x l env = pure false := by
  cases x <;> rfl
theorem swap_sub {x o i : Expr} {p : Pos} {l : Nat} {env : Env} : swapsWithSole [.Subscript o i p] x l env = pure false := by
  cases x <;> rfl
theorem stores_no {x : Expr} {es : List Expr} {k : Nat} {p : Pos} {env : Env} (h : isTupE x = false) : swappedStores [.Tuple es k p] x env = pure none := by
  cases x <;> first | rfl | cases h
theorem stores_sub {x o i : Expr} {p : Pos} {env : Env} : swappedStores [.Subscript o i p] x env = pure none := by
  cases x <;> rfl
/-- extend, by a list of any make -/
theorem ext_wide (l b : Addr) (xs ys : Array Value) (n m : Nat) (dd : Option Addr) (sl : Array (Option Value)) (h0 : ¬(!xs.isEmpty && Builtin.List.listTooLong (xs.size + ys.size)) = true) (h1 : xs.size ≤ sizeLine) (h2 : xs.size + ys.size ≤ sizeLine + 1) :
    Meets (Builtin.«list.extend» ⟨[.ref l, .ref b], []⟩) (fun _ R s => s.heap.get? l = some { cls := .type "list", data := .seq xs n } ∧ s.heap.get? b = some { cls := .type "list", dict := dd, data := .seq ys m, slots := sl } ∧ R (.ok (.ret .none)) { s with heap := s.heap.update l (Obj.mapSeq fun x => x ++ ys) }) :=
  .of_wp fun prog w A R s h => by
    obtain ⟨hp, gs, dr, tk, os⟩ := s
    obtain ⟨kl, kb, h⟩ := h
    have w1 := AutoSeq1.idx_int
    have w2 := AutoSeq1.sub_tuple_tuple
    have w3 := AutoSeq1.sub_list_list
    have w4 := AutoSeq1.sub_tuple_list
    have w5 := AutoSeq1.sub_list_tuple
    have total : (xs ++ ys).size ≤ sizeLine + 1 := by rw [Array.size_append]; exact h2
    wp_walk using (wpAny_updateSeq kl rfl (hz := h1) (_hz' := total)), AutoSeq1.wpAny_loadPart' kl, AutoSeq1.wpAny_loadPart' kb
    exact ⟨_, rfl, h⟩
section
variable {X : Cx}
/-- extend, the other list only read -/
theorem mt_extR : MtR X "list.extend" (fun x vs H Q => ∃ l b xs zs, x = .ref l ∧ vs = [.ref b] ∧ H l = some (.lst xs) ∧ SqL X.K H b zs ∧ xs.length + zs.length ≤ sizeLine ∧ Q .non (upd H l (.lst (xs ++ zs)))) := by
  intro pins s σ H x vs v us Q I rx rv h
  obtain ⟨l, b, xs, zs, rfl, rfl, hH, hB, hz, q⟩ := h
  cases rx
  obtain ⟨u, rfl, ru⟩ := rv.one
  cases ru
  obtain ⟨_, its, n, r, len1, e⟩ := I.lstM hH
  obtain ⟨its2, r2, ⟨⟨c2, d2, t2, l2⟩, n2, e2, k4, k5, k6⟩, _⟩ := I.list hB
  simp only at k4 k6
  subst k4 k6
  have len2 := r2.length
  have total : its.toArray.size + its2.toArray.size ≤ sizeLine := by simp only [List.size_toArray]; omega
  have short : ¬ (!its.toArray.isEmpty && Builtin.List.listTooLong (its.toArray.size + its2.toArray.size)) = true := by
    rw [notLongL total, Bool.and_false]
    exact Bool.false_ne_true
  refine call_meets F.slot_list_extend ⟨_, e, rfl⟩ F.entry_list_extend (F.args_list_extend_2 _ _) (ext_wide l b its.toArray its2.toArray n n2 d2 l2 short (by omega) (by omega)) ⟨e, e2, ?_⟩
  exact ⟨.non, _, I.lset (its' := its ++ its2) hH e (by simp) (r.append r2) (by rw [List.length_append]; omega), rfl, q⟩
end
/-- what a def's body may lean on -/
structure Fc (D : Pd) (C : Calls) (k : Nat) (X : Cx) (W : WX) : Prop where
  gd : Gd D C k X
  tk : Takes X W
  po : PassesOwn (model X.prog X.w) X.A X.env X.xe
  fn : ∀ x, X.fn x = true
section
variable {D' : Pd} {C : Calls} {k : Nat} {X : Cx} {W : WX} {D : Ends} {σ : St} {H : Hp}
theorem Fc.loc (g : Fc D' C k X W) : ∀ x, stB X.env.scope x = true → Loc X.env.scope x ∧ (X.fn x = true ∨ X.env.scope.names.lookup x = some .local) := loc_fun rfl g.fn
/-- name = anything -/
theorem ps_any (g : Fc D' C k X W) {e : ME} {i : Nat} {n : Str} {x : Expr} {p1 p2 : Pos} {t : ME → TE} (ht : t = tE D' C W ∨ t = tF D' C W) (h1 : nmB X.N n i = true) (h2 : stB X.env.scope n = true) (h3 : chkE D'.fn D'.gl X.N e X.env.scope x = true) :
    PS X (.Assign [.Name n p1] x p2) (tAsg (t e) (gName i)) := by
  obtain ⟨l1, l2⟩ := g.loc n h2
  have hs := sE e g.gd g.tk h3
  have he : PE X x (t e) := by rcases ht with rfl | rfl <;> first | exact hs.pe | exact hs.pf
  by_cases hc : isCompE x = true
  · have h4 := h3
    cases x <;> try (cases hc; done)
    · rename_i elt' gens scope pos
      cases e <;> simp only [chkE] at h4 <;> try (cases h4; done)
      rename_i elt p it cond
      split at h4
      · rename_i tg iter ifs scope' pos' he'
        cases he'
        by_cases hb : (X.env.blockKind == .function && X.env.kindOf n == some .local && p1.line == pos.line && !(scope.names.any fun (m, k) => m == n && (k == .local || k == .cell))) = true
        · simp only [Bool.and_eq_true, Bool.not_eq_true'] at h4
          obtain ⟨⟨⟨⟨⟨⟨a1, a2⟩, a3⟩, a4⟩, a5⟩, a6⟩, a7⟩ := h4
          have loc : X.env.scope.names.lookup n = some .local := by
            simp only [Bool.and_eq_true, beq_iff_eq] at hb
            exact hb.1.1.2
          have sw : swapsWith (.ListComp elt' [⟨tg, iter, ifs, 0⟩] scope pos) (some (.Name n p1)) p2.line X.env = pure true := by
            show pure _ = pure true
            exact congrArg pure hb
          have go := ps_setLc (X := X) (py := p1) (spos := p2) (pos := pos) (g := tgM X.K p) g.gd.calm g.gd.nd (nmB_of h1) loc sw (sI it (tg := tg) g.gd g.tk a1) (blkOk_by a5)
            (fun s H Ca cl fp => pg_M (X := X.blk s H scope (compEnvC scope cl Ca X.env) fp) g.gd.calm g.gd.nd loc_blk a2)
            (fun s H Ca cl fp => sC cond (X := X.blk s H scope (compEnvC scope cl Ca X.env) fp) (g.gd.blk s H scope _ fp) takes_F a3)
            (fun s H Ca cl fp => (sE elt (X := X.blk s H scope (compEnvC scope cl Ca X.env) fp) (g.gd.blk s H scope _ fp) takes_F a4).pe) (set_iter a7)
          refine PS_imp go fun D σ H q => ?_
          have q2 : tP D' C W (.comp elt p it cond) σ H fun v H1 => gName i v σ H1 D.nx := by
            rcases ht with rfl | rfl
            · exact tE_tP q
            · exact tE_of_tF (fun _ => rfl) q
          have := lc_ok (sameB_mem a6) (tg_nodup a2) q2
          show tLc (tI D' C W it) (tgM X.K p) (tC' D' C WF cond) (tE D' C WF elt) _ σ H _
          rw [show tgM X.K p = tgM D'.T.K p by rw [g.gd.hK]]
          exact this
        · refine ps_set g.gd.nd (nmB_of h1) l1 he ?_ (.inl (g.fn n))
          show pure _ = pure false
          exact congrArg pure (Bool.eq_false_iff.mpr hb)
      · cases h4
    · cases e <;> simp [chkE] at h4
    · cases e <;> simp [chkE] at h4
  · exact ps_set g.gd.nd (nmB_of h1) l1 he (swap_no (by simpa using hc)) (.inl (g.fn n))

/-! ### statement by statement -/
theorem tK_re {T : Px} {b c : Cf} {Hb H : Hp} {st : Sto} {m : Sk.M (Fl × Sk.Env)} {k : Fl → Sk.Env → Cf → St → Hp → Prop} (x : ExtS b Hb c H) (h : tK T b Hb st m k) : tK T c H st m k := by
  unfold tK at h ⊢
  cases e : m st with
  | ok a st' => rw [e] at h; exact fun c' H' σ' e1 r y => h c' H' σ' e1 r (x.trans y)
  | exn n v st' => rw [e] at h; exact h
  | bad => rw [e] at h; exact h
theorem nm2_of {N : List Str} {sc : Scope} {n : Str} {i : Nat} (h : nm2 N sc n i = true) : N[i]? = some n ∧ Vis sc n ∧ (n == ("__debug__" : Str)) = false ∧ (n == ("__classdict__" : Str)) = false := by
  unfold nm2 at h
  simp only [Bool.and_eq_true, Bool.not_eq_true'] at h
  exact ⟨nmB_of h.1.1.1, visB_of h.1.1.2, h.1.2, h.2⟩
theorem pv_of {n : Str} {i : Nat} {p : Pos} (h : nm2 X.N X.env.scope n i = true) : PE X (.Name n p) (tVar i) := by
  obtain ⟨h1, h2, h3, h4⟩ := nm2_of h
  exact pe_var h1 h2 h3 h4
theorem s_asg {i : Nat} {e : ME} (h : tSt D' C W (.asg i e) D σ H) : tAsg (tE D' C W e) (gName i) D σ H := by
  obtain ⟨env, c, b, Hb, r, x, h⟩ := h
  refine ⟨env, c, r, tM_mono (tK_bndE r x h) fun v c1 H1 r1 x1 h1 u ru => ?_⟩
  exact tK_rt h1 rfl ((r1.x (S := [i]) rfl fun _ _ => rfl).set ru).rel (x.trans (x1.s r.base))
theorem s_asgO {i : Nat} {e : ME} (h : tSt D' C W (.asgO i e) D σ H) : tAsg (tF D' C W e) (gName i) D σ H := by
  obtain ⟨env, c, b, Hb, r, x, h⟩ := h
  refine ⟨env, c, r, tM_mono (tK_bndE r x h) fun v c1 H1 r1 x1 h1 a vs g1 g2 g3 g4 d => ?_⟩
  refine tK_rt h1 rfl (r1.setOw g1 g2 g3 ?_ d (r.newOw g4)) (x.trans (x1.s r.base))
  rw [x1.z]; exact r.base.nz g4
theorem s_unp {is : List Nat} {e : ME} (hK : X.K = D'.T.K) (hp : is.Nodup) (h : tSt D' C W (.unp is e) D σ H) : tAsg (tB D' C W e) (tgM X.K (.tp is)) D σ H := by
  obtain ⟨env, c, b, Hb, r, x, h⟩ := h
  refine ⟨env, c, r, tM_mono (tK_bndE r x h) fun v c1 H1 r1 x1 h1 u ru => ?_⟩
  rw [hK]
  have x2 := x.trans (x1.s r.base)
  have h2 := tK_bndE r1 x2 h1
  obtain ⟨env', e1, h3⟩ := tM_opt h2
  have h4 := tM_rt h3 r1
  have d : DP D'.T.K c1.G u v := by
    rcases ru with ru | ⟨a, vs, ps, rfl, _⟩
    · cases v with
      | ref n => cases e1
      | _ => exact ru
    · cases e1
  exact tg_ok (p := .tp is) hp (r1.x rfl fun _ _ => rfl) d e1 fun σ2 r2 _ _ => tK_rt h4 rfl r2 x2
theorem list_ty {K : PySem.W.Frag} {a : Addr} {vs : List V} (h : H a = some (.lst vs)) : tyV K "list" (.ref a) H := .inl ⟨rfl, vs, .inl (.inl h)⟩
theorem s_app {i : Nat} {e : ME} (h : tSt D' C W (.app i e) D σ H) : tDrop (tBM X.K "list" rAppend (tVar i) (tCons (tE D' C W e) tNil)) D σ H := by
  obtain ⟨env, c, b, Hb, r, x, h⟩ := h
  obtain ⟨xs, ei, h⟩ := tK_withO h
  obtain ⟨a, vs, hs, h1, h2, h3, d, h4⟩ := r.ow ei
  refine ⟨.ref a, hs, list_ty h1, env, c, r, tM_mono (tK_bndE r x h) fun v c1 H1 r1 x1 q u ru => ?_⟩
  have g1 := x1.keep _ _ h1 h3
  have n : ¬ (Sk.isRef v || decide (Sk.line ≤ xs.length)) = true := fun z => by rw [if_pos z] at q; exact q.elim
  rw [if_neg n] at q
  simp only [Bool.or_eq_true, decide_eq_true_eq, not_or, Bool.not_eq_true, Nat.not_le] at n
  have g2 := x1.no _ _ h1 h2
  have z1 : c1.z a = none := by rw [x1.z]; exact h4
  have d1 := DPs.sub x1.g d
  have hl := DPs.len d
  refine ⟨a, vs, u, rfl, rfl, g1, ?_, ?_⟩
  · rw [hl, ← lineEq]; exact n.2
  · exact tK_rt q rfl (r1.write ei hs g2 (by rw [r1.base.st.2]; simp) z1 (DPs.app d1 (.cons (ru.dp n.1) .nil))) ((x.trans (x1.s r.base)).write z1)
theorem s_ext {i : Nat} {e : ME} (hK : X.K = D'.T.K) (h : tSt D' C W (.ext i e) D σ H) : tDrop (tBM X.K "list" (fun x vs H Q => ∃ l b xs zs, x = .ref l ∧ vs = [.ref b] ∧ H l = some (.lst xs) ∧ SqL X.K H b zs ∧ xs.length + zs.length ≤ sizeLine ∧ Q .non (upd H l (.lst (xs ++ zs)))) (tVar i) (tCons (tB D' C W e) tNil)) D σ H := by
  obtain ⟨env, c, b, Hb, r, x, h⟩ := h
  obtain ⟨xs, ei, h⟩ := tK_withO h
  obtain ⟨a, vs, hs, h1, h2, h3, d, h4⟩ := r.ow ei
  refine ⟨.ref a, hs, list_ty h1, env, c, r, tM_mono (tK_bndE r x h) fun v c1 H1 r1 x1 q u ru => ?_⟩
  cases v <;> try (exact q.elim)
  rename_i ys
  dsimp only at q
  obtain ⟨a2, vs2, rfl, k1, k2⟩ := ru.lst r1.base
  have n : xs.length + ys.length ≤ Sk.line := Classical.byContradiction fun z => by rw [if_neg z] at q; exact q.elim
  rw [if_pos n] at q
  have g1 := x1.keep _ _ h1 h3
  have g2 := x1.no _ _ h1 h2
  have z1 : c1.z a = none := by rw [x1.z]; exact h4
  have d1 := DPs.sub x1.g d
  refine ⟨a, a2, vs, vs2, rfl, rfl, g1, hsq hK k1, ?_, ?_⟩
  · rw [DPs.len d, DPs.len k2, ← lineEq]; exact n
  · exact tK_rt q rfl (r1.write ei hs g2 (by rw [r1.base.st.2]; simp) z1 (DPs.app d1 k2)) ((x.trans (x1.s r.base)).write z1)
theorem s_ins {i : Nat} {kk e : ME} (h : tSt D' C W (.ins i kk e) D σ H) : tDrop (tBM X.K "list" (fun x vs H Q => ∃ (l : Addr) (xs : List V) (i : Int) (y : V), x = .ref l ∧ vs = [.int i, y] ∧ H l = some (.lst xs) ∧ xs.length < sizeLine ∧ 0 ≤ i ∧ i < 2 ^ 63 ∧
    Q .non (upd H l (.lst (xs.take i.toNat ++ [y] ++ xs.drop i.toNat)))) (tVar i) (tCons (tE D' C W kk) (tCons (tE D' C W e) tNil))) D σ H := by
  obtain ⟨env, c, b, Hb, r, x, h⟩ := h
  obtain ⟨xs, ei, h⟩ := tK_withO h
  obtain ⟨a, vs, hs, h1, h2, h3, d, h4⟩ := r.ow ei
  refine ⟨.ref a, hs, list_ty h1, env, c, r, tM_mono (tK_bndE r x h) fun w c0 H0 r0 x0 q0 u0 ru0 => ⟨env, c0, r0, tM_mono (tK_bndE r0 (x.trans (x0.s r.base)) q0) fun v c1 H1 r1 x1 q u ru => ?_⟩⟩
  cases w <;> try (exact q.elim)
  rename_i j
  dsimp only at q
  cases int_at ru0
  have n : ¬ (Sk.isRef v || decide (Sk.line ≤ xs.length) || decide (j < 0) || decide (9223372036854775808 ≤ j)) = true := fun z => by rw [if_pos z] at q; exact q.elim
  rw [if_neg n] at q
  simp only [Bool.or_eq_true, decide_eq_true_eq, not_or, Bool.not_eq_true, Nat.not_le, Int.not_lt, Int.not_le] at n
  obtain ⟨⟨⟨n1, n2⟩, n3⟩, n4⟩ := n
  have x01 := x0.trans x1
  have g1 := x01.keep _ _ h1 h3
  have g2 := x01.no _ _ h1 h2
  have z1 : c1.z a = none := by rw [x01.z]; exact h4
  have d1 := DPs.sub x01.g d
  refine ⟨a, vs, j, u, rfl, rfl, g1, ?_, n3, by omega, ?_⟩
  · rw [DPs.len d, ← lineEq]; exact n2
  · exact tK_rt q rfl (r1.write ei hs g2 (by rw [r1.base.st.2]; simp) z1 (DPs.app (DPs.app (DPs.take _ d1) (.cons (ru.dp n1) .nil)) (DPs.drop _ d1))) ((x.trans (x01.s r.base)).write z1)
theorem s_popD {i : Nat} (h : tSt D' C W (.popD i) D σ H) : tDrop (tBM0 X.K "list" rPop (tVar i)) D σ H := by
  obtain ⟨env, c, b, Hb, r, x, h⟩ := h
  obtain ⟨xs, ei, h⟩ := tK_withO h
  obtain ⟨a, vs, hs, h1, h2, h3, d, h4⟩ := r.ow ei
  have n : ¬ xs.isEmpty = true := fun z => by rw [if_pos z] at h; exact h.elim
  rw [if_neg n] at h
  have hl := DPs.len d
  have hp : vs.length - 1 < vs.length := by
    cases xs with
    | nil => exact absurd rfl n
    | cons p ps => rw [hl]; simp
  exact ⟨.ref a, hs, list_ty h1, a, vs, vs[vs.length - 1], rfl, rfl, h1, List.getElem?_eq_getElem hp, tK_rt h rfl (r.write ei hs h2 h3 h4 d.last) (x.write h4)⟩
theorem s_rvs {i : Nat} (h : tSt D' C W (.rvs i) D σ H) : tDrop (tBM0 X.K "list" rReverse (tVar i)) D σ H := by
  obtain ⟨env, c, b, Hb, r, x, h⟩ := h
  obtain ⟨xs, ei, h⟩ := tK_withO h
  obtain ⟨a, vs, hs, h1, h2, h3, d, h4⟩ := r.ow ei
  exact ⟨.ref a, hs, list_ty h1, a, vs, rfl, rfl, h1, tK_rt h rfl (r.write ei hs h2 h3 h4 d.rev) (x.write h4)⟩
theorem s_popU {is : List Nat} {i : Nat} (hK : X.K = D'.T.K) (hp : is.Nodup) (h : tSt D' C W (.popU is i) D σ H) : tAsg (tBM0 X.K "list" rPop (tVar i)) (tgM X.K (.tp is)) D σ H := by
  obtain ⟨env, c, b, Hb, r, x, h⟩ := h
  obtain ⟨xs, ei, h⟩ := tK_withO h
  obtain ⟨a, vs, hs, h1, h2, h3, d, h4⟩ := r.ow ei
  cases hl : xs.getLast? with
  | none => rw [hl] at h; exact h.elim
  | some p =>
    rw [hl] at h
    cases p <;> try (exact h.elim)
    rename_i ps
    obtain ⟨env', e1, h5⟩ := tK_opt h
    have len := DPs.len d
    have at_ : xs[xs.length - 1]? = some (.tup ps) := by rw [← List.getLast?_eq_getElem?]; exact hl
    obtain ⟨v, e2, dv⟩ := DPs.at d at_
    refine ⟨.ref a, hs, list_ty h1, a, vs, v, rfl, rfl, h1, by rw [len]; exact e2, ?_⟩
    rw [hK]
    have r2 := r.write (vs' := vs.dropLast) (xs' := xs.dropLast) ei hs h2 h3 h4 d.last
    exact tg_ok (p := .tp is) (pv := .tup ps) hp (r2.x rfl fun _ _ => rfl) dv e1 fun σ2 r3 _ _ => tK_rt h5 rfl r3 (x.write h4)
theorem s_seti {i : Nat} {kk e : ME} (h : tSt D' C W (.seti i kk e) D σ H) : tAsg (tE D' C W e) (gSub (tVar i) (tE D' C W kk) rSetL) D σ H := by
  obtain ⟨env, c, b, Hb, r, x, h⟩ := h
  obtain ⟨xs, ei, h⟩ := tK_withO h
  obtain ⟨a, vs, hs, h1, h2, h3, d, h4⟩ := r.ow ei
  refine ⟨env, c, r, tM_mono (tK_bndE r x h) fun v c0 H0 r0 x0 q0 u ru => ⟨.ref a, hs, env, c0, r0, tM_mono (tK_bndE r0 (x.trans (x0.s r.base)) q0) fun w c1 H1 r1 x1 q u1 ru1 => ?_⟩⟩
  cases w <;> try (exact q.elim)
  rename_i j
  dsimp only at q
  cases int_at ru1
  cases hp : Sk.place xs.length j with
  | none => rw [hp] at q; exact q.elim
  | some m =>
    rw [hp] at q
    dsimp only at q
    have n : ¬ Sk.isRef v = true := fun z => by rw [if_pos z] at q; exact q.elim
    rw [if_neg n] at q
    have x01 := x0.trans x1
    have z1 : c1.z a = none := by rw [x01.z]; exact h4
    refine ⟨a, vs, j, m, rfl, rfl, x01.keep _ _ h1 h3, by rw [DPs.len d]; exact place_ix hp, ?_⟩
    exact tK_rt q rfl (r1.write ei hs (x01.no _ _ h1 h2) (by rw [r1.base.st.2]; simp) z1 (DPs.set ((ru.ext x1).dp (by simpa using n)) m (DPs.sub x01.g d))) ((x.trans (x01.s r.base)).write z1)
theorem s_exp {e : ME} (h : tSt D' C W (.exp e) D σ H) : tDrop (tE D' C W e) D σ H := by
  obtain ⟨env, c, b, Hb, r, x, h⟩ := h
  exact ⟨env, c, r, tM_mono (tK_bndE r x h) fun v c1 H1 r1 x1 h1 u ru => tK_rt h1 rfl r1 (x.trans (x1.s r.base))⟩
theorem s_ret {e : ME} (h : tSt D' C W (.ret e) D σ H) : tRet (tE D' C W e) D σ H := by
  obtain ⟨env, c, b, Hb, r, x, h⟩ := h
  exact ⟨env, c, r, tM_mono (tK_bndE r x h) fun v c1 H1 r1 x1 h1 u ru => tK_rt h1 rfl r1 (x.trans (x1.s r.base)) u ru⟩
theorem s_retO {i : Nat} (h : tSt D' C W (.retO i) D σ H) : tRet (tVar i) D σ H := by
  obtain ⟨env, c, b, Hb, r, x, h⟩ := h
  obtain ⟨xs, ei, h⟩ := tK_withO h
  obtain ⟨a, vs, hs, h1, h2, h3, d, h4⟩ := r.ow ei
  exact ⟨.ref a, hs, tK_rt h rfl r x a vs h1 h2 h3 h4 d⟩
theorem s_ite {t : ME} {a b : MSs} (h : tSt D' C W (.ite t a b) D σ H) : tIfS (tT' D' C W t) (tSS D' C W a) (tSS D' C W b) D σ H := by
  obtain ⟨env, c, b0, Hb, r, x, h⟩ := h
  refine tT_of ⟨env, c, r, tM_mono (tK_bndE r x h) fun v c1 H1 r1 x1 h1 => ?_⟩
  cases v with
  | true => exact (if_pos rfl).mpr ⟨env, c1, b0, Hb, r1, x.trans (x1.s r.base), h1⟩
  | false => exact (if_neg Bool.false_ne_true).mpr ⟨env, c1, b0, Hb, r1, x.trans (x1.s r.base), h1⟩
theorem s_whl {n : Nat} {t : ME} {w : List Nat} {b : MSs} (h : tSt D' C W (.whl n t w b) D σ H) : tWhile (tT' D' C W t) (tSS D' C W b) D σ H := by
  obtain ⟨env, c, b0, Hb, r, x, h⟩ := h
  let body : Sk.Env → Sk.M (Fl × Sk.Env) := fun env => Sk.bnd (Sk.sxs D'.G C b env) fun r => Sk.rt (r.1, Sk.wipeE w r.2)
  let Wm : Nat → St → Hp → Prop := fun m σ H => ∃ env c, Rel D'.T.K env c σ H ∧ ExtS b0 Hb c H ∧ tK D'.T b0 Hb c.st (Sk.whL (fun env => Sk.evT D'.G C t env) body m env) (Lv D'.T W D)
  refine ⟨Wm, ⟨n, _, c, r.wipe w, x, h⟩, fun m σ1 H1 ⟨env1, c1, r1, x1, h1⟩ => ?_⟩
  cases m with
  | zero => exact h1.elim
  | succ m =>
    refine tT_of ⟨env1, c1, r1, tM_mono (tK_bndE r1 x1 h1) fun v c2 H2 r2 x2 h2 => ?_⟩
    have x12 := x1.trans (x2.s r1.base)
    cases v with
    | false => exact (if_neg Bool.false_ne_true).mpr (tK_rt h2 rfl r2 x12)
    | true =>
      refine (if_pos rfl).mpr ⟨Wm m, fun σ' H' z => ⟨m, Nat.lt_succ_self m, z⟩, env1, c2, b0, Hb, r2, x12, ?_⟩
      refine tK_mono (tK_bnd (tK_bnd h2)) fun fl env3 c3 σ3 H3 r3 x3 h3 => ?_
      have h4 := tK_rt h3 rfl (r3.wipe w) x3
      cases fl with
      | nx => exact ⟨_, c3, r3.wipe w, x3, h4⟩
      | ct => exact ⟨_, c3, r3.wipe w, x3, h4⟩
      | bk => exact tK_rt (fl := .nx) (env' := Sk.wipeE w env3) h4 rfl (r3.wipe w) x3
      | rt v => exact tK_rt (fl := .rt v) (env' := Sk.wipeE w env3) h4 rfl (r3.wipe w) x3
      | ro xs => exact tK_rt (fl := .ro xs) (env' := Sk.wipeE w env3) h4 rfl (r3.wipe w) x3
      | ex n v => exact tK_rt (fl := .ex n v) (env' := Sk.wipeE w env3) h4 rfl (r3.wipe w) x3
theorem s_for {p : MP} {it : MI} {w : List Nat} {b : MSs} (hp : (slotsP p).Nodup) (h : tSt D' C W (.for p it w b) D σ H) : tFor (tJ D' C W it) (tgM D'.T.K p) (tSS D' C W b) D σ H := by
  obtain ⟨env, c, b0, Hb, r, x, h⟩ := h
  refine ⟨env, c, r, tM_mono (tK_bndE r x h) fun ps c1 H1 r1 x1 h1 J wk => ?_⟩
  have xb := x.trans (x1.s r.base)
  clear h
  generalize hf : (fun (x : PV) (env : Sk.Env) => Sk.bnd (Sk.opt (Sk.bindTo p x env)) fun env1 => Sk.bnd (Sk.sxs D'.G C b env1) fun r => Sk.rt (r.1, Sk.wipeE w r.2)) = f at h1
  let Pv : Nat → St → Hp → Prop := fun i σ' H' => ∃ env' c', Rel D'.T.K env' c' σ' H' ∧ Sub c1.G c'.G ∧ ExtS b0 Hb c' H' ∧ tK D'.T b0 Hb c'.st (Sk.forL f (ps.drop i) env') (Lv D'.T W D)
  refine ⟨fun i m σ' H' => m = ps.length - i ∧ i ≤ ps.length ∧ Pv i σ' H', ⟨ps.length - 0, rfl, Nat.zero_le _, _, c1, r1.wipe w, fun _ _ z => z, xb, by rw [List.drop_zero]; exact h1⟩, ?_⟩
  rintro i m σ' H' ⟨rfl, hi, env', c', r', g', x', hn⟩
  by_cases hlt : i < ps.length
  · right
    have he : ps[i]? = some ps[i] := List.getElem?_eq_getElem hlt
    refine ⟨wk.go c' H' i _ r'.base g' he, Pv (i + 1), fun σ2 H2 hp2 => ⟨ps.length - (i + 1), by omega, rfl, by omega, hp2⟩, fun y H2 hy => ?_⟩
    obtain ⟨e2, dy⟩ := wk.yld c' H' i _ y H2 r'.base g' he hy
    subst e2
    rw [List.drop_eq_getElem_cons hlt] at hn
    have hn1 := tK_bnd (m := f ps[i] env') hn
    rw [← hf] at hn1
    obtain ⟨env1, eb, hn2⟩ := tK_opt hn1
    rw [hf] at hn2
    refine tg_ok hp (r'.x rfl fun _ _ => rfl) dy eb fun σ2 r2 _ _ => ⟨env1, c', c', H2, r2, .refl, tK_mono (tK_re x' (tK_bnd hn2)) fun fl env3 c3 σ3 H3 r3 x3 h3 => ?_⟩
    have x4 := x'.trans x3
    have h4 := tK_rt h3 rfl (r3.wipe w) x4
    cases fl with
    | nx => exact ⟨_, c3, r3.wipe w, fun a o z => x3.g a o (g' a o z), x4, h4⟩
    | ct => exact ⟨_, c3, r3.wipe w, fun a o z => x3.g a o (g' a o z), x4, h4⟩
    | bk => exact tK_rt (fl := .nx) (env' := Sk.wipeE w env3) h4 rfl (r3.wipe w) x4
    | rt v => exact tK_rt (fl := .rt v) (env' := Sk.wipeE w env3) h4 rfl (r3.wipe w) x4
    | ro xs => exact tK_rt (fl := .ro xs) (env' := Sk.wipeE w env3) h4 rfl (r3.wipe w) x4
    | ex n v => exact tK_rt (fl := .ex n v) (env' := Sk.wipeE w env3) h4 rfl (r3.wipe w) x4
  · left
    have ei : i = ps.length := by omega
    subst ei
    refine ⟨wk.stop c' H' r'.base g', ?_⟩
    rw [List.drop_length] at hn
    exact tK_rt hn rfl r' x'
theorem s_seq {s : MS} {r : MSs} (h : tSS D' C W (.cons s r) D σ H) : tSeq (tSt D' C W s) (tSS D' C W r) D σ H := by
  obtain ⟨env, c, b, Hb, q, x, h⟩ := h
  refine ⟨env, c, b, Hb, q, x, tK_mono (tK_bnd (show tK D'.T b Hb c.st (Sk.cat (Sk.sx D'.G C s env) fun env => Sk.sxs D'.G C r env) (Lv D'.T W D) from h)) fun fl env' c' σ' H' r' x' h' => ?_⟩
  cases fl with
  | nx => exact ⟨env', c', b, Hb, r', x', h'⟩
  | bk => exact tK_rt (fl := .bk) (env' := env') h' rfl r' x'
  | ct => exact tK_rt (fl := .ct) (env' := env') h' rfl r' x'
  | rt v => exact tK_rt (fl := .rt v) (env' := env') h' rfl r' x'
  | ro xs => exact tK_rt (fl := .ro xs) (env' := env') h' rfl r' x'
  | ex n v => exact tK_rt (fl := .ex n v) (env' := env') h' rfl r' x'
theorem s_frz {i : Nat} {r : MSs} (h : tSS D' C W (.cons (.frz i) r) D σ H) : tSS D' C W r D σ H := by
  obtain ⟨env, c, b, Hb, q, x, h⟩ := h
  have h1 := tK_bnd (show tK D'.T b Hb c.st (Sk.cat (Sk.sx D'.G C (.frz i) env) fun env => Sk.sxs D'.G C r env) (Lv D'.T W D) from h)
  obtain ⟨xs, ei, h2⟩ := tK_withO h1
  obtain ⟨a, vs, hs, g1, g2, g3, d, g4⟩ := q.ow ei
  have q' := q.freeze ei hs g1 g2 g3 d
  have x' := x.freeze (vs := vs) g2 g4
  exact ⟨_, _, b, Hb, q', x', tK_rt (c := { c with G := upd c.G a (.lst vs) }) h2 rfl q' x'⟩
end
theorem sub_of {fn gl : Nat → Option Str} {N : List Str} {sc : Scope} {e : ME} {o y : Expr} {p : Pos} {env : Env} {v : Value} (h : chkE fn gl N e sc y = true) : assign (.Subscript o y p) env v = (do
      let ov ← holding [v] (eval o env)
      let iv ← holding [v, ov] (eval y env)
      standAt p
      holding [v, ov, iv] (setItem ov iv v)
      release [v, ov, iv] []) := by
  cases y <;> try rfl
  cases e <;> simp [chkE] at h
section
variable {D' : Pd} {C : Calls} {k : Nat}
mutual
theorem sS : ∀ (s : MS) {X : Cx} {W : WX} {st : Stmt}, Fc D' C k X W → chkS D'.fn D'.gl X.N X.env.scope s st = true → PS X st (tSt D' C W s)
  | .asg i e, X, W, st, g, h => by
    unfold chkS at h
    split at h
    · simp only [Bool.and_eq_true] at h
      exact PS_imp (ps_any g (t := tE D' C W) (.inl rfl) h.1.1 h.1.2 h.2) fun _ _ _ => s_asg
    · cases h
  | .asgO i e, X, W, st, g, h => by
    unfold chkS at h
    split at h
    · simp only [Bool.and_eq_true] at h
      exact PS_imp (ps_any g (t := tF D' C W) (.inr rfl) h.1.1 h.1.2 h.2) fun _ _ _ => s_asgO
    · cases h
  | .unp is e, X, W, st, g, h => by
    unfold chkS at h
    split at h
    · simp only [Bool.and_eq_true, Bool.not_eq_true'] at h
      exact PS_imp (ps_asg ((sE e g.gd g.tk h.1.2).pb h.1.2) (pg_M g.gd.calm g.gd.nd g.loc h.1.1) swap_sole (stores_no h.2)) fun _ _ _ => s_unp g.gd.hK (tg_nodup h.1.1)
    · cases h
  | .frz i, X, W, st, g, h => by unfold chkS at h; cases h
  | .app i e, X, W, st, g, h => by
    unfold chkS at h
    split at h
    · simp only [Bool.and_eq_true, decide_eq_true_eq] at h
      obtain ⟨⟨⟨h1, h2⟩, h3⟩, h4⟩ := h
      subst h2
      have sc := star_cons (xs := []) (env := X.env) (chkE_star h4)
      exact PS_imp (ps_expr (pe_bm F.plainAttrs_list F.slot_list_append F.type_list_append mt_append (pv_of h1) (pa_cons (sE e g.gd g.tk h4).pe pa_nil sc) rfl (by rw [sc]; rfl) h3 sc rfl)) fun _ _ _ => s_app
    · cases h
  | .ext i e, X, W, st, g, h => by
    unfold chkS at h
    split at h
    · simp only [Bool.and_eq_true, decide_eq_true_eq] at h
      obtain ⟨⟨⟨h1, h2⟩, h3⟩, h4⟩ := h
      subst h2
      have sc := star_cons (xs := []) (env := X.env) (chkE_star h4)
      exact PS_imp (ps_expr (pe_bm F.plainAttrs_list F.slot_list_extend F.type_list_extend mt_extR (pv_of h1) (pa_cons ((sE e g.gd g.tk h4).pb h4) pa_nil sc) rfl (by rw [sc]; rfl) h3 sc rfl)) fun _ _ _ => s_ext g.gd.hK
    · cases h
  | .ins i kk e, X, W, st, g, h => by
    unfold chkS at h
    split at h
    · rename_i n p1 m ap y x cp p2
      simp only [Bool.and_eq_true, decide_eq_true_eq] at h
      obtain ⟨⟨⟨⟨h1, h2⟩, h3⟩, h4⟩, h5⟩ := h
      subst h2
      have sc := star_cons (xs := [x]) (env := X.env) (chkE_star h4)
      have sc2 := star_cons (xs := []) (env := X.env) (chkE_star h5)
      exact PS_imp (ps_expr (pe_bm F.plainAttrs_list F.slot_list_insert F.type_list_insert mt_insert (pv_of h1) (pa_cons (sE kk g.gd g.tk h4).pe (pa_cons (sE e g.gd g.tk h5).pe pa_nil sc2) sc) rfl (by rw [sc, sc2]; rfl) h3 sc (by rw [sc2]; rfl))) fun _ _ _ => s_ins
    · cases h
  | .popD i, X, W, st, g, h => by
    unfold chkS at h
    split at h
    · simp only [Bool.and_eq_true, decide_eq_true_eq] at h
      obtain ⟨⟨h1, h2⟩, h3⟩ := h
      subst h2
      exact PS_imp (ps_expr (pe_bm0 F.plainAttrs_list F.slot_list_pop F.type_list_pop mt_pop (pv_of h1) rfl h3)) fun _ _ _ => s_popD
    · cases h
  | .popU is i, X, W, st, g, h => by
    unfold chkS at h
    split at h
    · simp only [Bool.and_eq_true, decide_eq_true_eq] at h
      obtain ⟨⟨⟨h0, h1⟩, h2⟩, h3⟩ := h
      subst h2
      exact PS_imp (ps_asg (pe_bm0 F.plainAttrs_list F.slot_list_pop F.type_list_pop mt_pop (pv_of h1) rfl h3) (pg_M g.gd.calm g.gd.nd g.loc h0) swap_sole (stores_no rfl)) fun _ _ _ => s_popU g.gd.hK (tg_nodup h0)
    · cases h
  | .rvs i, X, W, st, g, h => by
    unfold chkS at h
    split at h
    · simp only [Bool.and_eq_true, decide_eq_true_eq] at h
      obtain ⟨⟨h1, h2⟩, h3⟩ := h
      subst h2
      exact PS_imp (ps_expr (pe_bm0 F.plainAttrs_list F.slot_list_reverse F.type_list_reverse mt_reverse (pv_of h1) rfl h3)) fun _ _ _ => s_rvs
    · cases h
  | .seti i kk e, X, W, st, g, h => by
    unfold chkS at h
    split at h
    · simp only [Bool.and_eq_true] at h
      exact PS_imp (ps_asg (sE e g.gd g.tk h.2).pe (pg_sub (pv_of h.1.1) (sE kk g.gd g.tk h.1.2).pe set_list fun v => sub_of h.1.2) swap_sub stores_sub) fun _ _ _ => s_seti
    · cases h
  | .exp e, X, W, st, g, h => by
    unfold chkS at h
    split at h
    · simp only [Bool.and_eq_true, Bool.not_eq_true'] at h
      exact PS_imp (ps_expr (sE e g.gd g.tk h.1).pe (swap_no h.2)) fun _ _ _ => s_exp
    · cases h
  | .ret e, X, W, st, g, h => by
    unfold chkS at h
    split at h
    · exact PS_imp (ps_ret (sE e g.gd g.tk h).pe) fun _ _ _ => s_ret
    · cases h
  | .retO i, X, W, st, g, h => by
    unfold chkS at h
    split at h
    · exact PS_imp (ps_ret (pv_of h)) fun _ _ _ => s_retO
    · cases h
  | .retN, X, W, st, g, h => by
    unfold chkS at h
    split at h
    · exact PS_imp ps_retN fun _ _ _ ⟨_, _, _, _, r, x, q⟩ => tK_rt q rfl r x _ .non
    · cases h
  | .ite t a b, X, W, st, g, h => by
    unfold chkS at h
    split at h
    · simp only [Bool.and_eq_true] at h
      exact PS_imp (ps_if (sE t g.gd g.tk h.1.1).pt (sSs a g h.1.2) (sSs b g h.2)) fun _ _ _ => s_ite
    · cases h
  | .for p it w b, X, W, st, g, h => by
    unfold chkS at h
    split at h
    · simp only [Bool.and_eq_true, Bool.not_eq_true'] at h
      obtain ⟨⟨⟨h1, h2⟩, h3⟩, h4⟩ := h
      refine PS_imp (ps_for g.po g.gd.calm (sJ it g.gd g.tk h1) (pg_M g.gd.calm g.gd.nd g.loc h2) (sSs b g h4) (set_iter h3)) fun D σ H q => ?_
      rw [show tgM X.K p = tgM D'.T.K p by rw [g.gd.hK]]
      exact s_for (tg_nodup h2) q
    · cases h
  | .whl n t w b, X, W, st, g, h => by
    unfold chkS at h
    split at h
    · simp only [Bool.and_eq_true] at h
      exact PS_imp (ps_while g.po (sE t g.gd g.tk h.1).pt (sSs b g h.2)) fun _ _ _ => s_whl
    · cases h
  | .brk, X, W, st, g, h => by
    unfold chkS at h
    split at h
    · exact PS_imp ps_break fun _ _ _ ⟨_, _, _, _, r, x, q⟩ => tK_rt q rfl r x
    · cases h
  | .cnt, X, W, st, g, h => by
    unfold chkS at h
    split at h
    · exact PS_imp ps_continue fun _ _ _ ⟨_, _, _, _, r, x, q⟩ => tK_rt q rfl r x
    · cases h
  | .pas, X, W, st, g, h => by
    unfold chkS at h
    split at h
    · exact PS_imp ps_pass fun _ _ _ ⟨_, _, _, _, r, x, q⟩ => tK_rt q rfl r x
    · cases h
  | .dput _ _ _, X, W, st, g, h => by unfold chkS at h; cases h
  | .satt _ _ _, X, W, st, g, h => by unfold chkS at h; cases h
  | .rse _ _, X, W, st, g, h => by unfold chkS at h; cases h
  | .tryx _ _ _ _, X, W, st, g, h => by unfold chkS at h; cases h
  | .nev, X, W, st, g, h => by unfold chkS at h; cases h
theorem sSs : ∀ (ss : MSs) {X : Cx} {W : WX} {sts : List Stmt}, Fc D' C k X W → chkSs D'.fn D'.gl X.N X.env.scope ss sts = true → PSs X sts (tSS D' C W ss)
  | .nil, X, W, sts, g, h => by
    unfold chkSs at h
    split at h
    · exact PSs_imp pss_nil fun _ _ _ ⟨_, _, _, _, r, x, q⟩ => tK_rt q rfl r x
    · cases h
  | .cons s r, X, W, sts, g, h => by
    by_cases hf : ∃ i, s = .frz i
    · obtain ⟨i, rfl⟩ := hf
      unfold chkSs at h
      exact PSs_imp (sSs r g h) fun _ _ _ => s_frz
    · by_cases hn : s = .nev
      · subst hn
        exact PSs_imp pss_never fun _ _ _ ⟨_, _, _, _, _, _, q⟩ => q
      · cases sts with
        | nil => cases s <;> first | (unfold chkSs at h; cases h; done) | exact absurd rfl hn | exact absurd ⟨_, rfl⟩ hf
        | cons x xs =>
          have h2 : chkS D'.fn D'.gl X.N X.env.scope s x = true ∧ chkSs D'.fn D'.gl X.N X.env.scope r xs = true := by
            rw [← Bool.and_eq_true]
            cases s <;> first | (unfold chkSs at h; exact h) | exact absurd rfl hn | exact absurd ⟨_, rfl⟩ hf
          exact PSs_imp (pss_cons (sS s g h2.1) (sSs r g h2.2)) fun _ _ _ => s_seq
end
end
end SkB

set_option Elab.async false
set_option linter.all false
set_option maxRecDepth 100000
/-! Part B13: functions, all of them, by their levels. -/
namespace SkB
open PySem PySem.Spec L2
open Sk (PV ME MEs MO MI MP MS MSs Slot Sto Out Fl Calls FD BO CO Bi Ty)

/-! ### a body that starts -/
theorem RVs.z {K : PySem.W.Frag} {c : Cf} {H : Hp} : ∀ {vs : List V} {ps : List PV}, RVs K c vs ps → RVs K { c with z := H } vs ps
  | [], [], h => h
  | _ :: _, p :: _, h => ⟨by have h1 := h.1; cases p <;> exact h1, RVs.z h.2⟩
  | [], _ :: _, h => h.elim
  | _ :: _, [], h => h.elim
theorem vals_rel {K : PySem.W.Frag} {c : Cf} {H : Hp} {vs : List V} {ps : List PV} (n : Nat) (h : RVs K c vs ps) (b : Base K c H) : Rel K (ps.map Slot.sh ++ List.replicate n .un) c (vs.map some ++ List.replicate n none) H := by
  have len := h.len
  refine ⟨b, by simp [len], fun i s e => ?_, fun i j xs ys a ne e1 e2 e3 => ?_⟩
  · by_cases hi : i < ps.length
    · rw [List.getElem?_append_left (by simpa using hi)] at e
      rw [List.getElem?_append_left (by simpa [len] using hi)]
      rw [List.getElem?_map] at e ⊢
      have at_ : ∀ {vs : List V} {ps : List PV} {i : Nat} {p : PV}, RVs K c vs ps → ps[i]? = some p → ∃ v, vs[i]? = some v ∧ RV K c v p := by
        intro vs
        induction vs with
        | nil => intro ps i p h e; cases ps with
          | nil => simp at e
          | cons _ _ => exact h.elim
        | cons v vs ih =>
          intro ps i p h e
          cases ps with
          | nil => exact h.elim
          | cons q ps =>
            cases i with
            | zero => simp at e; subst e; exact ⟨v, rfl, h.1⟩
            | succ i =>
              obtain ⟨w, h1, h2⟩ := ih (i := i) h.2 (by simpa using e)
              exact ⟨w, by simpa using h1, h2⟩
      cases hp : ps[i]? with
      | none => rw [hp] at e; cases e
      | some p =>
        rw [hp] at e
        cases e
        obtain ⟨v, h1, h2⟩ := at_ h hp
        rw [h1]; exact h2
    · rw [List.getElem?_append_right (by simpa using hi)] at e
      have := List.eq_of_mem_replicate (List.mem_of_getElem? e)
      subst this
      exact trivial
  · exfalso
    have no : ∀ {i : Nat} {xs : List PV}, (ps.map Slot.sh ++ List.replicate n Slot.un)[i]? ≠ some (.ow xs) := fun {i xs} z => by
      have m := List.mem_of_getElem? z
      rcases List.mem_append.mp m with m | m
      · obtain ⟨p, _, e⟩ := List.mem_map.mp m
        cases e
      · cases List.eq_of_mem_replicate m
    exact no e1

/-- a def: where it stands, its names, its body as the interpreter has it -/
structure FnE where
  d : He.DefD
  N : List Str
  ps : List Str
  fd : FD
/-- what is checked of it -/
structure FnC (fn gl : Nat → Option Str) (e : FnE) : Prop where
  sc : C8.scC e.N e.ps e.d.scope = true
  ck : chkSs fn gl e.N e.d.scope e.fd.body e.d.body = true
  np : e.fd.nps = e.ps.length
  sz : e.fd.size = e.N.length
  at_ : e.d.at_ = (e.d.name, none)
  qn : e.d.qual = e.d.name
  no : e.d.dfl = [] ∧ e.d.kwd = []
  bd : ∀ (kV doc pm : Value) (an : Option Addr) (cdv ct : Value) (us : List Value), us.length = e.ps.length → bindArgs (PySem.W.fnOf e.d.name e.d.qual e.d.params e.d.body e.d.scope .none kV doc pm an cdv ct) ⟨us, []⟩ = pure (e.ps.zip us)
section
variable {T : Px} {P : Program} {w : World} {K : PySem.W.Frag} {mg : Str → Option Value} {base : Heap}
/-- what a whole program gives -/
structure PrO (D : Pd) (Pf : Nat → Option FD) (L : List FnE) (mg : Str → Option Value) : Prop where
  fn : ∀ f x, D.fn f = some x → ∃ e, L[f]? = some e ∧ e.d.name = x
  pf : ∀ f fd, Pf f = some fd → ∃ e, L[f]? = some e ∧ e.fd = fd
  ck : ∀ e ∈ L, FnC D.fn D.gl e
  ob : ∀ e ∈ L, ∃ fd, FunD D.T.K e.d.name e.d.qual e.d.params e.d.body e.d.scope [] [] (He.fAd D.T.K e.d.at_) fd ∧ mg e.d.name = some (.ref (He.fAd D.T.K e.d.at_))
  glo : ∀ g x v, D.gl g = some x → D.G g = some v → ∃ u z, mg x = some u ∧ RelV z u ∧ ∀ H, DP D.T.K H z v
  blt : ∀ b, mg (bltN b) = none
  tys : ∀ t, mg (tyN t) = none
  isi : mg "isinstance" = none
  rng : mg "range" = none
theorem fn_at {D : Pd} {Pf : Nat → Option FD} {L : List FnE} (O : PrO D Pf L mg) : ∀ (n f : Nat) (e : FnE), L[f]? = some e → ∀ fd, FunD D.T.K e.d.name e.d.qual e.d.params e.d.body e.d.scope [] [] (He.fAd D.T.K e.d.at_) fd →
    FnOk P w D.T.K mg base (L2.CX P w) (n + 8) (He.fAd D.T.K e.d.at_) fd e.ps (spI D.T (Sk.callI D.G Pf n) f) := by
  intro n
  induction n with
  | zero =>
    intro f e he fd F
    refine ⟨fun vs H Q E h => ?_, fun A outer s H args us vs Q E _ _ _ _ h => ?_⟩
    · obtain ⟨_, _, _, _, z⟩ := h; exact z.elim
    · obtain ⟨_, _, _, _, z⟩ := h; exact z.elim
  | succ n ih =>
    intro f e he fd F
    have hc := O.ck e (List.mem_of_getElem? he)
    have S := C8.fnScope_by hc.sc
    have open_ : ∀ {vs : List V} {H : Hp} {Q : VK} {E : XK}, spI D.T (Sk.callI D.G Pf (n + 1)) f vs H Q E → ∃ c ps, Base D.T.K c H ∧ RVs D.T.K c vs ps ∧ ps.length = e.fd.nps ∧ (match Sk.finish (Sk.sxs D.G (Sk.callI D.G Pf n) e.fd.body (Sk.start e.fd ps)) c.st with
      | .ok (u, fr) st' => ∀ c' H', c'.st = st' → Base D.T.K c' H' → Ext c H c' H' → Fin D.T H u fr c' H' Q
      | .exn x v st' => ∀ c' H' d, c'.st = st' → Base D.T.K c' H' → Ext c H c' H' → Exo D.T c' H' x d v → E (.ref (D.T.xc x)) (some d) H'
      | .bad => False) := fun {vs H Q E} ⟨c, ps, b, r, h⟩ => by
      refine ⟨c, ps, b, r, ?_⟩
      unfold Sk.callI at h
      cases hp : Pf f with
      | none => rw [hp] at h; exact h.elim
      | some fd' =>
        rw [hp] at h
        obtain ⟨e', he', hf⟩ := O.pf f fd' hp
        rw [he] at he'
        cases he'
        subst hf
        dsimp only at h
        by_cases hl : ps.length = e.fd.nps
        · rw [if_pos hl] at h
          exact ⟨hl, h⟩
        · rw [if_neg hl] at h
          exact h.elim
    refine F.ok S (fun vs H Q E h => ?_) fun cdv A outer s H vs Q E hr h => ?_
    · obtain ⟨c, ps, b, r, hl, _⟩ := open_ h
      rw [r.len, hl, hc.np]
    · obtain ⟨c, ps, b, r, hl, h⟩ := open_ h
      let X := cxOf (L2.CX P w) P w D.T.K mg base e.N e.d.qual e.d.scope (He.fAd D.T.K e.d.at_) cdv A outer s H E
      have tk : Takes X (fun cls d _ H => E cls d H) := takes_of rfl rfl rfl rfl
      have gd : Gd D (Sk.callI D.G Pf n) (n + 8) X := by
        refine ⟨rfl, ?_, hr, rfl, S.nd, fun g x hg => ?_, O.glo, O.blt, O.tys, O.isi, O.rng⟩
        · have := hr.un
          show (A.deeper _).units + 300 < cLine
          omega
        · obtain ⟨e2, h2, h3⟩ := O.fn g x hg
          obtain ⟨fd2, F2, m2⟩ := O.ob e2 (List.mem_of_getElem? h2)
          have hc2 := O.ck e2 (List.mem_of_getElem? h2)
          subst h3
          exact ⟨_, fd2, e2.ps, m2, F2.kp, F2.bindsN hc2.bd, ih g e2 h2 fd2 F2⟩
      have fc : Fc D (Sk.callI D.G Pf n) (n + 8) X (fun cls d _ H => E cls d H) := ⟨gd, tk, passes_of rfl, fun _ => rfl⟩
      refine ⟨_, sSs e.fd.body fc hc.ck, Sk.start e.fd ps, { c with z := H }, { c with z := H }, H, ?_, .refl, ?_⟩
      · have rs : RVs D.T.K { c with z := H } vs ps := r.z
        have bs : Base D.T.K { c with z := H } H := ⟨b.sub, b.io, b.st, fun a o z => ⟨o, z⟩⟩
        have := vals_rel (e.fd.size - e.fd.nps) rs bs
        have en : e.fd.size - e.fd.nps = e.N.length - vs.length := by rw [hc.sz, r.len, hl]
        unfold Sk.start L2.start
        rw [en] at this ⊢
        exact this
      · unfold tK
        show match Sk.sxs D.G (Sk.callI D.G Pf n) e.fd.body (Sk.start e.fd ps) c.st with
          | .ok a st' => _
          | _ => False
        unfold Sk.finish at h
        cases hx : Sk.sxs D.G (Sk.callI D.G Pf n) e.fd.body (Sk.start e.fd ps) c.st with
        | bad => rw [hx] at h; exact h.elim
        | exn x v st' => rw [hx] at h; exact h.elim
        | ok a st' =>
          rw [hx] at h
          obtain ⟨fl, env'⟩ := a
          intro c' H' σ' e1 r' x'
          have xw : Ext { c with z := H } H c' H' := x'.whole fun a o z z2 => by
            have z2 : H a = none := z2
            rw [z] at z2; cases z2
          have bz : Base D.T.K { c' with z := c.z } H' := ⟨r'.base.sub, r'.base.io, r'.base.st, fun a o z => by
            obtain ⟨o1, z1⟩ := b.zs a o z
            exact xw.there a o1 z1⟩
          have xz : Ext c H { c' with z := c.z } H' := ⟨xw.io, xw.g, xw.keep, xw.there, xw.no, xw.new, rfl⟩
          cases fl with
          | nx => exact h { c' with z := c.z } H' e1 bz xz .non .non
          | bk => exact h.elim
          | ct => exact h.elim
          | rt v =>
            have k := h { c' with z := c.z } H' e1 bz xz
            cases v <;> exact k
          | ro xs =>
            have k := h { c' with z := c.z } H' e1 bz xz
            intro a vs' g1 g2 g3 g4 d
            have g4' : H a = none := by rw [xw.z] at g4; exact g4
            exact k a vs' g1 g2 g3 g4' d
          | ex n v =>
            intro d xo
            exact h { c' with z := c.z } H' d e1 bz xz xo
end
end SkB

set_option Elab.async false
set_option linter.all false
set_option maxRecDepth 100000
/-! Part B14: from the head's facts to the program. -/
namespace SkB
open PySem PySem.Spec L2
open Sk (PV ME MEs MO MI MP MS MSs Slot Sto Out Fl Calls FD BO CO Bi Ty)

/-- the builtins' names that a program leaves alone -/
def free13 : List Str := ["len", "tuple", "list", "int", "abs", "min", "max", "sum", "sorted", "bool", "str", "isinstance", "range"]
def facts (L : List FnE) (gi : List (Str × Int)) : List He.Fa := L.map (fun e => He.Fa.glo e.d.name) ++ (free13.map He.Fa.free ++ gi.map fun p => He.Fa.int p.1 p.2)
theorem all_nil {α : Type} {R : α → Prop} : ∀ e ∈ ([] : List α), R e := fun _ h => nomatch h
theorem all_cons {α : Type} {R : α → Prop} {x : α} {r : List α} (h : R x) (t : ∀ e ∈ r, R e) : ∀ e ∈ x :: r, R e := fun e he => by
  rcases List.mem_cons.mp he with rfl | he
  · exact h
  · exact t e he
abbrev pd (K : PySem.W.Frag) (L : List FnE) (gi : List (Str × Int)) (xc : Nat → Addr) (xf : Nat → Str) : Pd :=
  ⟨⟨K, xc, xf⟩, fun i => (L[i]?).map (·.d.name), fun i => (gi[i]?).map (·.1), fun i => (gi[i]?).map fun p => .int p.2⟩
theorem pro_of {K : PySem.W.Frag} {h : Heap} {mg : Str → Option Value} {L : List FnE} {gi : List (Str × Int)} {xc : Nat → Addr} {xf : Nat → Str} {Pf : Nat → Option FD} (X : K.In h) (G : h.Ns mainGlobals mg)
    (c : He.SaysD (facts L gi) (L.map (·.d)) K) (hc : ∀ e ∈ L, FnC (pd K L gi xc xf).fn (pd K L gi xc xf).gl e) (hp : ∀ f fd, Pf f = some fd → ∃ e, L[f]? = some e ∧ e.fd = fd) : PrO (pd K L gi xc xf) Pf L mg := by
  have fact : ∀ f ∈ facts L gi, f.ok K = true := fun f hf => by
    obtain ⟨i, hi⟩ := List.getElem?_of_mem hf
    exact c.fact i hi
  have free : ∀ x ∈ free13, mg x = none := fun x hx => He.free_ok X G (fact _ (List.mem_append_right _ (List.mem_append_left _ (List.mem_map_of_mem hx))))
  refine ⟨fun f x hx => ?_, hp, hc, fun e he => ?_, fun g x v h1 h2 => ?_, fun b => free _ ?_, fun t => free _ ?_, free _ ?_, free _ ?_⟩
  · obtain ⟨e, h1, h2⟩ := Option.map_eq_some_iff.mp hx
    exact ⟨e, h1, h2⟩
  · obtain ⟨i, hi⟩ := List.getElem?_of_mem he
    obtain ⟨fd, F⟩ := c.def_ i (d := e.d) (by rw [List.getElem?_map, hi]; rfl)
    have k := hc e he
    have m := He.glo_ok X G (fact _ (List.mem_append_left _ (List.mem_map_of_mem (f := fun e => He.Fa.glo e.d.name) he)))
    refine ⟨fd, ?_, by rw [k.at_]; exact m⟩
    have e1 : e.d.dvs K = [] := by unfold He.DefD.dvs; rw [k.no.1]; rfl
    have e2 : e.d.kws K = [] := by unfold He.DefD.kws; rw [k.no.2]; rfl
    rw [e1, e2] at F
    exact F
  · obtain ⟨p, h3, h4⟩ := Option.map_eq_some_iff.mp (show (gi[g]?).map (·.1) = some x from h1)
    obtain ⟨q, h5, h6⟩ := Option.map_eq_some_iff.mp (show (gi[g]?).map (fun p => PV.int p.2) = some v from h2)
    rw [h3] at h5
    cases h5
    subst h4 h6
    obtain ⟨t, m⟩ := He.int_ok X G (fact _ (List.mem_append_right _ (List.mem_append_right _ (List.mem_map_of_mem (f := fun p : Str × Int => He.Fa.int p.1 p.2) (List.mem_of_getElem? h3)))))
    exact ⟨_, .int p.2, m, ⟨t, rfl⟩, fun H => .int _⟩
  · cases b <;> simp [bltN, free13]
  · cases t <;> simp [tyN, free13]
  · simp [free13]
  · simp [free13]

/-- the law's def, told by the interpreter -/
def spLaw (T : Px) (C : Calls) (f : Nat) : Sp := spI T C f
theorem law_sp {T : Px} {C : Calls} {f n : Nat} {H : Hp} {a : Addr} {ns : List Int} {E : XK} (hC : ∀ ns : List Int, ns.length ≤ n → C f [.lst (ns.map PV.int)] [] = .ok (.bl true, false) []) (hl : ns.length ≤ n) (h : SqL T.K H a (ns.map V.int)) :
    spI T C f [.ref a] H (fun v _ => v = .bl true) E := by
  refine ⟨⟨[], [], H, H⟩, [.lst (ns.map PV.int)], ⟨fun _ _ z => z, (fun _ z => by cases z), ⟨rfl, rfl⟩, fun _ o z => ⟨o, z⟩⟩, ⟨.lst h (dps_ints ns), trivial⟩, ?_⟩
  rw [hC ns hl]
  intro c' H' _ b x v r
  cases (show DP T.K c'.G v (.bl true) from r)
  rfl
/-- the law's function, for the head -/
theorem law_fn {P : Program} {w : World} {mg : Str → Option Value} {D : Pd} {Pf : Nat → Option FD} {L : List FnE} {fa : Addr} {x : Str} (O : PrO D Pf L mg) (n i m : Nat) (e : FnE) (he : L[i]? = some e) (hps : e.ps = [x]) (hfa : mg e.d.name = some (.ref fa))
    (hC : ∀ ns : List Int, ns.length ≤ m → Sk.callI D.G Pf n i [.lst (ns.map PV.int)] [] = .ok (.bl true, false) []) :
    ∃ (fd : FuncData) (sp : Sp), (∀ (s : Shared) (u : Value), BindsTo s fd ⟨[u], []⟩ [(x, u)]) ∧ (∀ (H : Hp) (a : Addr) (ns : List Int), ns.length ≤ m → Only H → SqL D.T.K H a (ns.map V.int) → sp [.ref a] H (fun v _ => v = .bl true) fun _ _ _ => False) ∧
      ∀ base : Heap, FnOk P w D.T.K mg base (L2.CX P w) (n + 8) fa fd [x] sp := by
  have hm := List.mem_of_getElem? he
  obtain ⟨fd, F, m1⟩ := O.ob e hm
  have hc := O.ck e hm
  rw [hfa] at m1
  cases m1
  have b := F.bindsA hc.bd
  rw [hps] at b
  refine ⟨fd, spI D.T (Sk.callI D.G Pf n) i, fun s u => b s [u] rfl, fun H a ns hl _ h => law_sp hC hl h, fun base => ?_⟩
  have k := fn_at (P := P) (w := w) (base := base) O n i e he fd F
  rw [hps] at k
  exact k
/-- what may leave, whatever the world is -/
def anyCX (P : Program) : CXT := fun o H s E u s' => ∃ w, L2.CX P w o H s E u s'
theorem no_exc' {P : Program} : ∀ (H : Hp) (s : Shared) (e : Value) (s' : Shared), anyCX P [] H s (fun _ _ _ => False) e s' → False := fun H s e s' ⟨_, _, _, _, _, _, _, _, _, _, _, _, _, z⟩ => z
theorem cx_any {P : Program} {w : World} {K : PySem.W.Frag} {mg : Str → Option Value} {base : Heap} {k : Nat} {f : Addr} {fd : FuncData} {ps : List Str} {sp : Sp} (F : FnOk P w K mg base (L2.CX P w) k f fd ps sp) : FnOk P w K mg base (anyCX P) k f fd ps sp := by
  refine ⟨F.len, fun A outer s H args us vs Q E h1 h2 h3 h4 h5 => codeAny_mono (F.run A outer s H args us vs Q E h1 h2 h3 h4 h5) fun r s' q => ?_⟩
  cases r with
  | error e => exact ⟨w, q⟩
  | ok fl => cases fl <;> exact q
end SkB

set_option autoImplicit false
set_option linter.all false
/-! Part C: rows for the walk of the small language. -/
namespace Sk
open PySem (Str)
theorem rf {α : Sort _} {a b : α} (h : a = b) : a = b := h
section
variable {α β : Type}
@[simp] theorem bnd_rt (a : α) (k : α → M β) : bnd (rt a) k = k a := rf rfl
@[simp] theorem bndE_rt (env : Env) (a : α) (k : α → M (Fl × Env)) : bndE env (rt a) k = k a := rf rfl
@[simp] theorem opt_some (a : α) : opt (some a) = rt a := rf rfl
@[simp] theorem noX_rt (a : α) : noX (rt a) = rt a := rf rfl
@[simp] theorem rt_inj (a b : α) : (rt a = rt b) ↔ a = b := ⟨fun h => by
  have := congrFun h []
  unfold rt at this
  cases this; rfl, fun h => by rw [h]⟩
@[simp] theorem bnd_assoc {γ : Type} (m : M α) (f : α → M β) (g : β → M γ) : bnd (bnd m f) g = bnd m fun a => bnd (f a) g := by
  funext s
  unfold bnd
  cases m s <;> rfl
@[simp] theorem withS_some (f : Sto → Option α) (a : α) (h : ∀ s, f s = some a) : withS f = rt a := by
  funext s
  unfold withS
  rw [h s]; rfl
@[simp] theorem finish_rv (v : PV) (env : Env) : finish (rt (.rt v, env)) = rt (v, false) := rf rfl
@[simp] theorem finish_ro (xs : List PV) (env : Env) : finish (rt (.ro xs, env)) = rt (.lst xs, true) := rf rfl
@[simp] theorem finish_nx (env : Env) : finish (rt (.nx, env)) = rt (.non, false) := rf rfl
@[simp] theorem cat_nx (env : Env) (k : Env → M (Fl × Env)) : cat (rt (.nx, env)) k = k env := rf rfl
@[simp] theorem cat_rv (v : PV) (env : Env) (k : Env → M (Fl × Env)) : cat (rt (.rt v, env)) k = rt (.rt v, env) := rf rfl
@[simp] theorem cat_ro (xs : List PV) (env : Env) (k : Env → M (Fl × Env)) : cat (rt (.ro xs, env)) k = rt (.ro xs, env) := rf rfl
@[simp] theorem cat_bk (env : Env) (k : Env → M (Fl × Env)) : cat (rt (.bk, env)) k = rt (.bk, env) := rf rfl
@[simp] theorem cat_ct (env : Env) (k : Env → M (Fl × Env)) : cat (rt (.ct, env)) k = rt (.ct, env) := rf rfl
@[simp] theorem nxt_eq (env : Env) : nxt env = rt (.nx, env) := rf rfl
@[simp] theorem shOf_sh (v : PV) : shOf (some (.sh v)) = some v := rf rfl
@[simp] theorem boOf_sh (v : PV) : boOf (some (.sh v)) = some v := rf rfl
@[simp] theorem boOf_ow (v : List PV) : boOf (some (.ow v)) = some (.lst v) := rf rfl
@[simp] theorem owOf_ow (v : List PV) : owOf (some (.ow v)) = some v := rf rfl
@[simp] theorem withO_eq (env : Env) (i : Nat) (k : List PV → M (Fl × Env)) : withO env i k = match owOf env[i]? with | some xs => k xs | none => fail := rf rfl
end
@[simp] theorem bor_var (i : Nat) (m : M PV) (env : Env) : bor (.var i) m env = opt (boOf env[i]?) := rf rfl
@[simp] theorem bor_int (i : Int) (m : M PV) (env : Env) : bor (.int i) m env = m := rf rfl
@[simp] theorem bor_bl (b : Bool) (m : M PV) (env : Env) : bor (.bl b) m env = m := rf rfl
@[simp] theorem bor_non  (m : M PV) (env : Env) : bor (.non) m env = m := rf rfl
@[simp] theorem bor_str (s : Str) (m : M PV) (env : Env) : bor (.str s) m env = m := rf rfl
@[simp] theorem bor_glo (x : Nat) (m : M PV) (env : Env) : bor (.glo x) m env = m := rf rfl
@[simp] theorem bor_bin (o : BO) (a b : ME) (m : M PV) (env : Env) : bor (.bin o a b) m env = m := rf rfl
@[simp] theorem bor_neg (a : ME) (m : M PV) (env : Env) : bor (.neg a) m env = m := rf rfl
@[simp] theorem bor_not (a : ME) (m : M PV) (env : Env) : bor (.not a) m env = m := rf rfl
@[simp] theorem bor_and (a b : ME) (m : M PV) (env : Env) : bor (.and a b) m env = m := rf rfl
@[simp] theorem bor_or (a b : ME) (m : M PV) (env : Env) : bor (.or a b) m env = m := rf rfl
@[simp] theorem bor_cmp (o : CO) (a b : ME) (m : M PV) (env : Env) : bor (.cmp o a b) m env = m := rf rfl
@[simp] theorem bor_chain (o o2 : CO) (a b c : ME) (m : M PV) (env : Env) : bor (.chain o o2 a b c) m env = m := rf rfl
@[simp] theorem bor_idx (a b : ME) (m : M PV) (env : Env) : bor (.idx a b) m env = m := rf rfl
@[simp] theorem bor_sli (a : ME) (l h : MO) (m : M PV) (env : Env) : bor (.sli a l h) m env = m := rf rfl
@[simp] theorem bor_rev (a : ME) (m : M PV) (env : Env) : bor (.rev a) m env = m := rf rfl
@[simp] theorem bor_tup (es : MEs) (m : M PV) (env : Env) : bor (.tup es) m env = m := rf rfl
@[simp] theorem bor_lst (es : MEs) (m : M PV) (env : Env) : bor (.lst es) m env = m := rf rfl
@[simp] theorem bor_call (f : Nat) (es : MEs) (m : M PV) (env : Env) : bor (.call f es) m env = m := rf rfl
@[simp] theorem bor_blt (b : Bi) (es : MEs) (m : M PV) (env : Env) : bor (.blt b es) m env = m := rf rfl
@[simp] theorem bor_isi (a : ME) (t : Ty) (m : M PV) (env : Env) : bor (.isi a t) m env = m := rf rfl
@[simp] theorem bor_comp (a : ME) (p : MP) (i : MI) (c : MO) (m : M PV) (env : Env) : bor (.comp a p i c) m env = m := rf rfl
@[simp] theorem bor_comp2 (a : ME) (p : MP) (i : MI) (p2 : MP) (i2 : MI) (c : MO) (m : M PV) (env : Env) : bor (.comp2 a p i p2 i2 c) m env = m := rf rfl
@[simp] theorem bor_rgt (i : MI) (m : M PV) (env : Env) : bor (.rgt i) m env = m := rf rfl
@[simp] theorem bor_rgl (i : MI) (m : M PV) (env : Env) : bor (.rgl i) m env = m := rf rfl
/-! ### comprehensions, loops: their bodies by names -/
section
variable (G : Nat → Option PV) (C : Calls)
/-- a comprehension's turn -/
def compF (elt : ME) (p : MP) (cond : MO) (env : Env) (x : PV) : M (Option PV) := noX (bnd (opt (bindTo p x env)) fun env' => bnd (evC G C cond env') fun k => if k = true then bnd (ev G C elt env') fun v => if isRef v then fail else rt (some v) else rt none)
/-- a for statement's turn -/
def forF (p : MP) (w : List Nat) (b : MSs) (x : PV) (env : Env) : M (Fl × Env) := bnd (opt (bindTo p x env)) fun env1 => bnd (sxs G C b env1) fun r => rt (r.1, wipeE w r.2)
def forB (p : MP) (w : List Nat) (b : MSs) (xs : List PV) (env : Env) : M (Fl × Env) := forL (forF G C p w b) xs env
variable (env : Env)
@[simp] theorem ev_var (i : Nat) : ev G C (.var i) env = opt (shOf env[i]?) := rf rfl
@[simp] theorem ev_int (i : Int) : ev G C (.int i) env = rt (.int i) := rf rfl
@[simp] theorem ev_bl (i : Bool) : ev G C (.bl i) env = rt (.bl i) := rf rfl
@[simp] theorem ev_non : ev G C .non env = rt .non := rf rfl
@[simp] theorem ev_str (s : Str) : ev G C (.str s) env = rt (.str s) := rf rfl
@[simp] theorem ev_glo (x : Nat) : ev G C (.glo x) env = opt (G x) := rf rfl
@[simp] theorem ev_bin (op : BO) (a b : ME) : ev G C (.bin op a b) env = bnd (bor a (ev G C a env) env) fun v => bnd (bor b (ev G C b env) env) fun w => opt (pyBin op v w) := rf rfl
def negOf : PV → Option PV
  | .int i => some (.int (-i))
  | _ => none
@[simp] theorem negOf_int (i : Int) : negOf (.int i) = some (.int (-i)) := rf rfl
@[simp] theorem ev_neg (a : ME) : ev G C (.neg a) env = bnd (ev G C a env) fun v => opt (negOf v) := by
  show bnd _ _ = bnd _ _
  congr
@[simp] theorem ev_not (a : ME) : ev G C (.not a) env = bnd (ev G C a env) fun v => opt ((truthy v).map fun b => .bl (!b)) := rf rfl
def andF (v : PV) (m : M PV) : M PV := match v with
  | .bl true => m
  | .bl false => rt (.bl false)
  | _ => fail
def orF (v : PV) (m : M PV) : M PV := match v with
  | .bl true => rt (.bl true)
  | .bl false => m
  | _ => fail
@[simp] theorem andF_b (b : Bool) (m : M PV) : andF (.bl b) m = if b = true then m else rt (.bl false) := by cases b <;> rfl
@[simp] theorem orF_b (b : Bool) (m : M PV) : orF (.bl b) m = if b = true then rt (.bl true) else m := by cases b <;> rfl
@[simp] theorem ev_and (a b : ME) : ev G C (.and a b) env = bnd (ev G C a env) fun v => andF v (ev G C b env) := by
  show bnd _ _ = bnd _ _
  congr
@[simp] theorem ev_or (a b : ME) : ev G C (.or a b) env = bnd (ev G C a env) fun v => orF v (ev G C b env) := by
  show bnd _ _ = bnd _ _
  congr
@[simp] theorem ev_cmp (op : CO) (a b : ME) : ev G C (.cmp op a b) env = bnd (bor a (ev G C a env) env) fun v => bnd (bor b (ev G C b env) env) fun w => withS fun σ => (pyCmp σ op v w).map .bl := rf rfl
@[simp] theorem ev_chain (op op' : CO) (a b c : ME) : ev G C (.chain op op' a b c) env = bnd (bor a (ev G C a env) env) fun v => bnd (bor b (ev G C b env) env) fun w => bnd (withS fun σ => pyCmp σ op v w) fun k => if k = true then bnd (bor c (ev G C c env) env) fun u => withS fun σ => (pyCmp σ op' w u).map .bl else rt (.bl false) := by
  show bnd _ _ = bnd _ _
  congr; funext v
  congr; funext w
  congr; funext k
  cases k <;> rfl
@[simp] theorem ev_idx (a i : ME) : ev G C (.idx a i) env = bnd (bor a (ev G C a env) env) fun v => bnd (ev G C i env) fun k => withS fun σ => pyIdx σ v k := rf rfl
@[simp] theorem ev_sli (a : ME) (lo hi : MO) : ev G C (.sli a lo hi) env = bnd (bor a (ev G C a env) env) fun v => bnd (evO G C lo env) fun l => bnd (evO G C hi env) fun h => opt (pySli v l h) := rf rfl
@[simp] theorem ev_tup (es : MEs) : ev G C (.tup es) env = bnd (evs G C es env) (mk .tup) := rf rfl
@[simp] theorem ev_lst (es : MEs) : ev G C (.lst es) env = bnd (evs G C es env) (mk .lst) := rf rfl
@[simp] theorem ev_call (f : Nat) (es : MEs) : ev G C (.call f es) env = bnd (evs G C es env) fun vs => bnd (C f vs) fun r => rt r.1 := rf rfl
@[simp] theorem ev_blt (b : Bi) (es : MEs) : ev G C (.blt b es) env = bnd (evsB G C es env) fun vs => withS fun σ => pyBlt σ b vs := rf rfl
@[simp] theorem ev_isi (a : ME) (t : Ty) : ev G C (.isi a t) env = bnd (bor a (ev G C a env) env) fun v => opt ((isTy t v).map .bl) := rf rfl
@[simp] theorem ev_comp (elt : ME) (p : MP) (it : MI) (cond : MO) : ev G C (.comp elt p it cond) env = bnd (evI G C it env) fun xs => bnd (filtM (compF G C elt p cond env) xs) fun ys => rt (.lst ys) := by
  have e : compF G C elt p cond env = fun x => noX (bnd (opt (bindTo p x env)) fun env' => bnd (evC G C cond env') fun k => match k with
      | true => bnd (ev G C elt env') fun v => if isRef v then fail else rt (some v)
      | false => rt none) := by
    funext x
    unfold compF
    congr
    funext env'
    congr
    funext k
    cases k <;> rfl
  rw [e]; rfl
@[simp] theorem ev_rgt (it : MI) : ev G C (.rgt it) env = bnd (evI G C it env) fun xs => if xs.length ≤ line then rt (.tup xs) else fail := rf rfl
@[simp] theorem ev_rgl (it : MI) : ev G C (.rgl it) env = bnd (evI G C it env) fun xs => if xs.length ≤ line then rt (.lst xs) else fail := rf rfl
@[simp] theorem evs_nil : evs G C .nil env = rt [] := rf rfl
@[simp] theorem evs_cons (e : ME) (es : MEs) : evs G C (.cons e es) env = bnd (ev G C e env) fun v => bnd (evs G C es env) fun vs => rt (v :: vs) := rf rfl
@[simp] theorem evsB_nil : evsB G C .nil env = rt [] := rf rfl
@[simp] theorem evsB_cons (e : ME) (es : MEs) : evsB G C (.cons e es) env = bnd (bor e (ev G C e env) env) fun v => bnd (evsB G C es env) fun vs => rt (v :: vs) := rf rfl
def partOf : PV → Option (Option Int)
  | .int i => some (some i)
  | _ => none
@[simp] theorem partOf_int (i : Int) : partOf (.int i) = some (some i) := rf rfl
@[simp] theorem evO_no : evO G C .no env = rt none := rf rfl
@[simp] theorem evO_so (e : ME) : evO G C (.so e) env = bnd (ev G C e env) fun v => opt (partOf v) := by
  show bnd _ _ = bnd _ _
  congr
@[simp] theorem evC_no : evC G C .no env = rt true := rf rfl
@[simp] theorem evC_so (e : ME) : evC G C (.so e) env = bnd (bor e (ev G C e env) env) fun v => opt (truthy v) := rf rfl
@[simp] theorem evI_seq (e : ME) : evI G C (.seq e) env = bnd (bor e (ev G C e env) env) fun v => opt (itemsOf v) := rf rfl
def rg1F : PV → M (List PV)
  | .int i => if r62 i && decide (i.toNat ≤ line) then rt (rng 0 i.toNat) else fail
  | _ => fail
def rg2F : PV → PV → M (List PV)
  | .int i, .int j => if r62 i && r62 j && decide ((j - i).toNat ≤ line) then rt (rng i (j - i).toNat) else fail
  | _, _ => fail
theorem rg1F_ok {i : Int} (h0 : i ≤ 16777216) (h1 : -1000000 ≤ i) : rg1F (.int i) = rt (rng 0 i.toNat) := by
  show (if _ then _ else _) = _
  rw [if_pos]
  unfold r62 line
  simp only [Bool.and_eq_true, decide_eq_true_eq]
  omega
theorem rg2F_ok {i j : Int} (h0 : i ≤ 16777216) (h1 : 0 ≤ i) (h2 : j ≤ 16777216) (h3 : -1000000 ≤ j) : rg2F (.int i) (.int j) = rt (rng i (j - i).toNat) := by
  show (if _ then _ else _) = _
  rw [if_pos]
  unfold r62 line
  simp only [Bool.and_eq_true, decide_eq_true_eq]
  omega
@[simp] theorem evI_rg1 (a : ME) : evI G C (.rg1 a) env = bnd (ev G C a env) fun v => rg1F v := by
  show bnd _ _ = bnd _ _
  congr
@[simp] theorem evI_rg2 (a b : ME) : evI G C (.rg2 a b) env = bnd (ev G C a env) fun v => bnd (ev G C b env) fun w => rg2F v w := by
  show bnd _ _ = bnd _ _
  congr
@[simp] theorem evB_eq (e : ME) : evB G C e env = bor e (ev G C e env) env := rf rfl
@[simp] theorem evT_eq (e : ME) : evT G C e env = bnd (bor e (ev G C e env) env) fun v => opt (truthy v) := rf rfl
@[simp] theorem evJ_seq (e : ME) : evJ G C (.seq e) env = bnd (ev G C e env) fun v => opt (itemsOf v) := rf rfl
@[simp] theorem evJ_rg1 (a : ME) : evJ G C (.rg1 a) env = evI G C (.rg1 a) env := rf rfl
@[simp] theorem evJ_rg2 (a b : ME) : evJ G C (.rg2 a b) env = evI G C (.rg2 a b) env := rf rfl
@[simp] theorem lstOf_lst (xs : List PV) : lstOf (.lst xs) = some xs := rf rfl
@[simp] theorem newOf_lst (xs : List PV) : newOf (.lst xs, true) = some xs := rf rfl
@[simp] theorem evF_lst (es : MEs) : evF G C (.lst es) env = bnd (ev G C (.lst es) env) fun v => opt (lstOf v) := rf rfl
@[simp] theorem evF_comp (a : ME) (p : MP) (i : MI) (c : MO) : evF G C (.comp a p i c) env = bnd (ev G C (.comp a p i c) env) fun v => opt (lstOf v) := rf rfl
@[simp] theorem evF_list (es : MEs) : evF G C (.blt .list es) env = bnd (ev G C (.blt .list es) env) fun v => opt (lstOf v) := rf rfl
@[simp] theorem evF_sorted (es : MEs) : evF G C (.blt .sorted es) env = bnd (ev G C (.blt .sorted es) env) fun v => opt (lstOf v) := rf rfl
@[simp] theorem evF_add (a b : ME) : evF G C (.bin .add a b) env = bnd (ev G C (.bin .add a b) env) fun v => opt (lstOf v) := rf rfl
@[simp] theorem evF_sli (a : ME) (l h : MO) : evF G C (.sli a l h) env = bnd (ev G C (.sli a l h) env) fun v => opt (lstOf v) := rf rfl
@[simp] theorem evF_rgl (i : MI) : evF G C (.rgl i) env = bnd (ev G C (.rgl i) env) fun v => opt (lstOf v) := rf rfl
@[simp] theorem evF_call (f : Nat) (es : MEs) : evF G C (.call f es) env = bnd (evs G C es env) fun vs => bnd (C f vs) fun r => opt (newOf r) := rf rfl
@[simp] theorem sxs_nil : sxs G C .nil env = rt (.nx, env) := rf rfl
@[simp] theorem sxs_cons (s : MS) (r : MSs) : sxs G C (.cons s r) env = cat (sx G C s env) fun env => sxs G C r env := rf rfl
@[simp] theorem sx_asg (i : Nat) (e : ME) : sx G C (.asg i e) env = bndE env (ev G C e env) fun v => nxt (env.set i (.sh v)) := rf rfl
@[simp] theorem sx_asgO (i : Nat) (e : ME) : sx G C (.asgO i e) env = bndE env (evF G C e env) fun xs => nxt (env.set i (.ow xs)) := rf rfl
@[simp] theorem sx_unp (is : List Nat) (e : ME) : sx G C (.unp is e) env = bndE env (evB G C e env) fun v => bndE env (opt (bindTo (.tp is) v env)) nxt := rf rfl
@[simp] theorem sx_frz (i : Nat) : sx G C (.frz i) env = withO env i fun xs => nxt (env.set i (.sh (.lst xs))) := rf rfl
@[simp] theorem sx_app (i : Nat) (e : ME) : sx G C (.app i e) env = withO env i fun xs => bndE env (ev G C e env) fun v => if isRef v || decide (line ≤ xs.length) then fail else nxt (env.set i (.ow (xs ++ [v]))) := rf rfl
@[simp] theorem sx_popD (i : Nat) : sx G C (.popD i) env = withO env i fun xs => if xs.isEmpty then fail else nxt (env.set i (.ow xs.dropLast)) := rf rfl
@[simp] theorem sx_rvs (i : Nat) : sx G C (.rvs i) env = withO env i fun xs => nxt (env.set i (.ow xs.reverse)) := rf rfl
@[simp] theorem sx_exp (e : ME) : sx G C (.exp e) env = bndE env (ev G C e env) fun _ => nxt env := rf rfl
@[simp] theorem sx_ret (e : ME) : sx G C (.ret e) env = bndE env (ev G C e env) fun v => rt (.rt v, env) := rf rfl
@[simp] theorem sx_retO (i : Nat) : sx G C (.retO i) env = withO env i fun xs => rt (.ro xs, env) := rf rfl
@[simp] theorem sx_retN : sx G C .retN env = rt (.rt .non, env) := rf rfl
@[simp] theorem sx_ite (t : ME) (a b : MSs) : sx G C (.ite t a b) env = bndE env (evT G C t env) fun k => if k = true then sxs G C a env else sxs G C b env := by
  show bndE _ _ _ = bndE _ _ _
  congr
  funext k
  cases k <;> rfl
@[simp] theorem sx_for (p : MP) (it : MI) (w : List Nat) (b : MSs) : sx G C (.for p it w b) env = bndE env (evJ G C it env) fun xs => forB G C p w b xs (wipeE w env) := rf rfl
@[simp] theorem sx_brk : sx G C .brk env = rt (.bk, env) := rf rfl
@[simp] theorem sx_cnt : sx G C .cnt env = rt (.ct, env) := rf rfl
@[simp] theorem sx_pas : sx G C .pas env = rt (.nx, env) := rf rfl
theorem forB_nil (p : MP) (w : List Nat) (b : MSs) : forB G C p w b [] env = rt (.nx, env) := rfl
def forK (p : MP) (w : List Nat) (b : MSs) (xs : List PV) (r : Fl × Env) : M (Fl × Env) := match r.1 with
  | .nx => forB G C p w b xs r.2
  | .ct => forB G C p w b xs r.2
  | .bk => rt (.nx, r.2)
  | f => rt (f, r.2)
theorem forB_cons (p : MP) (w : List Nat) (b : MSs) (x : PV) (xs : List PV) : forB G C p w b (x :: xs) env = bnd (forF G C p w b x env) (forK G C p w b xs) := by
  show bnd _ _ = bnd _ _
  congr
@[simp] theorem forK_nx (p : MP) (w : List Nat) (b : MSs) (xs : List PV) : forK G C p w b xs (.nx, env) = forB G C p w b xs env := rf rfl
@[simp] theorem forK_ct (p : MP) (w : List Nat) (b : MSs) (xs : List PV) : forK G C p w b xs (.ct, env) = forB G C p w b xs env := rf rfl
@[simp] theorem forK_bk (p : MP) (w : List Nat) (b : MSs) (xs : List PV) : forK G C p w b xs (.bk, env) = rt (.nx, env) := rf rfl
@[simp] theorem forK_rt (p : MP) (w : List Nat) (b : MSs) (xs : List PV) (v : PV) : forK G C p w b xs (.rt v, env) = rt (.rt v, env) := rf rfl
@[simp] theorem forK_ro (p : MP) (w : List Nat) (b : MSs) (xs : List PV) (v : List PV) : forK G C p w b xs (.ro v, env) = rt (.ro v, env) := rf rfl
end
/-! ### whole loops -/
/-- left with the value v -/
def IsRv (m : M (Fl × Env)) (v : PV) : Prop := ∃ e, m = rt (.rt v, e)
@[simp] theorem isRv_rt (v v' : PV) (e : Env) : IsRv (rt (.rt v, e)) v' ↔ v = v' := ⟨fun ⟨e2, h⟩ => by
  rw [rt_inj] at h
  cases h; rfl, fun h => ⟨e, by rw [h]⟩⟩
/-- a loop that is left when a word fails -/
theorem findSome_all {α β : Type} (b : α → Bool) (v : β) : ∀ l : List α, l.findSome? (fun x => if b x = true then none else some v) = if l.all b = true then none else some v
  | [] => rfl
  | x :: l => by
    rw [List.findSome?_cons, List.all_cons]
    cases h : b x with
    | true => simp only [if_true, Bool.true_and]; exact findSome_all b v l
    | false => simp
theorem findSome_any {α β : Type} (b : α → Bool) (v : β) : ∀ l : List α, l.findSome? (fun x => if b x = true then some v else none) = if l.any b = true then some v else none
  | [] => rfl
  | x :: l => by
    rw [List.findSome?_cons, List.any_cons]
    cases h : b x with
    | false => simp only [Bool.false_eq_true, if_false, Bool.false_or]; exact findSome_any b v l
    | true => simp
section
variable {G : Nat → Option PV} {C : Calls} {α β : Type}
/-- a comprehension over a list of things -/
theorem filtM_map {F : PV → M (Option PV)} {f : α → PV} (g : α → Option PV) : ∀ {l : List α}, (∀ a ∈ l, F (f a) = rt (g a)) → filtM F (l.map f) = rt (l.filterMap g)
  | [], _ => rfl
  | a :: l, h => by
    rw [List.map_cons]
    show bnd (F (f a)) _ = _
    rw [h a (List.mem_cons_self ..), bnd_rt]
    show bnd (filtM F (l.map f)) _ = _
    rw [filtM_map g fun b hb => h b (List.mem_cons_of_mem _ hb), bnd_rt, List.filterMap_cons]
    cases g a <;> rfl
/-- a for statement that is not left: E tells the slots by what is carried -/
theorem forB_fold {p : MP} {w : List Nat} {b : MSs} {f : α → PV} {E : β → Env} (step : β → α → β) : ∀ {l : List α} {s : β}, (∀ s, ∀ a ∈ l, forF G C p w b (f a) (E s) = rt (.nx, E (step s a))) → forB G C p w b (l.map f) (E s) = rt (.nx, E (l.foldl step s))
  | [], _, _ => rfl
  | a :: l, s, h => by
    rw [List.map_cons, forB_cons, h s a (List.mem_cons_self ..), bnd_rt, forK_nx, forB_fold step fun s b hb => h s b (List.mem_cons_of_mem _ hb)]
    rfl
/-- a for statement under a word Pv about what is carried, by the turn -/
theorem forB_inv {p : MP} {w : List Nat} {b : MSs} {f : α → PV} {E : β → Env} (step : β → α → β) (Pv : β → Prop) : ∀ {l : List α} {s : β}, Pv s → (∀ s, ∀ a ∈ l, Pv s → forF G C p w b (f a) (E s) = rt (.nx, E (step s a)) ∧ Pv (step s a)) → forB G C p w b (l.map f) (E s) = rt (.nx, E (l.foldl step s)) ∧ Pv (l.foldl step s)
  | [], _, h0, _ => ⟨rfl, h0⟩
  | a :: l, s, h0, h => by
    obtain ⟨h1, h2⟩ := h s a (List.mem_cons_self ..) h0
    obtain ⟨h3, h4⟩ := forB_inv (l := l) step Pv h2 fun s b hb => h s b (List.mem_cons_of_mem _ hb)
    rw [List.map_cons, forB_cons, h1, bnd_rt, forK_nx, h3]
    exact ⟨rfl, h4⟩
/-- .. the word may tell of what is still to be walked -/
theorem forB_run {p : MP} {w : List Nat} {b : MSs} {f : α → PV} {E : β → Env} (step : β → α → β) (Pv : List α → β → Prop) (h : ∀ s a r, Pv (a :: r) s → forF G C p w b (f a) (E s) = rt (.nx, E (step s a)) ∧ Pv r (step s a)) : ∀ {l : List α} {s : β}, Pv l s → forB G C p w b (l.map f) (E s) = rt (.nx, E (l.foldl step s)) ∧ Pv [] (l.foldl step s)
  | [], _, h0 => ⟨rfl, h0⟩
  | a :: l, s, h0 => by
    obtain ⟨h1, h2⟩ := h s a l h0
    obtain ⟨h3, h4⟩ := forB_run step Pv h (l := l) h2
    rw [List.map_cons, forB_cons, h1, bnd_rt, forK_nx, h3]
    exact ⟨rfl, h4⟩
theorem forB_rw {p : MP} {w : List Nat} {b : MSs} {f : α → PV} {env : Env} (E : β → Env) (s : β) (step : β → α → β) (Pv : List α → β → Prop) {l : List α} (he : env = E s) (h0 : Pv l s) (h : ∀ s a r, Pv (a :: r) s → forF G C p w b (f a) (E s) = rt (.nx, E (step s a)) ∧ Pv r (step s a)) :
    forB G C p w b (l.map f) env = rt (.nx, E (l.foldl step s)) := by rw [he]; exact (forB_run step Pv h h0).1
/-- .. where the slots are only told of -/
theorem forB_ex {p : MP} {w : List Nat} {b : MSs} {f : α → PV} (Pv : List α → Env → Prop) (h : ∀ env a r, Pv (a :: r) env → ∃ e2, forF G C p w b (f a) env = rt (.nx, e2) ∧ Pv r e2) : ∀ {l : List α} {env : Env}, Pv l env → ∃ e2, forB G C p w b (l.map f) env = rt (.nx, e2) ∧ Pv [] e2
  | [], env, h0 => ⟨env, rfl, h0⟩
  | a :: l, env, h0 => by
    obtain ⟨e2, h1, h2⟩ := h env a l h0
    obtain ⟨e3, h3, h4⟩ := forB_ex Pv h (l := l) h2
    exact ⟨e3, by rw [List.map_cons, forB_cons, h1, bnd_rt, forK_nx, h3], h4⟩
/-- a for statement that looks for one: left at the first a for which stop tells a value -/
theorem forB_find {p : MP} {w : List Nat} {b : MSs} {f : α → PV} {env : Env} (stop : α → Option PV) : ∀ {l : List α}, (∀ a ∈ l, ∃ e2, forF G C p w b (f a) env = rt (match stop a with | none => (.nx, env) | some v => (.rt v, e2))) →
    ∃ e2, forB G C p w b (l.map f) env = rt (match l.findSome? stop with | none => (.nx, env) | some v => (.rt v, e2))
  | [], _ => ⟨env, rfl⟩
  | a :: l, h => by
    obtain ⟨e2, h1⟩ := h a (List.mem_cons_self ..)
    rw [List.map_cons, forB_cons, h1, List.findSome?_cons]
    cases hs : stop a with
    | none =>
      obtain ⟨e3, h3⟩ := forB_find (l := l) stop fun b hb => h b (List.mem_cons_of_mem _ hb)
      exact ⟨e3, h3⟩
    | some v => exact ⟨e2, rfl⟩
theorem find_fin {p : MP} {w : List Nat} {b : MSs} {f : α → PV} {env : Env} {k : Env → M (Fl × Env)} (stop : α → Option PV) {l : List α} (h : ∀ a ∈ l, ∃ e2, forF G C p w b (f a) env = rt (match stop a with | none => (.nx, env) | some v => (.rt v, e2))) :
    finish (cat (forB G C p w b (l.map f) env) k) = match l.findSome? stop with | none => finish (k env) | some v => rt (v, false) := by
  obtain ⟨e2, h2⟩ := forB_find stop h
  rw [h2]
  cases l.findSome? stop <;> rfl
/-- left with v at the first a that fails the word -/
theorem find_all {p : MP} {w : List Nat} {b : MSs} {f : α → PV} {env : Env} {k : Env → M (Fl × Env)} (ok : α → Bool) (v : PV) {l : List α} (h1 : ∀ a ∈ l, ok a = true → forF G C p w b (f a) env = rt (.nx, env)) (h2 : ∀ a ∈ l, ok a = false → IsRv (forF G C p w b (f a) env) v) :
    finish (cat (forB G C p w b (l.map f) env) k) = if l.all ok = true then finish (k env) else rt (v, false) := by
  rw [find_fin (fun a => if ok a = true then none else some v), findSome_all]
  · cases l.all ok <;> rfl
  · intro a ha
    cases hb : ok a with
    | true => exact ⟨[], h1 a ha hb⟩
    | false =>
      obtain ⟨e2, h⟩ := h2 a ha hb
      exact ⟨e2, h⟩
/-- left with v at the first a that has the word -/
theorem find_any {p : MP} {w : List Nat} {b : MSs} {f : α → PV} {env : Env} {k : Env → M (Fl × Env)} (ok : α → Bool) (v : PV) {l : List α} (h1 : ∀ a ∈ l, ok a = false → forF G C p w b (f a) env = rt (.nx, env)) (h2 : ∀ a ∈ l, ok a = true → IsRv (forF G C p w b (f a) env) v) :
    finish (cat (forB G C p w b (l.map f) env) k) = if l.any ok = true then rt (v, false) else finish (k env) := by
  rw [find_fin (fun a => if ok a = true then some v else none), findSome_any]
  · cases l.any ok <;> rfl
  · intro a ha
    cases hb : ok a with
    | false => exact ⟨[], h1 a ha hb⟩
    | true =>
      obtain ⟨e2, h⟩ := h2 a ha hb
      exact ⟨e2, h⟩
end
theorem callI_succ {G : Nat → Option PV} {P : Nat → Option FD} {f : Nat} {d : FD} (n : Nat) (h : P f = some d) (vs : List PV) (hl : vs.length = d.nps) : callI G P (n + 1) f vs = finish (sxs G (callI G P n) d.body (start d vs)) := by
  show (match P f with | some d => _ | none => fail) = _
  rw [h]
  exact if_pos hl

/-- pieces of a body -/
def nthS : MSs → Nat → MS
  | .nil, _ => .pas
  | .cons s _, 0 => s
  | .cons _ r, n + 1 => nthS r n
def takeS : MSs → Nat → MSs
  | _, 0 => .nil
  | .nil, _ => .nil
  | .cons s r, n + 1 => .cons s (takeS r n)
def dropS : MSs → Nat → MSs
  | r, 0 => r
  | .nil, _ => .nil
  | .cons _ r, n + 1 => dropS r n
def appS : MSs → MSs → MSs
  | .nil, b => b
  | .cons s r, b => .cons s (appS r b)
theorem cat_assoc (m : M (Fl × Env)) (f g : Env → M (Fl × Env)) : cat (cat m f) g = cat m fun env => cat (f env) g := by
  unfold cat
  rw [bnd_assoc]
  congr
  funext r
  obtain ⟨fl, env⟩ := r
  cases fl <;> rfl
theorem cat_nxt (m : M (Fl × Env)) : cat m nxt = m := by
  funext s
  unfold cat bnd
  cases m s with
  | ok a s' =>
    obtain ⟨fl, env⟩ := a
    cases fl <;> rfl
  | exn n v s' => rfl
  | bad => rfl
theorem sxs_app (G : Nat → Option PV) (C : Calls) (b : MSs) : ∀ (a : MSs) (env : Env), sxs G C (appS a b) env = cat (sxs G C a env) fun env => sxs G C b env
  | .nil, env => rfl
  | .cons s r, env => by
    show cat (sx G C s env) (fun env => sxs G C (appS r b) env) = cat (cat (sx G C s env) fun env => sxs G C r env) _
    rw [cat_assoc]
    congr
    funext env
    exact sxs_app G C b r env
def forBody : MS → MSs
  | .for _ _ _ b => b
  | _ => .nil
def iteA : MS → MSs
  | .ite _ a _ => a
  | _ => .nil
def iteB : MS → MSs
  | .ite _ _ b => b
  | _ => .nil

/-! ### values -/

abbrev tupI (l : List Int) : PV := .tup (l.map .int)
abbrev lstI (l : List Int) : PV := .lst (l.map .int)
@[simp] theorem isRef_int (i : Int) : isRef (.int i) = false := rf rfl
@[simp] theorem isRef_bl (i : Bool) : isRef (.bl i) = false := rf rfl
@[simp] theorem isRef_tup (i : List PV) : isRef (.tup i) = false := rf rfl
@[simp] theorem isRef_lst (i : List PV) : isRef (.lst i) = false := rf rfl
@[simp] theorem isRef_str (i : Str) : isRef (.str i) = false := rf rfl
@[simp] theorem isRef_non : isRef .non = false := rf rfl
@[simp] theorem dep_int (i : Int) : dep (.int i) = 0 := rf rfl
@[simp] theorem dep_bl (i : Bool) : dep (.bl i) = 0 := rf rfl
@[simp] theorem dep_str (i : Str) : dep (.str i) = 0 := rf rfl
@[simp] theorem dep_non : dep .non = 0 := rf rfl
@[simp] theorem dep_tup (i : List PV) : dep (.tup i) = deps i + 1 := rf rfl
@[simp] theorem dep_lst (i : List PV) : dep (.lst i) = deps i + 1 := rf rfl
@[simp] theorem deps_nil : deps [] = 0 := rf rfl
@[simp] theorem deps_cons (x : PV) (l : List PV) : deps (x :: l) = max (dep x) (deps l) := rf rfl
@[simp] theorem deps_ints (l : List Int) : deps (l.map PV.int) = 0 := by
  induction l with
  | nil => rfl
  | cons a l ih => simp [ih]
theorem deps_le {n : Nat} : ∀ {l : List PV}, (∀ x ∈ l, dep x ≤ n) → deps l ≤ n
  | [], _ => Nat.zero_le _
  | x :: l, h => by
    have h1 := h x (List.mem_cons_self ..)
    have h2 := deps_le (l := l) fun y hy => h y (List.mem_cons_of_mem _ hy)
    rw [deps_cons]; omega
theorem deps_tups (l : List (List Int)) : deps (l.map tupI) ≤ 1 := deps_le fun x hx => by
  obtain ⟨y, _, rfl⟩ := List.mem_map.mp hx
  simp
@[simp] theorem eqvs_ints : ∀ (l m : List Int), eqvs (l.map PV.int) (m.map PV.int) = decide (l = m)
  | [], [] => rfl
  | [], _ :: _ => rfl
  | _ :: _, [] => rfl
  | a :: l, b :: m => by
    show (a == b && eqvs (l.map PV.int) (m.map PV.int)) = _
    rw [eqvs_ints l m, Bool.eq_iff_iff]
    simp
@[simp] theorem eqv_int (i j : Int) : eqv (.int i) (.int j) = (i == j) := rf rfl
@[simp] theorem eqv_tup (x y : List PV) : eqv (.tup x) (.tup y) = eqvs x y := rf rfl
@[simp] theorem eqv_lst (x y : List PV) : eqv (.lst x) (.lst y) = eqvs x y := rf rfl
@[simp] theorem eqvs_tups : ∀ (l m : List (List Int)), eqvs (l.map tupI) (m.map tupI) = decide (l = m)
  | [], [] => rfl
  | [], _ :: _ => rfl
  | _ :: _, [] => rfl
  | a :: l, b :: m => by
    show (eqvs (a.map PV.int) (b.map PV.int) && eqvs (l.map tupI) (m.map tupI)) = _
    rw [eqvs_ints, eqvs_tups l m, Bool.eq_iff_iff]
    simp
@[simp] theorem any_int (x : Int) (l : List Int) : ((l.map PV.int).any fun y => eqv y (.int x)) = decide (x ∈ l) := by
  induction l with
  | nil => rfl
  | cons a l ih =>
    rw [List.map_cons, List.any_cons, ih, eqv_int, Bool.eq_iff_iff, Bool.or_eq_true, beq_iff_eq, decide_eq_true_eq, decide_eq_true_eq, List.mem_cons]
    exact ⟨fun h => h.imp Eq.symm id, fun h => h.imp Eq.symm id⟩
@[simp] theorem any_int' (x : Int) (l : List Int) : (l.any ((fun y => eqv y (.int x)) ∘ PV.int)) = decide (x ∈ l) := by rw [← List.any_map]; exact any_int x l
theorem filterMap_ite {α β : Type} (b : α → Bool) (f : α → β) : ∀ l : List α, l.filterMap (fun x => if b x = true then some (f x) else none) = (l.filter b).map f
  | [] => rfl
  | x :: l => by
    rw [List.filterMap_cons, List.filter_cons]
    cases h : b x with
    | true => simp [filterMap_ite b f l]
    | false => simp [filterMap_ite b f l]
theorem filterMap_some {α β : Type} (f : α → β) (l : List α) : l.filterMap (fun x => some (f x)) = l.map f := by simp
@[simp] theorem noX_ite {α : Type} (c : Prop) [Decidable c] (a b : M α) : noX (if c then a else b) = if c then noX a else noX b := by split <;> rfl
@[simp] theorem len_zero {α : Type} (l : List α) : (((l.length : Nat) : Int) == 0) = l.isEmpty := by
  cases l with
  | nil => rfl
  | cons a l =>
    rw [beq_eq_false_iff_ne.mpr]
    · rfl
    · simp only [List.length_cons]; omega
@[simp] theorem noRefs_nil : noRefs [] = true := rf rfl
@[simp] theorem noRefs_cons (x : PV) (l : List PV) : noRefs (x :: l) = (!isRef x && noRefs l) := rf rfl
@[simp] theorem truthy_bl (b : Bool) : truthy (.bl b) = some b := rf rfl
@[simp] theorem truthy_int (b : Int) : truthy (.int b) = some (b != 0) := rf rfl
section
variable (σ : Sto) (xs ys : List PV) (i j : Int) (z : Str)
@[simp] theorem blt_len_t : pyBlt σ .len [.tup xs] = some (.int xs.length) := rf rfl
@[simp] theorem blt_len_l : pyBlt σ .len [.lst xs] = some (.int xs.length) := rf rfl
@[simp] theorem blt_tup_t : pyBlt σ .tuple [.tup xs] = some (.tup xs) := rf rfl
@[simp] theorem blt_tup_l : pyBlt σ .tuple [.lst xs] = some (.tup xs) := rf rfl
@[simp] theorem blt_lst_t : pyBlt σ .list [.tup xs] = some (.lst xs) := rf rfl
@[simp] theorem blt_lst_l : pyBlt σ .list [.lst xs] = some (.lst xs) := rf rfl
@[simp] theorem blt_int : pyBlt σ .int [.int i] = some (.int i) := rf rfl
@[simp] theorem blt_int_b (b : Bool) : pyBlt σ .int [.bl b] = some (.int (if b then 1 else 0)) := rf rfl
@[simp] theorem blt_abs : pyBlt σ .abs [.int i] = some (.int (if i < 0 then -i else i)) := rf rfl
@[simp] theorem blt_min : pyBlt σ .min [.int i, .int j] = some (.int (if j < i then j else i)) := rf rfl
@[simp] theorem blt_max : pyBlt σ .max [.int i, .int j] = some (.int (if j > i then j else i)) := rf rfl
@[simp] theorem blt_sort : pyBlt σ .sorted [.lst xs] = (pySorted xs).map .lst := rf rfl
def minOf (xs : List PV) : Option PV := match intsOf xs with
  | some (i :: r) => some (.int (least i r))
  | _ => none
def maxOf (xs : List PV) : Option PV := match intsOf xs with
  | some (i :: r) => some (.int (most i r))
  | _ => none
@[simp] theorem blt_minl : pyBlt σ .min [.lst xs] = minOf xs := rf rfl
@[simp] theorem blt_maxl : pyBlt σ .max [.lst xs] = maxOf xs := rf rfl
@[simp] theorem blt_sum : pyBlt σ .sum [.lst xs] = (intsOf xs).map fun l => .int l.sum := rf rfl
@[simp] theorem bin_add : pyBin .add (.int i) (.int j) = some (.int (i + j)) := rf rfl
@[simp] theorem bin_sub : pyBin .sub (.int i) (.int j) = some (.int (i - j)) := rf rfl
theorem bin_add_t (h : xs.length + ys.length ≤ line) : pyBin .add (.tup xs) (.tup ys) = some (.tup (xs ++ ys)) := if_pos h
theorem bin_add_l (h : xs.length + ys.length ≤ line) : pyBin .add (.lst xs) (.lst ys) = some (.lst (xs ++ ys)) := if_pos h
theorem bin_mul (h : mulOk i j = true) : pyBin .mul (.int i) (.int j) = some (.int (i * j)) := if_pos h
theorem bin_fdiv (h : divOk j = true) : pyBin .fdiv (.int i) (.int j) = some (.int (i.fdiv j)) := if_pos h
theorem bin_pow (h0 : 0 ≤ j) (h1 : j ≤ 1000000) (h2 : small i.natAbs = true) : pyBin .pow (.int i) (.int j) = some (.int (i ^ j.toNat)) := if_pos ⟨h0, h1, h2⟩
theorem bin_mod (h : j ≠ 0) : pyBin .mod (.int i) (.int j) = some (.int (i.fmod j)) := if_neg h
@[simp] theorem cmp_lt : pyCmp σ .lt (.int i) (.int j) = some (decide (i < j)) := rf rfl
@[simp] theorem cmp_gt : pyCmp σ .gt (.int i) (.int j) = some (decide (j < i)) := rf rfl
@[simp] theorem cmp_le : pyCmp σ .le (.int i) (.int j) = some (decide (i ≤ j)) := rf rfl
@[simp] theorem cmp_ge : pyCmp σ .ge (.int i) (.int j) = some (decide (j ≤ i)) := rf rfl
@[simp] theorem cmp_eqi : pyCmp σ .eq (.int i) (.int j) = some (i == j) := rf rfl
@[simp] theorem cmp_nei : pyCmp σ .ne (.int i) (.int j) = some (!(i == j)) := rf rfl
@[simp] theorem cmp_eqb (a b : Bool) : pyCmp σ .eq (.bl a) (.bl b) = some (a == b) := rf rfl
@[simp] theorem cmp_neb (a b : Bool) : pyCmp σ .ne (.bl a) (.bl b) = some (!(a == b)) := rf rfl
@[simp] theorem cmp_isb (a b : Bool) : pyCmp σ .is (.bl a) (.bl b) = some (a == b) := rf rfl
@[simp] theorem cmp_isnb (a b : Bool) : pyCmp σ .isn (.bl a) (.bl b) = some (!(a == b)) := rf rfl
@[simp] theorem cmp_inn (a b : PV) : pyCmp σ .inn a b = pyIn σ a b := rf rfl
@[simp] theorem cmp_nin (a b : PV) : pyCmp σ .nin a b = (pyIn σ a b).map not := rf rfl
theorem cmp_eq (a b : PV) (h : eqOk a b = true) : pyCmp σ .eq a b = some (eqv a b) := if_pos h
theorem cmp_ne (a b : PV) (h : eqOk a b = true) : pyCmp σ .ne a b = some (!eqv a b) := if_pos h
@[simp] theorem in_int_t (x : Int) (l : List Int) : pyIn σ (.int x) (tupI l) = some (decide (x ∈ l)) := by
  show (if _ then some _ else none) = _
  rw [any_int]
  exact if_pos (by simp)
@[simp] theorem in_int_l (x : Int) (l : List Int) : pyIn σ (.int x) (lstI l) = some (decide (x ∈ l)) := by
  show (if _ then some _ else none) = _
  rw [any_int]
  exact if_pos (by simp)
@[simp] theorem idx_t : pyIdx σ (.tup xs) (.int i) = item xs i := rf rfl
@[simp] theorem idx_l : pyIdx σ (.lst xs) (.int i) = item xs i := rf rfl
@[simp] theorem sli_t (l h : Option Int) : pySli (.tup xs) l h = some (.tup (cut xs l h)) := rf rfl
@[simp] theorem sli_l (l h : Option Int) : pySli (.lst xs) l h = some (.lst (cut xs l h)) := rf rfl
@[simp] theorem items_t : itemsOf (.tup xs) = some xs := rf rfl
@[simp] theorem items_l : itemsOf (.lst xs) = some xs := rf rfl
@[simp] theorem isTy_it (t : List PV) : isTy .tuple (.tup t) = some true := rf rfl
@[simp] theorem isTy_lt (t : List PV) : isTy .tuple (.lst t) = some false := rf rfl
@[simp] theorem isTy_nt : isTy .tuple .non = some false := rf rfl
@[simp] theorem isTy_bt (b : Bool) : isTy .tuple (.bl b) = some false := rf rfl
@[simp] theorem isTy_ii : isTy .int (.int i) = some true := rf rfl
@[simp] theorem isTy_bi (b : Bool) : isTy .int (.bl b) = some true := rf rfl
@[simp] theorem isTy_ib : isTy .bool (.int i) = some false := rf rfl
@[simp] theorem isTy_bb (b : Bool) : isTy .bool (.bl b) = some true := rf rfl
@[simp] theorem bind_nm (k : Nat) (v : PV) (env : Env) : bindTo (.nm k) v env = some (env.set k (.sh v)) := rf rfl
@[simp] theorem bind_tp (ks : List Nat) (env : Env) : bindTo (.tp ks) (.tup xs) env = bindEach ks xs env := rf rfl
@[simp] theorem bindEach_nil (env : Env) : bindEach [] [] env = some env := rf rfl
@[simp] theorem bindEach_cons (k : Nat) (ks : List Nat) (v : PV) (env : Env) : bindEach (k :: ks) (v :: xs) env = bindEach ks xs (env.set k (.sh v)) := rf rfl
@[simp] theorem wipeE_nil (env : Env) : wipeE [] env = env := rf rfl
@[simp] theorem wipeE_cons (k : Nat) (ks : List Nat) (env : Env) : wipeE (k :: ks) env = wipeE ks (env.set k .un) := rf rfl
theorem mk_ok {c : List PV → PV} (h1 : noRefs xs = true) (h2 : xs.length ≤ line) : mk c xs = rt (c xs) := by
  unfold mk
  rw [h1, Bool.true_and, if_pos (decide_eq_true h2)]
@[simp] theorem mk_nil {c : List PV → PV} : mk c [] = rt (c []) := mk_ok _ rfl (by unfold line; simp)
end
theorem item_nat {α : Type} {xs : List α} {i : Nat} {a : α} (h : xs[i]? = some a) : item xs (i : Int) = some a := by
  have hl := (List.getElem?_eq_some_iff.mp h).1
  unfold item place
  rw [if_pos (by omega), if_pos (by omega)]
  show xs[(i : Int).toNat]? = some a
  rw [Int.toNat_natCast]
  exact h
theorem item_map {α β : Type} (f : α → β) (d : α) (xs : List α) {a : Int} (h0 : 0 ≤ a) (h1 : a < xs.length) : item (xs.map f) a = some (f (xs.getD a.toNat d)) := by
  have hl : a.toNat < xs.length := by omega
  have e : ((a.toNat : Nat) : Int) = a := Int.toNat_of_nonneg h0
  rw [← e]
  refine item_nat ?_
  rw [List.getElem?_map, List.getElem?_eq_getElem hl, Int.toNat_natCast, List.getD_eq_getElem?_getD, List.getElem?_eq_getElem hl]
  rfl
theorem least_eq (m : Int) : ∀ (l : List Int), least m l = l.foldl (fun a b => if b < a then b else a) m
  | [] => rfl
  | x :: r => by
    unfold least
    rw [List.foldl_cons]
    split <;> exact least_eq _ r
@[simp] theorem intsOf_ints : ∀ l : List Int, intsOf (l.map PV.int) = some l
  | [] => rfl
  | x :: r => by
    show (intsOf (r.map PV.int)).map _ = _
    rw [intsOf_ints r]; rfl
@[simp] theorem tupIs_ints : ∀ l : List Int, tupIs (l.map PV.int) = true
  | [] => rfl
  | x :: r => tupIs_ints r
theorem insert1_perm (x : PV) : ∀ l, (insert1 x l).Perm (x :: l)
  | [] => .refl _
  | y :: r => by
    unfold insert1
    split
    · exact ((insert1_perm x r).cons y).trans (.swap x y r)
    · exact .refl _
theorem isort_perm : ∀ l, (isort l).Perm l
  | [] => .refl _
  | x :: r => (insert1_perm x _).trans ((isort_perm r).cons x)
theorem rng_eq (a : Int) (n : Nat) : rng a n = (List.range n).map fun (k : Nat) => PV.int (a + (k : Int)) := rfl
def rangeI (n : Nat) : List Int := (List.range n).map fun (k : Nat) => (k : Int)
@[simp] theorem rangeI_len (n : Nat) : (rangeI n).length = n := by unfold rangeI; simp
theorem mem_rangeI {n : Nat} {x : Int} : x ∈ rangeI n ↔ 0 ≤ x ∧ x < (n : Int) := by
  unfold rangeI
  rw [List.mem_map]
  constructor
  · rintro ⟨k, hk, rfl⟩
    have := List.mem_range.mp hk
    omega
  · rintro ⟨h1, h2⟩
    exact ⟨x.toNat, List.mem_range.mpr (by omega), by omega⟩
@[simp] theorem rng0 (n : Nat) : rng 0 n = (rangeI n).map PV.int := by
  unfold rangeI
  rw [rng_eq, List.map_map]
  congr
  funext k
  show PV.int (0 + (k : Int)) = PV.int (k : Int)
  rw [Int.zero_add]
theorem cut_map {α β : Type} (f : α → β) (xs : List α) (l h : Option Int) : cut (xs.map f) l h = (cut xs l h).map f := by
  unfold cut
  rw [List.length_map, List.map_take, List.map_drop]
theorem cut_len {α : Type} (xs : List α) (l h : Option Int) : (cut xs l h).length ≤ xs.length := by
  unfold cut
  rw [List.length_take, List.length_drop]
  omega
theorem mul_ok {i j : Int} (h1 : -18446744073709551616 < i) (h2 : i < 18446744073709551616) : mulOk i j = true := by
  unfold mulOk small
  rw [Bool.or_eq_true, Bool.or_eq_true]
  exact .inl (.inl (decide_eq_true (by omega)))
theorem mul_ok' {i j : Int} (h1 : -18446744073709551616 < j) (h2 : j < 18446744073709551616) : mulOk i j = true := by
  unfold mulOk small
  rw [Bool.or_eq_true, Bool.or_eq_true]
  exact .inl (.inr (decide_eq_true (by omega)))
theorem div_ok {j : Int} (h1 : 0 < j) (h2 : j < 1073741824) : divOk j = true := by
  unfold divOk
  rw [Bool.and_eq_true, Bool.or_eq_true]
  exact ⟨decide_eq_true (by omega), .inl (decide_eq_true (by omega))⟩
/-- tuples of ints, sorted -/
def unT : PV → List Int
  | .tup x => (intsOf x).getD []
  | _ => []
theorem unT_tup (a : List Int) : unT (tupI a) = a := by
  show (intsOf (a.map PV.int)).getD [] = a
  rw [intsOf_ints]; rfl
def sortT (l : List (List Int)) : List (List Int) := (isort (l.map tupI)).map unT
theorem sortT_eq (l : List (List Int)) : isort (l.map tupI) = (sortT l).map tupI := by
  have hp := isort_perm (l.map tupI)
  have all : ∀ x ∈ isort (l.map tupI), tupI (unT x) = x := fun x hx => by
    obtain ⟨y, _, e⟩ := List.mem_map.mp (hp.mem_iff.mp hx)
    subst e
    rw [unT_tup]
  unfold sortT
  rw [List.map_map]
  generalize isort (l.map tupI) = L at all
  induction L with
  | nil => rfl
  | cons x L ih =>
    rw [List.map_cons, ← ih fun z hz => all z (List.mem_cons_of_mem _ hz)]
    show x :: L = tupI (unT x) :: L
    rw [all x (List.mem_cons_self ..)]
theorem sortT_perm (l : List (List Int)) : (sortT l).Perm l := by
  have q := (isort_perm (l.map tupI)).map unT
  rw [List.map_map] at q
  have e : unT ∘ tupI = id := funext fun a => unT_tup a
  rw [e, List.map_id] at q
  exact q
@[simp] theorem sorted_tups (l : List (List Int)) : pySorted (l.map tupI) = some ((sortT l).map tupI) := by
  have hall : (l.map tupI).all isTupI = true := by
    rw [List.all_eq_true]
    intro x hx
    obtain ⟨y, _, rfl⟩ := List.mem_map.mp hx
    exact tupIs_ints y
  unfold pySorted
  rw [hall, Bool.or_true, if_pos rfl, sortT_eq]
end Sk

namespace P59
open Sk PySem
def n_is_whole : Nat := 0
def n_whole_in : Nat := 1
def n_check_problem : Nat := 2
def n_left_after : Nat := 3
def n_subsets : Nat := 4
def n_covers_all : Nat := 5
def n_covers_of : Nat := 6
def n_least_of : Nat := 7
def n_is_picks : Nat := 8
def n_is_cover_of : Nat := 9
def n_is_cover : Nat := 10
def n_least_covers : Nat := 11
def n_can_spare : Nat := 12
def n_minimal_covers : Nat := 13
def n__law_mix : Nat := 14
def n__law_pool : Nat := 15
def n__law_sets : Nat := 16
def n__law_picks : Nat := 17
def n__law_left : Nat := 18
def n__law_flag : Nat := 19
def n__law_drawn : Nat := 20
def n__law_spare : Nat := 21
def n_law : Nat := 22
def c_SkerryError : Nat := 0
def c_TooLarge : Nat := 1
def g_MOST_THINGS : Nat := 0
def g_MOST_SETS : Nat := 1
def f_is_whole : FD := ⟨1, 1, (.cons (.ret (.and (.isi (.var 0) .int) (.not (.isi (.var 0) .bool))))
    .nil)⟩
def f_whole_in : FD := ⟨3, 3, (.cons (.ret (.and (.call n_is_whole (.cons (.var 0) .nil)) (.chain .le .le (.var 1) (.var 0) (.var 2))))
    .nil)⟩
def f_check_problem : FD := ⟨2, 2, (.cons (.ite (.cmp .gt (.var 0) (.glo g_MOST_THINGS))
    (.cons .nev
    .nil)
    .nil)
    (.cons (.ite (.cmp .gt (.blt .len (.cons (.var 1) .nil)) (.glo g_MOST_SETS))
    (.cons .nev
    .nil)
    .nil)
    .nil))⟩
def f_left_after : FD := ⟨2, 3, (.cons (.ret (.blt .tuple (.cons (.comp (.var 2) (.nm 2) (.seq (.var 0)) (.so (.cmp .nin (.var 2) (.var 1)))) .nil)))
    .nil)⟩
def f_subsets : FD := ⟨1, 4, (.cons (.asg 1 (.lst (.cons (.tup .nil) .nil)))
    (.cons (.for (.nm 2) (.rg1 (.var 0)) [2]
    (.cons (.asg 1 (.bin .add (.var 1) (.comp (.bin .add (.var 3) (.tup (.cons (.var 2) .nil))) (.nm 3) (.seq (.var 1)) .no)))
    .nil))
    (.cons (.ret (.blt .tuple (.cons (.blt .sorted (.cons (.var 1) .nil)) .nil)))
    .nil)))⟩
def f_covers_all : FD := ⟨3, 5, (.cons (.asg 3 (.var 0))
    (.cons (.for (.nm 4) (.seq (.var 2)) [4]
    (.cons (.asg 3 (.call n_left_after (.cons (.var 3) (.cons (.idx (.var 1) (.var 4)) .nil))))
    .nil))
    (.cons (.ret (.cmp .eq (.blt .len (.cons (.var 3) .nil)) (.int 0)))
    .nil)))⟩
def f_covers_of : FD := ⟨2, 3, (.cons (.ret (.blt .tuple (.cons (.comp (.var 2) (.nm 2) (.seq (.call n_subsets (.cons (.blt .len (.cons (.var 1) .nil)) .nil))) (.so (.call n_covers_all (.cons (.var 0) (.cons (.var 1) (.cons (.var 2) .nil)))))) .nil)))
    .nil)⟩
def f_least_of : FD := ⟨1, 3, (.cons (.ite (.cmp .eq (.blt .len (.cons (.var 0) .nil)) (.int 0))
    (.cons (.ret (.tup .nil))
    .nil)
    .nil)
    (.cons (.asg 1 (.blt .min (.cons (.comp (.blt .len (.cons (.var 2) .nil)) (.nm 2) (.seq (.var 0)) .no) .nil)))
    (.cons (.ret (.blt .tuple (.cons (.comp (.var 2) (.nm 2) (.seq (.var 0)) (.so (.cmp .eq (.blt .len (.cons (.var 2) .nil)) (.var 1)))) .nil)))
    .nil)))⟩
def f_is_picks : FD := ⟨2, 4, (.cons (.ite (.not (.isi (.var 1) .tuple))
    (.cons (.ret (.bl false))
    .nil)
    .nil)
    (.cons (.for (.nm 2) (.seq (.var 1)) [2]
    (.cons (.ite (.not (.call n_whole_in (.cons (.var 2) (.cons (.int 0) (.cons (.bin .sub (.var 0) (.int 1)) .nil)))))
    (.cons (.ret (.bl false))
    .nil)
    .nil)
    .nil))
    (.cons (.for (.nm 3) (.rg2 (.int 1) (.blt .len (.cons (.var 1) .nil))) [3]
    (.cons (.ite (.cmp .le (.idx (.var 1) (.var 3)) (.idx (.var 1) (.bin .sub (.var 3) (.int 1))))
    (.cons (.ret (.bl false))
    .nil)
    .nil)
    .nil))
    (.cons (.ret (.bl true))
    .nil))))⟩
def f_is_cover_of : FD := ⟨3, 3, (.cons (.ret (.and (.call n_is_picks (.cons (.blt .len (.cons (.var 1) .nil)) (.cons (.var 2) .nil))) (.call n_covers_all (.cons (.var 0) (.cons (.var 1) (.cons (.var 2) .nil))))))
    .nil)⟩
def f_is_cover : FD := ⟨3, 3, (.cons (.exp (.call n_check_problem (.cons (.var 0) (.cons (.var 1) .nil))))
    (.cons (.ret (.call n_is_cover_of (.cons (.rgt (.rg1 (.var 0))) (.cons (.var 1) (.cons (.var 2) .nil)))))
    .nil))⟩
def f_least_covers : FD := ⟨2, 2, (.cons (.exp (.call n_check_problem (.cons (.var 0) (.cons (.var 1) .nil))))
    (.cons (.ret (.call n_least_of (.cons (.call n_covers_of (.cons (.rgt (.rg1 (.var 0))) (.cons (.var 1) .nil))) .nil)))
    .nil))⟩
def f_can_spare : FD := ⟨3, 5, (.cons (.for (.nm 3) (.seq (.var 2)) [3]
    (.cons (.ite (.call n_covers_all (.cons (.var 0) (.cons (.var 1) (.cons (.blt .tuple (.cons (.comp (.var 4) (.nm 4) (.seq (.var 2)) (.so (.cmp .ne (.var 4) (.var 3)))) .nil)) .nil))))
    (.cons (.ret (.bl true))
    .nil)
    .nil)
    .nil))
    (.cons (.ret (.bl false))
    .nil))⟩
def f_minimal_covers : FD := ⟨2, 4, (.cons (.exp (.call n_check_problem (.cons (.var 0) (.cons (.var 1) .nil))))
    (.cons (.asg 2 (.rgt (.rg1 (.var 0))))
    (.cons (.ret (.blt .tuple (.cons (.comp (.var 3) (.nm 3) (.seq (.call n_covers_of (.cons (.var 2) (.cons (.var 1) .nil)))) (.so (.not (.call n_can_spare (.cons (.var 2) (.cons (.var 1) (.cons (.var 3) .nil))))))) .nil)))
    .nil)))⟩
def f__law_mix : FD := ⟨3, 6, (.cons (.asg 3 (.bin .mod (.blt .int (.cons (.var 0) .nil)) (.int 1000003)))
    (.cons (.asg 4 (.bin .mod (.bin .mul (.bin .add (.var 3) (.int 1)) (.bin .add (.bin .add (.int 48271) (.bin .mul (.bin .mul (.int 2) (.var 2)) (.var 2))) (.bin .mul (.int 6) (.var 1)))) (.int 2147483647)))
    (.cons (.asg 5 (.bin .mod (.bin .add (.bin .mul (.var 4) (.int 69621)) (.bin .mul (.bin .fdiv (.var 4) (.int 8191)) (.bin .add (.var 2) (.int 3)))) (.int 2147483629)))
    (.cons (.ret (.bin .mod (.bin .fdiv (.var 5) (.int 7)) (.int 1000)))
    .nil))))⟩
def f__law_pool : FD := ⟨1, 6, (.cons (.asgO 1 (.lst .nil))
    (.cons (.for (.nm 2) (.rg1 (.int 6)) [2, 3, 4, 5]
    (.cons (.asg 3 (.int 0))
    (.cons (.ite (.cmp .lt (.var 2) (.blt .len (.cons (.var 0) .nil)))
    (.cons (.asg 3 (.blt .abs (.cons (.idx (.var 0) (.var 2)) .nil)))
    .nil)
    .nil)
    (.cons (.asg 4 (.int 0))
    (.cons (.ite (.cmp .ge (.var 3) (.bin .pow (.int 10) (.int 18)))
    (.cons (.asg 4 (.var 3))
    .nil)
    .nil)
    (.cons (.for (.nm 5) (.rg1 (.int 40)) [5]
    (.cons (.ite (.cmp .gt (.var 4) (.int 0))
    (.cons (.app 1 (.bin .mod (.blt .int (.cons (.var 4) .nil)) (.int 1000)))
    (.cons (.asg 4 (.bin .fdiv (.var 4) (.int 1000)))
    .nil))
    (.cons (.app 1 (.call n__law_mix (.cons (.var 3) (.cons (.var 2) (.cons (.var 5) .nil)))))
    .nil))
    .nil))
    .nil))))))
    (.cons (.retO 1)
    .nil)))⟩
def f__law_sets : FD := ⟨5, 8, (.cons (.asgO 5 (.lst .nil))
    (.cons (.for (.nm 6) (.rg1 (.var 3)) [6]
    (.cons (.app 5 (.blt .tuple (.cons (.comp (.var 7) (.nm 7) (.rg1 (.var 2)) (.so (.cmp .eq (.bin .mod (.idx (.var 0) (.bin .add (.bin .add (.var 1) (.bin .mul (.int 12) (.var 6))) (.var 7))) (.var 4)) (.int 0)))) .nil)))
    .nil))
    (.cons (.ret (.blt .tuple (.cons (.var 5) .nil)))
    .nil)))⟩
def f__law_picks : FD := ⟨1, 4, (.cons (.asg 1 (.lst (.cons (.tup .nil) .nil)))
    (.cons (.for (.nm 2) (.rg1 (.var 0)) [2]
    (.cons (.asg 1 (.bin .add (.var 1) (.comp (.bin .add (.var 3) (.tup (.cons (.var 2) .nil))) (.nm 3) (.seq (.var 1)) .no)))
    .nil))
    (.cons (.ret (.blt .sorted (.cons (.var 1) .nil)))
    .nil)))⟩
def f__law_left : FD := ⟨3, 6, (.cons (.asg 3 (.blt .list (.cons (.var 0) .nil)))
    (.cons (.for (.nm 4) (.seq (.var 2)) [4]
    (.cons (.asg 3 (.comp (.var 5) (.nm 5) (.seq (.var 3)) (.so (.cmp .nin (.var 5) (.idx (.var 1) (.var 4))))))
    .nil))
    (.cons (.ret (.var 3))
    .nil)))⟩
def f__law_flag : FD := ⟨2, 2, (.cons (.ret (.and (.isi (.var 0) .bool) (.cmp .eq (.var 0) (.var 1))))
    .nil)⟩
def f__law_drawn : FD := ⟨1, 4, (.cons (.asg 1 (.bin .mod (.idx (.var 0) (.int 0)) (.int 9)))
    (.cons (.asg 2 (.bin .mod (.idx (.var 0) (.int 1)) (.int 7)))
    (.cons (.asg 3 (.call n__law_sets (.cons (.var 0) (.cons (.int 100) (.cons (.var 1) (.cons (.var 2) (.cons (.bin .add (.int 2) (.bin .mod (.idx (.var 0) (.int 2)) (.int 2))) .nil)))))))
    (.cons (.ite (.and (.cmp .eq (.bin .mod (.idx (.var 0) (.int 3)) (.int 3)) (.int 0)) (.cmp .gt (.var 2) (.int 1)))
    (.cons (.asg 3 (.bin .add (.bin .add (.sli (.var 3) .no (.so (.int 1))) (.tup (.cons (.idx (.var 3) (.int 0)) .nil))) (.sli (.var 3) (.so (.int 2)) .no)))
    .nil)
    .nil)
    (.cons (.ret (.tup (.cons (.var 1) (.cons (.var 3) .nil))))
    .nil)))))⟩
def f__law_spare : FD := ⟨3, 5, (.cons (.for (.nm 3) (.seq (.var 2)) [3]
    (.cons (.ite (.cmp .eq (.blt .len (.cons (.call n__law_left (.cons (.var 0) (.cons (.var 1) (.cons (.comp (.var 4) (.nm 4) (.seq (.var 2)) (.so (.cmp .ne (.var 4) (.var 3)))) .nil)))) .nil)) (.int 0))
    (.cons (.ret (.bl true))
    .nil)
    .nil)
    .nil))
    (.cons (.ret (.bl false))
    .nil))⟩
def f_law : FD := ⟨1, 14, (.cons (.asg 1 (.call n__law_pool (.cons (.var 0) .nil)))
    (.cons (.unp [2, 3] (.call n__law_drawn (.cons (.var 1) .nil)))
    (.cons (.asg 4 (.rgt (.rg1 (.var 2))))
    (.cons (.asgO 5 (.lst .nil))
    (.cons (.asgO 6 (.lst .nil))
    (.cons (.for (.nm 7) (.seq (.call n__law_picks (.cons (.blt .len (.cons (.var 3) .nil)) .nil))) [7, 12]
    (.cons (.asg 12 (.cmp .eq (.blt .len (.cons (.call n__law_left (.cons (.var 4) (.cons (.var 3) (.cons (.var 7) .nil)))) .nil)) (.int 0)))
    (.cons (.ite (.not (.call n__law_flag (.cons (.call n_is_cover (.cons (.var 2) (.cons (.var 3) (.cons (.var 7) .nil)))) (.cons (.var 12) .nil))))
    (.cons (.ret (.bl false))
    .nil)
    .nil)
    (.cons (.ite (.var 12)
    (.cons (.app 6 (.var 7))
    .nil)
    .nil)
    (.cons (.ite (.and (.var 12) (.not (.call n__law_spare (.cons (.var 4) (.cons (.var 3) (.cons (.var 7) .nil))))))
    (.cons (.app 5 (.var 7))
    .nil)
    .nil)
    .nil)))))
    (.cons (.asg 8 (.lst .nil))
    (.cons (.ite (.cmp .gt (.blt .len (.cons (.var 6) .nil)) (.int 0))
    (.cons (.asg 13 (.blt .min (.cons (.comp (.blt .len (.cons (.var 7) .nil)) (.nm 7) (.seq (.var 6)) .no) .nil)))
    (.cons (.asg 8 (.comp (.var 7) (.nm 7) (.seq (.var 6)) (.so (.cmp .eq (.blt .len (.cons (.var 7) .nil)) (.var 13)))))
    .nil))
    .nil)
    (.cons (.asg 9 (.call n_minimal_covers (.cons (.var 2) (.cons (.var 3) .nil))))
    (.cons (.ite (.or (.not (.isi (.var 9) .tuple)) (.cmp .ne (.blt .list (.cons (.var 9) .nil)) (.var 5)))
    (.cons (.ret (.bl false))
    .nil)
    .nil)
    (.cons (.asg 9 (.call n_least_covers (.cons (.var 2) (.cons (.var 3) .nil))))
    (.cons (.ite (.or (.not (.isi (.var 9) .tuple)) (.cmp .ne (.blt .list (.cons (.var 9) .nil)) (.var 8)))
    (.cons (.ret (.bl false))
    .nil)
    .nil)
    (.cons (.asg 10 (.rgt (.rg1 (.blt .len (.cons (.var 3) .nil)))))
    (.cons (.for (.nm 11) (.seq (.lst (.cons (.bin .add (.var 10) (.tup (.cons (.blt .len (.cons (.var 3) .nil)) .nil))) (.cons (.bin .add (.bin .add (.var 10) (.sli (.var 10) (.so (.neg (.int 1))) .no)) (.tup (.cons (.int 9) .nil))) (.cons (.blt .list (.cons (.var 10) .nil)) (.cons (.bin .add (.tup (.cons (.bin .sub (.int 0) (.int 1)) .nil)) (.var 10)) (.cons .non .nil))))))) [11]
    (.cons (.ite (.cmp .isn (.call n_is_cover (.cons (.var 2) (.cons (.var 3) (.cons (.var 11) .nil)))) (.bl false))
    (.cons (.ret (.bl false))
    .nil)
    .nil)
    .nil))
    (.cons (.ite (.cmp .gt (.blt .len (.cons (.var 3) .nil)) (.int 1))
    (.cons (.ite (.or (.cmp .isn (.call n_is_cover (.cons (.var 2) (.cons (.var 3) (.cons (.bin .add (.tup (.cons (.int 0) (.cons (.cmp .eq (.int 1) (.int 1)) .nil))) (.sli (.var 10) (.so (.int 2)) .no)) .nil)))) (.bl false)) (.cmp .isn (.call n_is_cover (.cons (.var 2) (.cons (.var 3) (.cons (.bin .add (.var 10) (.tup (.cons (.int 1) .nil))) .nil)))) (.bl false)))
    (.cons (.ret (.bl false))
    .nil)
    .nil)
    .nil)
    .nil)
    (.cons (.ret (.or (.cmp .lt (.blt .len (.cons (.var 3) .nil)) (.int 2)) (.cmp .is (.call n_is_cover (.cons (.var 2) (.cons (.var 3) (.cons (.bin .add (.tup (.cons (.int 1) (.cons (.int 0) .nil))) (.sli (.var 10) (.so (.int 2)) .no)) .nil)))) (.bl false))))
    .nil))))))))))))))))⟩
def tab : List FD := [f_is_whole, f_whole_in, f_check_problem, f_left_after, f_subsets, f_covers_all, f_covers_of, f_least_of, f_is_picks, f_is_cover_of, f_is_cover, f_least_covers, f_can_spare, f_minimal_covers, f__law_mix, f__law_pool, f__law_sets, f__law_picks, f__law_left, f__law_flag, f__law_drawn, f__law_spare, f_law]
def P (i : Nat) : Option FD := tab[i]?
def gi : List (Str × Int) := [("MOST_THINGS", 12), ("MOST_SETS", 8)]
def G (i : Nat) : Option PV := (gi[i]?).map fun p => .int p.2
abbrev run (n : Nat) : Calls := callI G P n
theorem P_is_whole : P n_is_whole = some f_is_whole := rfl
theorem P_whole_in : P n_whole_in = some f_whole_in := rfl
theorem P_check_problem : P n_check_problem = some f_check_problem := rfl
theorem P_left_after : P n_left_after = some f_left_after := rfl
theorem P_subsets : P n_subsets = some f_subsets := rfl
theorem P_covers_all : P n_covers_all = some f_covers_all := rfl
theorem P_covers_of : P n_covers_of = some f_covers_of := rfl
theorem P_least_of : P n_least_of = some f_least_of := rfl
theorem P_is_picks : P n_is_picks = some f_is_picks := rfl
theorem P_is_cover_of : P n_is_cover_of = some f_is_cover_of := rfl
theorem P_is_cover : P n_is_cover = some f_is_cover := rfl
theorem P_least_covers : P n_least_covers = some f_least_covers := rfl
theorem P_can_spare : P n_can_spare = some f_can_spare := rfl
theorem P_minimal_covers : P n_minimal_covers = some f_minimal_covers := rfl
theorem P__law_mix : P n__law_mix = some f__law_mix := rfl
theorem P__law_pool : P n__law_pool = some f__law_pool := rfl
theorem P__law_sets : P n__law_sets = some f__law_sets := rfl
theorem P__law_picks : P n__law_picks = some f__law_picks := rfl
theorem P__law_left : P n__law_left = some f__law_left := rfl
theorem P__law_flag : P n__law_flag = some f__law_flag := rfl
theorem P__law_drawn : P n__law_drawn = some f__law_drawn := rfl
theorem P__law_spare : P n__law_spare = some f__law_spare := rfl
theorem P_law : P n_law = some f_law := rfl
theorem G_MOST_THINGS : G g_MOST_THINGS = some (.int 12) := rfl
theorem G_MOST_SETS : G g_MOST_SETS = some (.int 8) := rfl
end P59
set_option autoImplicit false
set_option linter.all false
set_option maxRecDepth 4000
namespace P59
open Sk
theorem s_is_whole (n : Nat) (x : Int) : run (n + 1) n_is_whole [.int x] = rt (.bl true, false) := by
  rw [run, callI_succ _ P_is_whole _ rfl]
  simp [f_is_whole, start]
theorem s_is_whole_b (n : Nat) (x : Bool) : run (n + 1) n_is_whole [.bl x] = rt (.bl false, false) := by
  rw [run, callI_succ _ P_is_whole _ rfl]
  simp [f_is_whole, start]
theorem s_whole_in (n : Nat) (x lo hi : Int) : run (n + 2) n_whole_in [.int x, .int lo, .int hi] = rt (.bl (decide (lo ≤ x) && decide (x ≤ hi)), false) := by
  rw [run, callI_succ _ P_whole_in _ rfl]
  simp [f_whole_in, start, s_is_whole]
  by_cases h : lo ≤ x <;> simp [h]
theorem s_whole_in_b (n : Nat) (x : Bool) (lo hi : Int) : run (n + 2) n_whole_in [.bl x, .int lo, .int hi] = rt (.bl false, false) := by
  rw [run, callI_succ _ P_whole_in _ rfl]
  simp [f_whole_in, start, s_is_whole_b]
theorem s_left_after (n : Nat) (l c : List Int) : run (n + 1) n_left_after [tupI l, tupI c] = rt (tupI (l.filter fun x => !(decide (x ∈ c))), false) := by
  rw [run, callI_succ _ P_left_after _ rfl]
  simp [f_left_after, start]
  rw [filtM_map (g := fun x => if (!(decide (x ∈ c))) = true then some (.int x) else none)]
  · rw [filterMap_ite]
    simp
  · intro a _
    simp [compF]
    split <;> rfl
/-- what is left when the picked sets are taken away -/
def takeOff (sets : List (List Int)) (l : List Int) (i : Int) : List Int := l.filter fun x => !(decide (x ∈ sets.getD i.toNat []))
def left (sets : List (List Int)) (l ps : List Int) : List Int := ps.foldl (takeOff sets) l
def okP (m : Nat) (ps : List Int) : Prop := ∀ i ∈ ps, 0 ≤ i ∧ i < (m : Int)
theorem s_covers_all (n : Nat) (l : List Int) (sets : List (List Int)) (ps : List Int) (hp : okP sets.length ps) :
    run (n + 2) n_covers_all [tupI l, .tup (sets.map tupI), tupI ps] = rt (.bl (left sets l ps).isEmpty, false) := by
  rw [run, callI_succ _ P_covers_all _ rfl]
  simp [f_covers_all, start]
  rw [forB_fold (E := fun r => [.sh (tupI l), .sh (.tup (sets.map tupI)), .sh (tupI ps), .sh (tupI r), .un]) (takeOff sets)]
  · simp [pyCmp, eqOk, left]
  · intro r i hi
    obtain ⟨h0, h1⟩ := hp i hi
    simp [forF, item_map tupI [] sets h0 h1, s_left_after, takeOff]
def inR (m : Int) (i : Int) : Bool := decide (0 ≤ i) && decide (i ≤ m - 1)
def stepUp (ps : List Int) (k : Nat) : Bool := !(decide (ps.getD (1 + (k : Int)).toNat 0 ≤ ps.getD (1 + (k : Int) - 1).toNat 0))
def picksOk (m : Int) (ps : List Int) : Bool := ps.all (inR m) && (List.range (ps.length - 1)).all (stepUp ps)
theorem s_is_picks (n : Nat) (m : Nat) (ps : List Int) (hl : ps.length ≤ 1000) : run (n + 3) n_is_picks [.int m, tupI ps] = rt (.bl (picksOk m ps), false) := by
  rw [run, callI_succ _ P_is_picks _ rfl]
  simp [f_is_picks, start]
  rw [find_all (inR m) (.bl false)]
  · generalize hA : ps.all (inR m) = A
    simp [rg2F_ok (i := 1) (j := ps.length) (by omega) (by omega) (by omega) (by omega), rng_eq]
    rw [find_all (stepUp ps) (.bl false)]
    · generalize hB : (List.range (ps.length - 1)).all (stepUp ps) = B
      have e : picksOk m ps = (A && B) := by rw [← hA, ← hB]; rfl
      rw [e]
      cases A <;> cases B <;> rfl
    · intro k hk hb
      have hk := List.mem_range.mp hk
      have i1 := item_map PV.int 0 ps (a := 1 + (k : Int)) (by omega) (by omega)
      have i2 := item_map PV.int 0 ps (a := 1 + (k : Int) - 1) (by omega) (by omega)
      unfold stepUp at hb
      generalize ps.getD (1 + (k : Int)).toNat 0 = A at hb i1
      generalize ps.getD (1 + (k : Int) - 1).toNat 0 = B at hb i2
      have hb2 : ¬ A ≤ B := by simpa using hb
      simp [forF, i1, i2, hb2]
    · intro k hk hb
      have hk := List.mem_range.mp hk
      have i1 := item_map PV.int 0 ps (a := 1 + (k : Int)) (by omega) (by omega)
      have i2 := item_map PV.int 0 ps (a := 1 + (k : Int) - 1) (by omega) (by omega)
      unfold stepUp at hb
      generalize ps.getD (1 + (k : Int)).toNat 0 = A at hb i1
      generalize ps.getD (1 + (k : Int) - 1).toNat 0 = B at hb i2
      have hb2 : A ≤ B := by simpa using hb
      simp [forF, i1, i2, hb2]
  · intro i hi hb
    simp [inR] at hb
    simp [forF, s_whole_in, hb]
  · intro i hi hb
    have hb2 : (decide (0 ≤ i) && decide (i ≤ (m : Int) - 1)) = false := hb
    simp [forF, s_whole_in, hb2]
theorem s_check_problem (n : Nat) (a : Int) (ss : List PV) (h1 : a ≤ 12) (h2 : ss.length ≤ 8) : run (n + 1) n_check_problem [.int a, .tup ss] = rt (.non, false) := by
  rw [run, callI_succ _ P_check_problem _ rfl]
  have e1 : ¬ 12 < a := by omega
  have e2 : ¬ (8 : Int) < (ss.length : Int) := by omega
  simp [f_check_problem, start, G_MOST_THINGS, G_MOST_SETS, e1, e2]
theorem s_is_cover_of (n : Nat) (l : List Int) (sets : List (List Int)) (ps : List Int) (hl : ps.length ≤ 1000) : run (n + 4) n_is_cover_of [tupI l, .tup (sets.map tupI), tupI ps] = rt (.bl (picksOk sets.length ps && (left sets l ps).isEmpty), false) := by
  rw [run, callI_succ _ P_is_cover_of _ rfl]
  have e := s_is_picks n sets.length ps hl
  simp [f_is_cover_of, start, e]
  cases h : picksOk sets.length ps with
  | false => simp
  | true =>
    have hp : okP sets.length ps := fun i hi => by
      unfold picksOk at h
      rw [Bool.and_eq_true, List.all_eq_true] at h
      have := h.1 i hi
      unfold inR at this
      rw [Bool.and_eq_true, decide_eq_true_eq, decide_eq_true_eq] at this
      omega
    have e2 := s_covers_all (n + 1) l sets ps hp
    simp [e2]
theorem s_is_cover (n : Nat) (k : Nat) (sets : List (List Int)) (ps : List Int) (hl : ps.length ≤ 1000) (h1 : k ≤ 12) (h2 : sets.length ≤ 8) : run (n + 5) n_is_cover [.int k, .tup (sets.map tupI), tupI ps] = rt (.bl (picksOk sets.length ps && (left sets (rangeI k) ps).isEmpty), false) := by
  rw [run, callI_succ _ P_is_cover _ rfl]
  have e1 := s_check_problem (n + 3) k (sets.map tupI) (by omega) (by rw [List.length_map]; exact h2)
  have e2 := s_is_cover_of n (rangeI k) sets ps hl
  have e3 := rg1F_ok (i := (k : Int)) (by omega) (by omega)
  have e4 : (k : Int).toNat = k := by omega
  have e5 : k ≤ line := by unfold line; omega
  simp [f_is_cover, start, e1, e2, e3, e4, e5]
/-- all rising picks of m places -/
def grow (F : List (List Int)) (i : Int) : List (List Int) := F ++ F.map fun p => p ++ [i]
def picksF (m : Nat) : List (List Int) := (rangeI m).foldl grow [[]]
def GrowW (r : List Int) (F : List (List Int)) : Prop := F.length * 2 ^ r.length ≤ 2 ^ 20 ∧ ∀ p ∈ F, p.length + r.length ≤ 20
theorem GrowW.now {i : Int} {r : List Int} {F : List (List Int)} (h : GrowW (i :: r) F) : F.length + F.length ≤ line ∧ ∀ p ∈ F, p.length + 1 ≤ line := by
  obtain ⟨h1, h2⟩ := h
  have e : (2 : Nat) ^ 20 = 1048576 := by decide
  refine ⟨?_, fun p hp => ?_⟩
  · rw [List.length_cons, Nat.pow_succ, e] at h1
    have : 1 ≤ 2 ^ r.length := Nat.one_le_two_pow
    have : F.length * 2 ≤ F.length * (2 ^ r.length * 2) := Nat.mul_le_mul_left _ (by omega)
    unfold line
    omega
  · have := h2 p hp
    rw [List.length_cons] at this
    unfold line
    omega
theorem GrowW.next {i : Int} {r : List Int} {F : List (List Int)} (h : GrowW (i :: r) F) : GrowW r (grow F i) := by
  obtain ⟨h1, h2⟩ := h
  refine ⟨?_, fun p hp => ?_⟩
  · unfold grow
    rw [List.length_append, List.length_map]
    rw [List.length_cons, Nat.pow_succ] at h1
    have : (F.length + F.length) * 2 ^ r.length = F.length * (2 ^ r.length * 2) := by
      rw [Nat.mul_comm (2 ^ r.length) 2, ← Nat.mul_assoc, Nat.mul_two]
    omega
  · rcases List.mem_append.mp hp with hp | hp
    · have := h2 p hp
      rw [List.length_cons] at this
      omega
    · obtain ⟨q, hq, rfl⟩ := List.mem_map.mp hp
      have := h2 q hq
      rw [List.length_cons] at this
      rw [List.length_append, List.length_singleton]
      omega
theorem s_subsets (n : Nat) (m : Nat) (hm : m ≤ 20) : run (n + 1) n_subsets [.int m] = rt (.tup ((sortT (picksF m)).map tupI), false) := by
  rw [run, callI_succ _ P_subsets _ rfl]
  have e3 := rg1F_ok (i := (m : Int)) (by omega) (by omega)
  have e4 : (m : Int).toNat = m := by omega
  have mk1 : mk PV.lst [PV.tup []] = rt (.lst [PV.tup []]) := mk_ok _ rfl (by unfold line; simp)
  simp [f_subsets, start, e3, e4, mk1]
  rw [forB_rw (fun F : List (List Int) => [Slot.sh (.int m), .sh (.lst (F.map tupI)), .un, .un]) [[]] grow GrowW]
  · simp [picksF]
  · rfl
  · refine ⟨?_, fun p hp => ?_⟩
    · simp
      exact Nat.pow_le_pow_right (by omega) hm
    · simp at hp
      subst hp
      simp
      exact hm
  · intro F i r h
    obtain ⟨h2, h3⟩ := h.now
    refine ⟨?_, h.next⟩
    have mk2 : mk PV.tup [PV.int i] = rt (.tup [.int i]) := mk_ok _ rfl (by unfold line; simp)
    simp [forF]
    rw [filtM_map (g := fun p => some (tupI (p ++ [i])))]
    · rw [filterMap_some]
      have hl : (F.map tupI).length + (F.map fun p => tupI (p ++ [i])).length ≤ line := by simp; exact h2
      rw [bnd_rt, bin_add_l _ _ hl]
      simp [grow]
    · intro p hp
      have hl : (p.map PV.int).length + [PV.int i].length ≤ line := by simp; exact h3 p hp
      simp [compF, mk2, bin_add_t _ _ hl]
theorem s__law_picks (n : Nat) (m : Nat) (hm : m ≤ 20) : run (n + 1) n__law_picks [.int m] = rt (.lst ((sortT (picksF m)).map tupI), false) := by
  rw [run, callI_succ _ P__law_picks _ rfl]
  have e3 := rg1F_ok (i := (m : Int)) (by omega) (by omega)
  have e4 : (m : Int).toNat = m := by omega
  have mk1 : mk PV.lst [PV.tup []] = rt (.lst [PV.tup []]) := mk_ok _ rfl (by unfold line; simp)
  simp [f__law_picks, start, e3, e4, mk1]
  rw [forB_rw (fun F : List (List Int) => [Slot.sh (.int m), .sh (.lst (F.map tupI)), .un, .un]) [[]] grow GrowW]
  · simp [picksF]
  · rfl
  · refine ⟨?_, fun p hp => ?_⟩
    · simp
      exact Nat.pow_le_pow_right (by omega) hm
    · simp at hp
      subst hp
      simp
      exact hm
  · intro F i r h
    obtain ⟨h2, h3⟩ := h.now
    refine ⟨?_, h.next⟩
    have mk2 : mk PV.tup [PV.int i] = rt (.tup [.int i]) := mk_ok _ rfl (by unfold line; simp)
    simp [forF]
    rw [filtM_map (g := fun p => some (tupI (p ++ [i])))]
    · rw [filterMap_some]
      have hl : (F.map tupI).length + (F.map fun p => tupI (p ++ [i])).length ≤ line := by simp; exact h2
      rw [bnd_rt, bin_add_l _ _ hl]
      simp [grow]
    · intro p hp
      have hl : (p.map PV.int).length + [PV.int i].length ≤ line := by simp; exact h3 p hp
      simp [compF, mk2, bin_add_t _ _ hl]
theorem rangeI_succ (m : Nat) : rangeI (m + 1) = rangeI m ++ [(m : Int)] := by
  unfold rangeI
  rw [List.range_succ, List.map_append]
  rfl
theorem picksF_succ (m : Nat) : picksF (m + 1) = grow (picksF m) m := by
  unfold picksF
  rw [rangeI_succ, List.foldl_append]
  rfl
structure Rise (m : Nat) (p : List Int) : Prop where
  up : p.Pairwise (· < ·)
  inr : okP m p
  len : p.length ≤ m
theorem picks_rise : ∀ (m : Nat) (p : List Int), p ∈ picksF m → Rise m p
  | 0, p, h => by
    have h : p ∈ [([] : List Int)] := h
    rw [List.mem_singleton] at h
    subst h
    exact ⟨.nil, (fun _ z => nomatch z), Nat.le_refl _⟩
  | m + 1, p, h => by
    rw [picksF_succ] at h
    rcases List.mem_append.mp h with h | h
    · obtain ⟨h1, h2, h3⟩ := picks_rise m p h
      refine ⟨h1, fun i hi => ?_, by omega⟩
      have := h2 i hi
      omega
    · obtain ⟨q, hq, rfl⟩ := List.mem_map.mp h
      obtain ⟨h1, h2, h3⟩ := picks_rise m q hq
      refine ⟨?_, fun i hi => ?_, ?_⟩
      · rw [List.pairwise_append]
        refine ⟨h1, List.pairwise_singleton _ _, fun a ha b hb => ?_⟩
        rw [List.mem_singleton] at hb
        subst hb
        exact (h2 a ha).2
      · rcases List.mem_append.mp hi with hi | hi
        · have := h2 i hi
          omega
        · rw [List.mem_singleton] at hi
          subst hi
          omega
      · rw [List.length_append, List.length_singleton]
        omega
theorem Rise.ok {m : Nat} {p : List Int} (h : Rise m p) : picksOk m p = true := by
  unfold picksOk
  rw [Bool.and_eq_true, List.all_eq_true, List.all_eq_true]
  refine ⟨fun i hi => ?_, fun k hk => ?_⟩
  · have := h.inr i hi
    unfold inR
    rw [Bool.and_eq_true, decide_eq_true_eq, decide_eq_true_eq]
    omega
  · have hk := List.mem_range.mp hk
    have e1 : (1 + (k : Int)).toNat = k + 1 := by omega
    have e2 : (1 + (k : Int) - 1).toNat = k := by omega
    have l1 : k + 1 < p.length := by omega
    have l2 : k < p.length := by omega
    unfold stepUp
    rw [e1, e2, List.getD_eq_getElem?_getD, List.getD_eq_getElem?_getD, List.getElem?_eq_getElem l1, List.getElem?_eq_getElem l2]
    have := List.pairwise_iff_getElem.mp h.up k (k + 1) l2 l1 (Nat.lt_succ_self k)
    simp
    exact this
def allP (m : Nat) : List (List Int) := sortT (picksF m)
theorem allP_rise {m : Nat} {p : List Int} (h : p ∈ allP m) : Rise m p := picks_rise m p ((sortT_perm _).mem_iff.mp h)
/-- the covers, in their order -/
def covers (sets : List (List Int)) (l : List Int) : List (List Int) := (allP sets.length).filter fun p => (left sets l p).isEmpty
theorem s_covers_of (n : Nat) (l : List Int) (sets : List (List Int)) (hs : sets.length ≤ 20) : run (n + 3) n_covers_of [tupI l, .tup (sets.map tupI)] = rt (.tup ((covers sets l).map tupI), false) := by
  rw [run, callI_succ _ P_covers_of _ rfl]
  have e1 := s_subsets (n + 1) sets.length hs
  simp [f_covers_of, start, e1]
  rw [filtM_map (g := fun p => if (left sets l p).isEmpty = true then some (tupI p) else none)]
  · rw [filterMap_ite]
    simp [covers, allP]
  · intro p hp
    have e2 := s_covers_all n l sets p (allP_rise hp).inr
    simp [compF, e2]
    split <;> rfl
def mlen : List (List Int) → Int
  | [] => 0
  | r :: rs => least r.length (rs.map fun q => (q.length : Int))
def leastF (rows : List (List Int)) : List (List Int) := rows.filter fun r => (r.length : Int) == mlen rows
theorem min_rows {rows : List (List Int)} (h : rows.isEmpty = false) : minOf (rows.map fun r => PV.int r.length) = some (.int (mlen rows)) := by
  cases rows with
  | nil => cases h
  | cons r rs =>
    have e : intsOf ((rs.map fun q => (q.length : Int)).map PV.int) = _ := intsOf_ints _
    rw [List.map_map] at e
    show (match (intsOf (rs.map fun r => PV.int r.length)).map ((r.length : Int) :: ·) with
      | some (i :: r) => some (PV.int (least i r))
      | _ => none) = _
    rw [show intsOf (rs.map fun r => PV.int r.length) = some (rs.map fun q => (q.length : Int)) from e]
    rfl
theorem s_least_of (n : Nat) (rows : List (List Int)) : run (n + 1) n_least_of [.tup (rows.map tupI)] = rt (.tup ((leastF rows).map tupI), false) := by
  rw [run, callI_succ _ P_least_of _ rfl]
  cases he : rows.isEmpty with
  | true =>
    have : rows = [] := by simpa using he
    subst this
    simp [f_least_of, start, leastF]
  | false =>
    have e0 : ((rows.length : Int) == 0) = false := by rw [len_zero]; exact he
    simp [f_least_of, start]
    rw [if_neg (by simpa using he)]
    simp
    rw [filtM_map (g := fun r => some (.int r.length))]
    · rw [filterMap_some]
      simp [min_rows he]
      rw [filtM_map (g := fun r => if ((r.length : Int) == mlen rows) = true then some (tupI r) else none)]
      · rw [filterMap_ite]
        simp [leastF]
      · intro r hr
        simp [compF]
        split <;> rfl
    · intro r hr
      simp [compF]
def spare (sets : List (List Int)) (l p : List Int) : Bool := p.any fun i => (left sets l (p.filter fun j => !(j == i))).isEmpty
theorem s_can_spare (n : Nat) (l : List Int) (sets : List (List Int)) (p : List Int) (hp : okP sets.length p) : run (n + 3) n_can_spare [tupI l, .tup (sets.map tupI), tupI p] = rt (.bl (spare sets l p), false) := by
  rw [run, callI_succ _ P_can_spare _ rfl]
  simp [f_can_spare, start]
  have turn : ∀ i, run (n + 2) n_covers_all [tupI l, .tup (sets.map tupI), tupI (p.filter fun j => !(j == i))] = rt (.bl (left sets l (p.filter fun j => !(j == i))).isEmpty, false) := fun i => s_covers_all n l sets _ fun j hj => hp j (List.mem_filter.mp hj).1
  have cmp : ∀ (i : Int) (C : Calls) (a b c : PV), filtM (compF G C (.var 4) (.nm 4) (.so (.cmp .ne (.var 4) (.var 3))) [.sh a, .sh b, .sh c, .sh (.int i), .un]) (p.map PV.int) = rt ((p.filter fun j => !(j == i)).map PV.int) := fun i C a b c => by
    rw [filtM_map (g := fun j => if (!(j == i)) = true then some (.int j) else none)]
    · rw [filterMap_ite]
    · intro j hj
      simp [compF]
      split <;> rfl
  rw [find_any (fun i => (left sets l (p.filter fun j => !(j == i))).isEmpty) (.bl true)]
  · show _ = rt (PV.bl (p.any fun i => (left sets l (p.filter fun j => !(j == i))).isEmpty), false)
    cases p.any fun i => (left sets l (p.filter fun j => !(j == i))).isEmpty <;> simp
  · intro i hi hb
    have t := turn i
    rw [hb] at t
    simp [forF]
    rw [cmp i]
    simp [t]
  · intro i hi hb
    have t := turn i
    rw [hb] at t
    simp [forF]
    rw [cmp i]
    simp [t]
theorem range_ok {k : Nat} (h : k ≤ 12) : rg1F (.int k) = rt ((rangeI k).map PV.int) ∧ k ≤ line := by
  refine ⟨?_, by unfold line; omega⟩
  rw [rg1F_ok (by omega) (by omega), show (k : Int).toNat = k by omega, rng0]
theorem s_minimal_covers (n : Nat) (k : Nat) (sets : List (List Int)) (h1 : k ≤ 12) (h2 : sets.length ≤ 8) : run (n + 4) n_minimal_covers [.int k, .tup (sets.map tupI)] = rt (.tup (((covers sets (rangeI k)).filter fun p => !(spare sets (rangeI k) p)).map tupI), false) := by
  rw [run, callI_succ _ P_minimal_covers _ rfl]
  have e1 := s_check_problem (n + 2) k (sets.map tupI) (by omega) (by rw [List.length_map]; exact h2)
  have e2 := s_covers_of n (rangeI k) sets (by omega)
  obtain ⟨e3, e4⟩ := range_ok h1
  simp [f_minimal_covers, start, e1, e2, e3, e4]
  rw [filtM_map (g := fun p => if (!(spare sets (rangeI k) p)) = true then some (tupI p) else none)]
  · rw [filterMap_ite]
    simp
  · intro p hp
    have hp2 := allP_rise (List.mem_filter.mp hp).1
    have e5 := s_can_spare n (rangeI k) sets p hp2.inr
    simp [compF, e5]
    cases spare sets (rangeI k) p <;> rfl
theorem s_least_covers (n : Nat) (k : Nat) (sets : List (List Int)) (h1 : k ≤ 12) (h2 : sets.length ≤ 8) : run (n + 4) n_least_covers [.int k, .tup (sets.map tupI)] = rt (.tup ((leastF (covers sets (rangeI k))).map tupI), false) := by
  rw [run, callI_succ _ P_least_covers _ rfl]
  have e1 := s_check_problem (n + 2) k (sets.map tupI) (by omega) (by rw [List.length_map]; exact h2)
  have e2 := s_covers_of n (rangeI k) sets (by omega)
  have e5 := s_least_of (n + 2) (covers sets (rangeI k))
  obtain ⟨e3, e4⟩ := range_ok h1
  simp [f_least_covers, start, e1, e2, e3, e4, e5]
theorem s_flag (n : Nat) (a b : Bool) : run (n + 1) n__law_flag [.bl a, .bl b] = rt (.bl (a == b), false) := by
  rw [run, callI_succ _ P__law_flag _ rfl]
  simp [f__law_flag, start]
theorem s_law_left (n : Nat) (l : List Int) (sets : List (List Int)) (ps : List Int) (v : PV) (hv : itemsOf v = some (ps.map PV.int)) (hp : okP sets.length ps) : run (n + 1) n__law_left [tupI l, .tup (sets.map tupI), v] = rt (lstI (left sets l ps), false) := by
  rw [run, callI_succ _ P__law_left _ rfl]
  simp [f__law_left, start, hv]
  rw [forB_rw (fun r : List Int => [Slot.sh (tupI l), .sh (.tup (sets.map tupI)), .sh v, .sh (lstI r), .un, .un]) l (takeOff sets) (fun r _ => okP sets.length r)]
  · simp [left]
  · rfl
  · exact hp
  · intro r i rest h
    refine ⟨?_, fun j hj => h j (List.mem_cons_of_mem _ hj)⟩
    obtain ⟨h0, h1⟩ := h i (List.mem_cons_self ..)
    simp [forF]
    rw [filtM_map (g := fun x => if (!(decide (x ∈ sets.getD i.toNat []))) = true then some (.int x) else none)]
    · rw [filterMap_ite]
      simp [takeOff]
    · intro x hx
      simp [compF, item_map tupI [] sets h0 h1]
      split <;> rfl
theorem s_law_spare (n : Nat) (l : List Int) (sets : List (List Int)) (p : List Int) (hp : okP sets.length p) : run (n + 2) n__law_spare [tupI l, .tup (sets.map tupI), tupI p] = rt (.bl (spare sets l p), false) := by
  rw [run, callI_succ _ P__law_spare _ rfl]
  simp [f__law_spare, start]
  have turn : ∀ i, run (n + 1) n__law_left [tupI l, .tup (sets.map tupI), lstI (p.filter fun j => !(j == i))] = rt (lstI (left sets l (p.filter fun j => !(j == i))), false) := fun i => s_law_left n l sets _ _ rfl fun j hj => hp j (List.mem_filter.mp hj).1
  have cmp : ∀ (i : Int) (C : Calls) (a b c : PV), filtM (compF G C (.var 4) (.nm 4) (.so (.cmp .ne (.var 4) (.var 3))) [.sh a, .sh b, .sh c, .sh (.int i), .un]) (p.map PV.int) = rt ((p.filter fun j => !(j == i)).map PV.int) := fun i C a b c => by
    rw [filtM_map (g := fun j => if (!(j == i)) = true then some (.int j) else none)]
    · rw [filterMap_ite]
    · intro j hj
      simp [compF]
      split <;> rfl
  rw [find_any (fun i => (left sets l (p.filter fun j => !(j == i))).isEmpty) (.bl true)]
  · show _ = rt (PV.bl (p.any fun i => (left sets l (p.filter fun j => !(j == i))).isEmpty), false)
    cases p.any fun i => (left sets l (p.filter fun j => !(j == i))).isEmpty <;> simp
  · intro i hi hb
    have t := turn i
    generalize left sets l (p.filter fun j => !(j == i)) = L at hb t
    have hb2 : ¬ L = [] := by simpa using hb
    simp [forF]
    rw [cmp i]
    simp [t, hb2]
  · intro i hi hb
    have t := turn i
    generalize left sets l (p.filter fun j => !(j == i)) = L at hb t
    have hb2 : L = [] := by simpa using hb
    subst hb2
    simp [forF]
    rw [cmp i]
    simp [t]
theorem md {a : Int} {m : Int} (h : 0 < m) : 0 ≤ a.fmod m ∧ a.fmod m < m := ⟨Int.fmod_nonneg_of_pos a h, Int.fmod_lt_of_pos a h⟩
theorem s_mix (n : Nat) (c : Int) (k j : Nat) (hk : k < 6) (hj : j < 40) : ∃ r : Int, run (n + 1) n__law_mix [.int c, .int k, .int j] = rt (.int r, false) ∧ 0 ≤ r ∧ r < 1000 := by
  rw [run, callI_succ _ P__law_mix _ rfl]
  have m1 := md (a := c) (m := 1000003) (by omega)
  have b1 : pyBin .mod (.int c) (.int 1000003) = some (.int (c.fmod 1000003)) := bin_mod _ _ (by omega)
  generalize c.fmod 1000003 = x at m1 b1
  have b2 : ∀ y : Int, pyBin .mul (.int 2) (.int y) = some (.int (2 * y)) := fun y => bin_mul _ _ (mul_ok (by omega) (by omega))
  have b3 : ∀ y : Int, pyBin .mul (.int (2 * (j : Int))) (.int y) = some (.int (2 * (j : Int) * y)) := fun y => bin_mul _ _ (mul_ok (by omega) (by omega))
  have b4 : ∀ y : Int, pyBin .mul (.int 6) (.int y) = some (.int (6 * y)) := fun y => bin_mul _ _ (mul_ok (by omega) (by omega))
  have b5 : ∀ y : Int, pyBin .mul (.int (x + 1)) (.int y) = some (.int ((x + 1) * y)) := fun y => bin_mul _ _ (mul_ok (by omega) (by omega))
  have b6 : ∀ y : Int, pyBin .mod (.int y) (.int 2147483647) = some (.int (y.fmod 2147483647)) := fun y => bin_mod _ _ (by omega)
  have b7 : ∀ y : Int, pyBin .mod (.int y) (.int 2147483629) = some (.int (y.fmod 2147483629)) := fun y => bin_mod _ _ (by omega)
  have b8 : ∀ y : Int, pyBin .mul (.int y) (.int 69621) = some (.int (y * 69621)) := fun y => bin_mul _ _ (mul_ok' (by omega) (by omega))
  have b9 : ∀ y : Int, pyBin .fdiv (.int y) (.int 8191) = some (.int (y.fdiv 8191)) := fun y => bin_fdiv _ _ (div_ok (by omega) (by omega))
  have b10 : ∀ y : Int, pyBin .mul (.int y) (.int ((j : Int) + 3)) = some (.int (y * ((j : Int) + 3))) := fun y => bin_mul _ _ (mul_ok' (by omega) (by omega))
  have b11 : ∀ y : Int, pyBin .fdiv (.int y) (.int 7) = some (.int (y.fdiv 7)) := fun y => bin_fdiv _ _ (div_ok (by omega) (by omega))
  have b12 : ∀ y : Int, pyBin .mod (.int y) (.int 1000) = some (.int (y.fmod 1000)) := fun y => bin_mod _ _ (by omega)
  simp [f__law_mix, start, b1, b2, b3, b4, b5, b6, b7, b8, b9, b10, b11, b12]
  exact md (by omega)
def Bd (l : List Int) : Prop := ∀ x ∈ l, 0 ≤ x ∧ x < 1000
theorem Bd.snoc {l : List Int} {x : Int} (h : Bd l) (h1 : 0 ≤ x) (h2 : x < 1000) : Bd (l ++ [x]) := fun y hy => by
  rcases List.mem_append.mp hy with hy | hy
  · exact h y hy
  · rw [List.mem_singleton] at hy
    subst hy
    exact ⟨h1, h2⟩
abbrev bOut : MSs := forBody (nthS f__law_pool.body 1)
abbrev bIn : MSs := forBody (nthS bOut 4)
theorem pool_in (n : Nat) (ns l : List Int) (k : Nat) (cell rest : Int) (hk : k < 6) (hl : l.length ≤ 200) (hb : Bd l) :
    ∃ l' rest', forB G (callI G P (n + 1)) (.nm 5) [5] bIn ((rangeI 40).map PV.int) [.sh (lstI ns), .ow (l.map PV.int), .sh (.int k), .sh (.int cell), .sh (.int rest), .un] = rt (.nx, [.sh (lstI ns), .ow (l'.map PV.int), .sh (.int k), .sh (.int cell), .sh (.int rest'), .un]) ∧ l'.length = l.length + 40 ∧ Bd l' := by
  obtain ⟨e2, h1, l', rest', rfl, h3, h4, _⟩ := forB_ex (G := G) (C := callI G P (n + 1)) (p := .nm 5) (w := [5]) (b := bIn) (f := PV.int)
    (fun r env => ∃ (l' : List Int) (rest' : Int), env = [.sh (lstI ns), .ow (l'.map PV.int), .sh (.int k), .sh (.int cell), .sh (.int rest'), .un] ∧ l'.length + r.length = l.length + 40 ∧ Bd l' ∧ ∀ j ∈ r, 0 ≤ j ∧ j < 40)
    (fun env j r h => by
      obtain ⟨l', rest', rfl, h2, h3, h4⟩ := h
      obtain ⟨j0, j1⟩ := h4 j (List.mem_cons_self ..)
      rw [List.length_cons] at h2
      have sz : ¬ line ≤ l'.length := by unfold line; omega
      have later : ∀ i ∈ r, 0 ≤ i ∧ i < 40 := fun i hi => h4 i (List.mem_cons_of_mem _ hi)
      by_cases hr : rest' > 0
      · have b1 : pyBin .mod (.int rest') (.int 1000) = some (.int (rest'.fmod 1000)) := bin_mod _ _ (by omega)
        have b2 : pyBin .fdiv (.int rest') (.int 1000) = some (.int (rest'.fdiv 1000)) := bin_fdiv _ _ (div_ok (by omega) (by omega))
        have m := md (a := rest') (m := 1000) (by omega)
        refine ⟨_, ?_, l' ++ [rest'.fmod 1000], rest'.fdiv 1000, rfl, by rw [List.length_append, List.length_singleton]; omega, h3.snoc m.1 m.2, later⟩
        simp [forF, bIn, bOut, forBody, nthS, f__law_pool, hr, b1, b2, sz]
      · obtain ⟨x, hx, x0, x1⟩ := s_mix n cell k j.toNat hk (by omega)
        rw [Int.toNat_of_nonneg j0] at hx
        refine ⟨_, ?_, l' ++ [x], rest', rfl, by rw [List.length_append, List.length_singleton]; omega, h3.snoc x0 x1, later⟩
        simp [forF, bIn, bOut, forBody, nthS, f__law_pool, hr, hx, sz])
    (l := rangeI 40) (env := [.sh (lstI ns), .ow (l.map PV.int), .sh (.int k), .sh (.int cell), .sh (.int rest), .un]) ⟨l, rest, rfl, by simp, hb, fun j hj => mem_rangeI.mp hj⟩
  exact ⟨l', rest', h1, by simpa using h3, h4⟩
theorem s_pool (n : Nat) (ns : List Int) (hn : ns.length ≤ 63) : ∃ l, run (n + 2) n__law_pool [lstI ns] = rt (lstI l, true) ∧ l.length = 240 ∧ Bd l := by
  have r6 : rg1F (.int 6) = rt ((rangeI 6).map PV.int) := rg1F_ok (by omega) (by omega)
  have r40 : rg1F (.int 40) = rt ((rangeI 40).map PV.int) := rg1F_ok (by omega) (by omega)
  have pw : pyBin .pow (.int 10) (.int 18) = some (.int 1000000000000000000) := bin_pow 10 18 (by omega) (by omega) (by decide)
  obtain ⟨e2, h1, l, rfl, h3, h4, _⟩ := forB_ex (G := G) (C := callI G P (n + 1)) (p := .nm 2) (w := [2, 3, 4, 5]) (b := bOut) (f := PV.int)
    (fun r env => ∃ l : List Int, env = [.sh (lstI ns), .ow (l.map PV.int), .un, .un, .un, .un] ∧ l.length + 40 * r.length = 240 ∧ Bd l ∧ ∀ k ∈ r, 0 ≤ k ∧ k < 6)
    (fun env k r h => by
      obtain ⟨l, rfl, h2, h3, h4⟩ := h
      obtain ⟨k0, k1⟩ := h4 k (List.mem_cons_self ..)
      rw [List.length_cons] at h2
      have ek : ((k.toNat : Nat) : Int) = k := Int.toNat_of_nonneg k0
      have later : ∀ i ∈ r, 0 ≤ i ∧ i < 6 := fun i hi => h4 i (List.mem_cons_of_mem _ hi)
      have inner := fun cell rest => pool_in n ns l k.toNat cell rest (by omega) (by omega) h3
      rw [ek] at inner
      by_cases hk : k < ns.length
      · have ik := item_map PV.int 0 ns k0 hk
        generalize ns.getD k.toNat 0 = x at ik
        by_cases hx : 1000000000000000000 ≤ (if x < 0 then -x else x)
        · obtain ⟨l', rest', e1, e2, e3⟩ := inner (if x < 0 then -x else x) (if x < 0 then -x else x)
          refine ⟨_, ?_, l', rfl, by omega, e3, later⟩
          simp [forF, bOut, forBody, nthS, f__law_pool, hk, ik, pw, hx, r40]
          refine (congrArg (fun m => bnd (cat m _) _) e1).trans ?_
          simp
        · obtain ⟨l', rest', e1, e2, e3⟩ := inner (if x < 0 then -x else x) 0
          refine ⟨_, ?_, l', rfl, by omega, e3, later⟩
          simp [forF, bOut, forBody, nthS, f__law_pool, hk, ik, pw, hx, r40]
          refine (congrArg (fun m => bnd (cat m _) _) e1).trans ?_
          simp
      · obtain ⟨l', rest', e1, e2, e3⟩ := inner 0 0
        refine ⟨_, ?_, l', rfl, by omega, e3, later⟩
        simp [forF, bOut, forBody, nthS, f__law_pool, hk, pw, r40]
        refine (congrArg (fun m => bnd (cat m _) _) e1).trans ?_
        simp)
    (l := rangeI 6) (env := [.sh (lstI ns), .ow [], .un, .un, .un, .un]) ⟨[], rfl, by simp, (fun _ z => nomatch z), fun j hj => mem_rangeI.mp hj⟩
  refine ⟨l, ?_, by simpa using h3, h4⟩
  rw [run, callI_succ _ P__law_pool _ rfl]
  simp [f__law_pool, start, r6]
  refine (congrArg (fun m => finish (cat m _)) h1).trans ?_
  simp
theorem s_sets (n : Nat) (pool : List Int) (a b : Nat) (rare : Int) (ha : a ≤ 8) (hb : b ≤ 6) (hr : 0 < rare) (hl : pool.length = 240) : ∃ sets : List (List Int), run (n + 1) n__law_sets [lstI pool, .int 100, .int a, .int b, .int rare] = rt (.tup (sets.map tupI), false) ∧ sets.length = b := by
  have rb : rg1F (.int b) = rt ((rangeI b).map PV.int) := by rw [rg1F_ok (by omega) (by omega), show (b : Int).toNat = b by omega, rng0]
  have ra : rg1F (.int a) = rt ((rangeI a).map PV.int) := by rw [rg1F_ok (by omega) (by omega), show (a : Int).toNat = a by omega, rng0]
  obtain ⟨e2, h1, S, rfl, h3, _⟩ := forB_ex (G := G) (C := callI G P n) (p := .nm 6) (w := [6]) (b := forBody (nthS f__law_sets.body 1)) (f := PV.int)
    (fun r env => ∃ S : List (List Int), env = [.sh (lstI pool), .sh (.int 100), .sh (.int a), .sh (.int b), .sh (.int rare), .ow (S.map tupI), .un, .un] ∧ S.length + r.length = b ∧ ∀ i ∈ r, 0 ≤ i ∧ i < (b : Int))
    (fun env i r h => by
      obtain ⟨S, rfl, h2, h3⟩ := h
      obtain ⟨i0, i1⟩ := h3 i (List.mem_cons_self ..)
      rw [List.length_cons] at h2
      have sz : ¬ line ≤ S.length := by unfold line; omega
      have m1 : pyBin .mul (.int 12) (.int i) = some (.int (12 * i)) := bin_mul _ _ (mul_ok (by omega) (by omega))
      refine ⟨_, ?_, S ++ [(rangeI a).filter fun k => (pool.getD (100 + 12 * i + k).toNat 0).fmod rare == 0], rfl, by rw [List.length_append, List.length_singleton]; omega, fun j hj => h3 j (List.mem_cons_of_mem _ hj)⟩
      simp [forF, forBody, nthS, f__law_sets, ra, sz]
      rw [filtM_map (g := fun k => if ((pool.getD (100 + 12 * i + k).toNat 0).fmod rare == 0) = true then some (.int k) else none)]
      · rw [filterMap_ite]
        simp
      · intro k hk
        obtain ⟨k0, k1⟩ := mem_rangeI.mp hk
        have ik := item_map PV.int 0 pool (a := 100 + 12 * i + k) (by omega) (by omega)
        generalize pool.getD (100 + 12 * i + k).toNat 0 = x at ik
        have m2 : pyBin .mod (.int x) (.int rare) = some (.int (x.fmod rare)) := bin_mod _ _ (by omega)
        simp [compF, m1, ik, m2]
        split <;> rfl)
    (l := rangeI b) (env := [.sh (lstI pool), .sh (.int 100), .sh (.int a), .sh (.int b), .sh (.int rare), .ow [], .un, .un]) ⟨[], rfl, by simp, fun j hj => mem_rangeI.mp hj⟩
  refine ⟨S, ?_, by simpa using h3⟩
  rw [run, callI_succ _ P__law_sets _ rfl]
  simp [f__law_sets, start, rb]
  refine (congrArg (fun m => finish (cat m _)) h1).trans ?_
  simp
theorem s_drawn (n : Nat) (pool : List Int) (hl : pool.length = 240) : ∃ (a : Nat) (sets : List (List Int)), run (n + 2) n__law_drawn [lstI pool] = rt (.tup [.int a, .tup (sets.map tupI)], false) ∧ a ≤ 8 ∧ sets.length ≤ 6 := by
  have i0 := item_map PV.int 0 pool (a := 0) (by omega) (by omega)
  have i1 := item_map PV.int 0 pool (a := 1) (by omega) (by omega)
  have i2 := item_map PV.int 0 pool (a := 2) (by omega) (by omega)
  have i3 := item_map PV.int 0 pool (a := 3) (by omega) (by omega)
  generalize pool.getD (0 : Int).toNat 0 = x0 at i0
  generalize pool.getD (1 : Int).toNat 0 = x1 at i1
  generalize pool.getD (2 : Int).toNat 0 = x2 at i2
  generalize pool.getD (3 : Int).toNat 0 = x3 at i3
  have b0 : pyBin .mod (.int x0) (.int 9) = some (.int (x0.fmod 9)) := bin_mod _ _ (by omega)
  have b1 : pyBin .mod (.int x1) (.int 7) = some (.int (x1.fmod 7)) := bin_mod _ _ (by omega)
  have b2 : pyBin .mod (.int x2) (.int 2) = some (.int (x2.fmod 2)) := bin_mod _ _ (by omega)
  have b3 : pyBin .mod (.int x3) (.int 3) = some (.int (x3.fmod 3)) := bin_mod _ _ (by omega)
  have m0 := md (a := x0) (m := 9) (by omega)
  have m1 := md (a := x1) (m := 7) (by omega)
  have m2 := md (a := x2) (m := 2) (by omega)
  obtain ⟨a, ea⟩ := Int.eq_ofNat_of_zero_le m0.1
  obtain ⟨b, eb⟩ := Int.eq_ofNat_of_zero_le m1.1
  rw [ea] at b0 m0
  rw [eb] at b1 m1
  obtain ⟨S, h1, h2⟩ := s_sets n pool a b (2 + x2.fmod 2) (by omega) (by omega) (by omega) hl
  have t1 : ∀ x y : PV, noRefs [x, y] = true → mk PV.tup [x, y] = rt (.tup [x, y]) := fun x y h => mk_ok _ h (by unfold line; simp)
  by_cases hc : x3.fmod 3 = 0 ∧ 1 < b
  · have hb : (1 : Int) < (b : Int) := by omega
    obtain ⟨s0, is⟩ : ∃ s0, item (S.map tupI) 0 = some (tupI s0) := ⟨_, item_map tupI [] S (a := 0) (by omega) (by omega)⟩
    have l1 : (cut S none (some 1)).length ≤ 1 := by unfold cut cutAt; simp; omega
    have l2 : (cut S (some 2) none).length ≤ S.length - 2 := by unfold cut cutAt; simp; omega
    refine ⟨a, cut S none (some 1) ++ [s0] ++ cut S (some 2) none, ?_, by omega, by rw [List.length_append, List.length_append, List.length_singleton]; omega⟩
    rw [run, callI_succ _ P__law_drawn _ rfl]
    have a1 : pyBin .add (.tup ((cut S none (some 1)).map tupI)) (.tup [tupI s0]) = some (.tup ((cut S none (some 1)).map tupI ++ [tupI s0])) := bin_add_t _ _ (by unfold line; simp; omega)
    have a2 : pyBin .add (.tup ((cut S none (some 1)).map tupI ++ [tupI s0])) (.tup ((cut S (some 2) none).map tupI)) = some (.tup ((cut S none (some 1)).map tupI ++ [tupI s0] ++ (cut S (some 2) none).map tupI)) := bin_add_t _ _ (by unfold line; simp; omega)
    have mk1 : mk PV.tup [tupI s0] = rt (.tup [tupI s0]) := mk_ok _ rfl (by unfold line; simp)
    simp [f__law_drawn, start, i0, i1, i2, i3, b0, b1, b2, b3, h1, t1, hc.1, hc.2, is, mk1, cut_map]
    rw [a1]
    simp
    rw [a2]
    simp [hb, t1]
  · refine ⟨a, S, ?_, by omega, by omega⟩
    rw [run, callI_succ _ P__law_drawn _ rfl]
    have hb : ¬ (1 : Int) < (b : Int) ∨ ¬ x3.fmod 3 = 0 := by
      rcases Classical.em (x3.fmod 3 = 0) with h | h
      · exact .inl fun z => hc ⟨h, by omega⟩
      · exact .inr h
    simp [f__law_drawn, start, i0, i1, i2, i3, b0, b1, b2, b3, h1, t1]
    rcases hb with hb | hb
    · simp [hb, t1]
    · simp [hb, t1]
theorem picksF_len (m : Nat) : (picksF m).length = 2 ^ m := by
  induction m with
  | zero => rfl
  | succ m ih =>
    rw [picksF_succ]
    unfold grow
    rw [List.length_append, List.length_map, ih, Nat.pow_succ]
    omega
theorem allP_len {m : Nat} (h : m ≤ 6) : (allP m).length ≤ 64 := by
  unfold allP
  rw [(sortT_perm _).length_eq, picksF_len]
  calc 2 ^ m ≤ 2 ^ 6 := Nat.pow_le_pow_right (by omega) h
    _ = 64 := by decide
def full (sets : List (List Int)) (l p : List Int) : Bool := (left sets l p).isEmpty
def lean (sets : List (List Int)) (l p : List Int) : Bool := full sets l p && !(spare sets l p)
abbrev Two := List (List Int) × List (List Int)
def turn (sets : List (List Int)) (l : List Int) (s : Two) (p : List Int) : Two := (if full sets l p = true then s.1 ++ [p] else s.1, if lean sets l p = true then s.2 ++ [p] else s.2)
theorem turn_len (sets : List (List Int)) (l : List Int) (s : Two) (p : List Int) : (turn sets l s p).1.length ≤ s.1.length + 1 ∧ (turn sets l s p).2.length ≤ s.2.length + 1 := by
  unfold turn
  cases full sets l p <;> cases lean sets l p <;> simp
theorem turn_fold (sets : List (List Int)) (l : List Int) : ∀ (r : List (List Int)) (s : Two), r.foldl (turn sets l) s = (s.1 ++ r.filter (full sets l), s.2 ++ r.filter (lean sets l))
  | [], s => by simp
  | p :: r, s => by
    rw [List.foldl_cons, turn_fold sets l r, List.filter_cons, List.filter_cons]
    unfold turn
    cases full sets l p <;> cases lean sets l p <;> simp
theorem s_is_cover_F (n : Nat) (k : Nat) (sets : List (List Int)) (v : PV) (hv : run (n + 3) n_is_picks [.int sets.length, v] = rt (.bl false, false)) (h1 : k ≤ 12) (h2 : sets.length ≤ 8) : run (n + 5) n_is_cover [.int k, .tup (sets.map tupI), v] = rt (.bl false, false) := by
  have e0 : run (n + 4) n_is_cover_of [tupI (rangeI k), .tup (sets.map tupI), v] = rt (.bl false, false) := by
    rw [run, callI_succ _ P_is_cover_of _ rfl]
    simp [f_is_cover_of, start, hv]
  rw [run, callI_succ _ P_is_cover _ rfl]
  have e1 := s_check_problem (n + 3) k (sets.map tupI) (by omega) (by rw [List.length_map]; exact h2)
  obtain ⟨e3, e4⟩ := range_ok h1
  simp [f_is_cover, start, e0, e1, e3, e4]
theorem picks_list (n : Nat) (m : Int) (l : List PV) : run (n + 3) n_is_picks [.int m, .lst l] = rt (.bl false, false) := by
  rw [run, callI_succ _ P_is_picks _ rfl]
  simp [f_is_picks, start]
theorem picks_none (n : Nat) (m : Int) : run (n + 3) n_is_picks [.int m, .non] = rt (.bl false, false) := by
  rw [run, callI_succ _ P_is_picks _ rfl]
  simp [f_is_picks, start]
theorem picks_bool (n : Nat) (m : Int) (b : Bool) (l : List PV) (hm : 1 < m) : run (n + 3) n_is_picks [.int m, .tup (.int 0 :: .bl b :: l)] = rt (.bl false, false) := by
  rw [run, callI_succ _ P_is_picks _ rfl]
  have h0 : ¬ m < 1 := by omega
  simp [f_is_picks, start, forB_cons, forF, s_whole_in, s_whole_in_b, h0]
theorem picks_out (n : Nat) (m : Nat) (l : List Int) (hl : l.length ≤ 1000) (h : ∃ i ∈ l, inR m i = false) : run (n + 3) n_is_picks [.int m, tupI l] = rt (.bl false, false) := by
  rw [s_is_picks n m l hl]
  have : picksOk m l = false := by
    obtain ⟨i, hi, hb⟩ := h
    unfold picksOk
    rw [Bool.and_eq_false_iff]
    left
    rw [List.all_eq_false]
    exact ⟨i, hi, by rw [hb]; exact Bool.false_ne_true⟩
  rw [this]
theorem picks_low (n : Nat) (m : Nat) (l : List Int) (hl : l.length ≤ 1000) (h : ∃ k, k < l.length - 1 ∧ stepUp l k = false) : run (n + 3) n_is_picks [.int m, tupI l] = rt (.bl false, false) := by
  rw [s_is_picks n m l hl]
  have : picksOk m l = false := by
    obtain ⟨k, hk, hb⟩ := h
    unfold picksOk
    rw [Bool.and_eq_false_iff]
    right
    rw [List.all_eq_false]
    exact ⟨k, List.mem_range.mpr hk, by rw [hb]; exact Bool.false_ne_true⟩
  rw [this]
@[simp] theorem eqOk_tt (l m : List (List Int)) : eqOk (.lst (l.map tupI)) (.lst (m.map tupI)) = true := by
  unfold eqOk
  have h1 := deps_tups l
  have h2 := deps_tups m
  simp
  omega
abbrev bLaw : MSs := forBody (nthS f_law.body 5)
theorem s_main (script : PV) (pool : List Int) (k : Nat) (sets : List (List Int)) (hk : k ≤ 8) (hs : sets.length ≤ 6) :
    forB G (callI G P 5) (.nm 7) [7, 12] bLaw ((allP sets.length).map tupI) [.sh script, .sh (lstI pool), .sh (.int k), .sh (.tup (sets.map tupI)), .sh (tupI (rangeI k)), .ow [], .ow [], .un, .un, .un, .un, .un, .un, .un] =
      rt (.nx, [.sh script, .sh (lstI pool), .sh (.int k), .sh (.tup (sets.map tupI)), .sh (tupI (rangeI k)), .ow (((allP sets.length).filter (lean sets (rangeI k))).map tupI), .ow (((allP sets.length).filter (full sets (rangeI k))).map tupI), .un, .un, .un, .un, .un, .un, .un]) := by
  have hall := allP_len hs
  rw [forB_rw (fun s : Two => [.sh script, .sh (lstI pool), .sh (.int k), .sh (.tup (sets.map tupI)), .sh (tupI (rangeI k)), .ow (s.2.map tupI), .ow (s.1.map tupI), .un, .un, .un, .un, .un, .un, .un]) ([], []) (turn sets (rangeI k))
    (fun r s => s.1.length + r.length ≤ 64 ∧ s.2.length + r.length ≤ 64 ∧ ∀ p ∈ r, Rise sets.length p)]
  · rw [turn_fold]
    simp
  · rfl
  · exact ⟨by simp; exact hall, by simp; exact hall, fun p hp => allP_rise hp⟩
  · rintro ⟨c, mi⟩ p r ⟨h1, h2, h3⟩
    have hp := h3 p (List.mem_cons_self ..)
    have hl := hp.len
    rw [List.length_cons] at h1 h2
    dsimp only at h1 h2 ⊢
    have z1 : ¬ line ≤ c.length := by unfold line; omega
    have z2 : ¬ line ≤ mi.length := by unfold line; omega
    have e1 := s_law_left 4 (rangeI k) sets p (tupI p) rfl hp.inr
    have e2 := s_is_cover 0 k sets p (by omega) (by omega) (by omega)
    rw [hp.ok, Bool.true_and] at e2
    have e3 := s_law_spare 3 (rangeI k) sets p hp.inr
    have e4 := s_flag 4 (left sets (rangeI k) p).isEmpty (left sets (rangeI k) p).isEmpty
    rw [beq_self_eq_true] at e4
    have e5 : (((left sets (rangeI k) p).length : Int) == 0) = (left sets (rangeI k) p).isEmpty := len_zero _
    refine ⟨?_, ?_, ?_, fun q hq => h3 q (List.mem_cons_of_mem _ hq)⟩
    · have ef : full sets (rangeI k) p = (left sets (rangeI k) p).isEmpty := rfl
      have el : lean sets (rangeI k) p = ((left sets (rangeI k) p).isEmpty && !(spare sets (rangeI k) p)) := rfl
      generalize hF : (left sets (rangeI k) p).isEmpty = Fv at *
      generalize hS : spare sets (rangeI k) p = Sv at *
      unfold turn
      rw [ef, el]
      simp only [forF, bLaw, forBody, nthS, f_law]
      simp [e1, e2, e3, e4, e5, hF, hS, z1, z2]
      cases Fv <;> cases Sv <;> simp [e3, z2]
    · have := (turn_len sets (rangeI k) (c, mi) p).1
      dsimp only at this
      omega
    · have := (turn_len sets (rangeI k) (c, mi) p).2
      dsimp only at this
      omega
theorem covers_eq (sets : List (List Int)) (l : List Int) : covers sets l = (allP sets.length).filter (full sets l) := rfl
theorem lean_eq (sets : List (List Int)) (l : List Int) : (allP sets.length).filter (lean sets l) = (covers sets l).filter fun p => !(spare sets l p) := by
  rw [covers_eq, List.filter_filter]
  congr
  funext p
  unfold lean
  exact Bool.and_comm _ _
def head8 : MSs := takeS f_law.body 8
def tail8 : MSs := dropS f_law.body 8
theorem body_eq : f_law.body = appS head8 tail8 := rfl
abbrev cv (k : Nat) (sets : List (List Int)) := covers sets (rangeI k)
abbrev mn (k : Nat) (sets : List (List Int)) := (covers sets (rangeI k)).filter fun p => !(spare sets (rangeI k) p)
abbrev eLaw (ns pool : List Int) (k : Nat) (sets : List (List Int)) (x : Slot) : Env := [.sh (lstI ns), .sh (lstI pool), .sh (.int k), .sh (.tup (sets.map tupI)), .sh (tupI (rangeI k)), .ow ((mn k sets).map tupI), .ow ((cv k sets).map tupI), .un, .sh (.lst ((leastF (cv k sets)).map tupI)), .un, .un, .un, .un, x]
theorem s_head (ns : List Int) (hn : ns.length ≤ 63) : ∃ (pool : List Int) (k : Nat) (sets : List (List Int)) (x : Slot), k ≤ 8 ∧ sets.length ≤ 6 ∧ sxs G (callI G P 5) head8 (start f_law [lstI ns]) = rt (.nx, eLaw ns pool k sets x) := by
  obtain ⟨pool, hp1, hp2, _⟩ := s_pool 3 ns hn
  obtain ⟨k, sets, hd, hk, hs⟩ := s_drawn 3 pool hp2
  obtain ⟨r1, r2⟩ := range_ok (k := k) (by omega)
  have hpk := s__law_picks 4 sets.length (by omega)
  have hm := s_main (lstI ns) pool k sets hk hs
  rw [lean_eq, ← covers_eq] at hm
  cases hC : (cv k sets).isEmpty with
  | true =>
    have hC2 : cv k sets = [] := by simpa using hC
    refine ⟨pool, k, sets, .un, hk, hs, ?_⟩
    simp [head8, takeS, f_law, start, hp1, hd, r1, r2, hpk]
    refine (congrArg (fun m => cat m _) hm).trans ?_
    simp [hC2, leastF]
  | false =>
    have hC2 : 0 < (cv k sets).length := by
      cases h : cv k sets with
      | nil => rw [h] at hC; cases hC
      | cons a r => simp
    refine ⟨pool, k, sets, .sh (.int (mlen (cv k sets))), hk, hs, ?_⟩
    simp [head8, takeS, f_law, start, hp1, hd, r1, r2, hpk]
    refine (congrArg (fun m => cat m _) hm).trans ?_
    simp [hC2]
    rw [filtM_map (g := fun r => some (.int r.length))]
    · rw [filterMap_some]
      simp [min_rows hC]
      rw [filtM_map (g := fun r => if ((r.length : Int) == mlen (cv k sets)) = true then some (tupI r) else none)]
      · rw [filterMap_ite]
        simp [leastF]
      · intro r hr
        simp [compF]
        split <;> rfl
    · intro r hr
      simp [compF]
theorem tupI_app (a b : List Int) : tupI (a ++ b) = .tup (a.map PV.int ++ b.map PV.int) := by
  show PV.tup ((a ++ b).map PV.int) = _
  rw [List.map_append]
theorem s_tail (ns pool : List Int) (k : Nat) (sets : List (List Int)) (x : Slot) (hk : k ≤ 8) (hs : sets.length ≤ 6) : finish (sxs G (callI G P 5) tail8 (eLaw ns pool k sets x)) = rt (.bl true, false) := by
  obtain ⟨r3, r4⟩ := range_ok (k := sets.length) (by omega)
  have hmin := s_minimal_covers 1 k sets (by omega) (by omega)
  have hlea := s_least_covers 1 k sets (by omega) (by omega)
  have ne1 : ∀ (σ : Sto) (l : List (List Int)), (pyCmp σ .ne (.lst (l.map tupI)) (.lst (l.map tupI))) = some false := fun σ l => by
    rw [cmp_ne _ _ _ (eqOk_tt l l)]
    simp
  have c1 : ∀ l h, (cut (rangeI sets.length) l h).length ≤ 6 := fun l h => by
    have := cut_len (rangeI sets.length) l h
    rw [rangeI_len] at this
    omega
  have add : ∀ xs ys : List PV, xs.length + ys.length ≤ 100 → pyBin .add (.tup xs) (.tup ys) = some (.tup (xs ++ ys)) := fun xs ys h => bin_add_t _ _ (by unfold line; omega)
  have mk1 : ∀ v : PV, isRef v = false → mk PV.tup [v] = rt (.tup [v]) := fun v h => mk_ok _ (by simp [h]) (by unfold line; simp)
  have mk2 : ∀ v w : PV, isRef v = false → isRef w = false → mk PV.tup [v, w] = rt (.tup [v, w]) := fun v w h h2 => mk_ok _ (by simp [h, h2]) (by unfold line; simp)
  have mk5 : ∀ a b c d e : PV, isRef a = false → isRef b = false → isRef c = false → isRef d = false → isRef e = false → mk PV.lst [a, b, c, d, e] = rt (.lst [a, b, c, d, e]) := fun a b c d e h1 h2 h3 h4 h5 => mk_ok _ (by simp [h1, h2, h3, h4, h5]) (by unfold line; simp)
  generalize hA : rangeI sets.length = A at r3 c1
  have lA : A.length = sets.length := by rw [← hA, rangeI_len]
  have inA : ∀ x, x ∈ A ↔ 0 ≤ x ∧ x < (sets.length : Int) := fun x => by rw [← hA]; exact mem_rangeI
  have a1 := add (A.map PV.int) [PV.int sets.length] (by simp; omega)
  have a2 := add (A.map PV.int) ((cut A (some (-1)) none).map PV.int) (by have := c1 (some (-1)) none; simp; omega)
  have a3 := add (A.map PV.int ++ (cut A (some (-1)) none).map PV.int) [PV.int 9] (by have := c1 (some (-1)) none; simp; omega)
  have a4 := add [PV.int (-1)] (A.map PV.int) (by simp; omega)
  have a5 := add [PV.int 0, PV.bl true] ((cut A (some 2) none).map PV.int) (by have := c1 (some 2) none; simp; omega)
  have a6 := add (A.map PV.int) [PV.int 1] (by simp; omega)
  have a7 := add [PV.int 1, PV.int 0] ((cut A (some 2) none).map PV.int) (by have := c1 (some 2) none; simp; omega)
  have out : ∀ l : List Int, l.length ≤ 1000 → (∃ i ∈ l, inR sets.length i = false) → run 5 n_is_cover [.int k, .tup (sets.map tupI), tupI l] = rt (.bl false, false) := fun l h1 h2 => s_is_cover_F 0 k sets _ (picks_out 0 sets.length l h1 h2) (by omega) (by omega)
  have w1 : run 5 n_is_cover [.int k, .tup (sets.map tupI), .tup (A.map PV.int ++ [PV.int sets.length])] = rt (.bl false, false) := by
    have h := out (A ++ [(sets.length : Int)]) (by simp; omega) ⟨sets.length, by simp, by simp [inR]; omega⟩
    rw [tupI_app] at h
    exact h
  have w2 : run 5 n_is_cover [.int k, .tup (sets.map tupI), .tup (A.map PV.int ++ ((cut A (some (-1)) none).map PV.int ++ [PV.int 9]))] = rt (.bl false, false) := by
    have h := out (A ++ (cut A (some (-1)) none ++ [9])) (by have := c1 (some (-1)) none; simp; omega) ⟨9, by simp, by simp [inR]; omega⟩
    rw [tupI_app, List.map_append] at h
    exact h
  have w3 : run 5 n_is_cover [.int k, .tup (sets.map tupI), .lst (A.map PV.int)] = rt (.bl false, false) := s_is_cover_F 0 k sets _ (picks_list 0 _ _) (by omega) (by omega)
  have w4 : run 5 n_is_cover [.int k, .tup (sets.map tupI), .tup (PV.int (-1) :: A.map PV.int)] = rt (.bl false, false) := out (-1 :: A) (by simp; omega) ⟨-1, by simp, by simp [inR]⟩
  have w5 : run 5 n_is_cover [.int k, .tup (sets.map tupI), .non] = rt (.bl false, false) := s_is_cover_F 0 k sets _ (picks_none 0 _) (by omega) (by omega)
  simp at a1 a2 a3 a4
  simp [tail8, dropS, f_law, hmin, hlea, r3, r4, ne1, lA, mk1, cut_map, a1, a2, a3, a4, mk5, forB_cons, forB_nil, forF, w1, w2, w3, w4, w5]
  by_cases h2 : 1 < sets.length
  · have hi : (1 : Int) < (sets.length : Int) := by omega
    have w6 : run 5 n_is_cover [.int k, .tup (sets.map tupI), .tup (.int 0 :: .bl true :: (cut A (some 2) none).map PV.int)] = rt (.bl false, false) := s_is_cover_F 0 k sets _ (picks_bool 0 _ _ _ hi) (by omega) (by omega)
    have w7 : run 5 n_is_cover [.int k, .tup (sets.map tupI), .tup (A.map PV.int ++ [PV.int 1])] = rt (.bl false, false) := by
      have h := s_is_cover_F 0 k sets _ (picks_low 0 sets.length (A ++ [1]) (by simp; omega) ⟨sets.length - 1, by simp; omega, by
        have e1 : (1 + ((sets.length - 1 : Nat) : Int)).toNat = A.length := by omega
        have e2 : (1 + ((sets.length - 1 : Nat) : Int) - 1).toNat = sets.length - 1 := by omega
        have e3 : A[sets.length - 1]? = some ((sets.length - 1 : Nat) : Int) := by
          rw [← hA]
          unfold rangeI
          rw [List.getElem?_map, List.getElem?_range (by omega)]
          rfl
        unfold stepUp
        rw [e1, e2, List.getD_eq_getElem?_getD, List.getD_eq_getElem?_getD, List.getElem?_append_right (Nat.le_refl _), List.getElem?_append_left (by omega), e3]
        simp
        omega⟩) (by omega) (by omega)
      rw [tupI_app] at h
      exact h
    have w8 : run 5 n_is_cover [.int k, .tup (sets.map tupI), .tup (.int 1 :: .int 0 :: (cut A (some 2) none).map PV.int)] = rt (.bl false, false) := s_is_cover_F 0 k sets _ (picks_low 0 sets.length (1 :: 0 :: cut A (some 2) none) (by have := c1 (some 2) none; simp; omega) ⟨0, by simp, by simp [stepUp]⟩) (by omega) (by omega)
    have h3 : ¬ sets.length < 2 := by omega
    have hj : ¬ (sets.length : Int) < 2 := by omega
    simp at a5 a6 a7
    simp [h2, h3, hi, hj, mk1, mk2, cut_map, a5, a6, a7, w6, w7, w8]
  · have h3 : sets.length < 2 := by omega
    have hi : ¬ (1 : Int) < (sets.length : Int) := by omega
    have hj : (sets.length : Int) < 2 := by omega
    simp [hi, hj, h3]
theorem answer (ns : List Int) (hn : ns.length ≤ 63) : callI G P 6 n_law [.lst (ns.map PV.int)] [] = .ok (.bl true, false) [] := by
  have e : run 6 n_law [lstI ns] = rt (.bl true, false) := by
    rw [run, callI_succ _ P_law _ rfl, body_eq, sxs_app]
    obtain ⟨pool, k, sets, x, hk, hs, h⟩ := s_head ns hn
    rw [h, cat_nx]
    exact s_tail ns pool k sets x hk hs
  exact congrFun e []
def deep : Nat := 6
end P59

set_option maxRecDepth 100000
set_option maxHeartbeats 0
namespace P59
open PySem PySem.Spec L2 SkB
def top (i : Nat) : Stmt := PySem.Challenge.pw_skerrylight_k59_minimal_covers.main.body.getD i (.Pass ⟨0, 0, 0, 0⟩)
def e_is_whole : FnE := ⟨⟨("is_whole", none), "is_whole", "is_whole", defArgs (top 1), defBody (top 1), defScope (top 1), [], []⟩, ["value"], ["value"], f_is_whole⟩
def e_whole_in : FnE := ⟨⟨("whole_in", none), "whole_in", "whole_in", defArgs (top 2), defBody (top 2), defScope (top 2), [], []⟩, ["value", "low", "high"], ["value", "low", "high"], f_whole_in⟩
def e_check_problem : FnE := ⟨⟨("check_problem", none), "check_problem", "check_problem", defArgs (top 9), defBody (top 9), defScope (top 9), [], []⟩, ["n", "sets"], ["n", "sets"], f_check_problem⟩
def e_left_after : FnE := ⟨⟨("left_after", none), "left_after", "left_after", defArgs (top 10), defBody (top 10), defScope (top 10), [], []⟩, ["left", "chosen", "thing"], ["left", "chosen"], f_left_after⟩
def e_subsets : FnE := ⟨⟨("subsets", none), "subsets", "subsets", defArgs (top 11), defBody (top 11), defScope (top 11), [], []⟩, ["count", "found", "i", "picks"], ["count"], f_subsets⟩
def e_covers_all : FnE := ⟨⟨("covers_all", none), "covers_all", "covers_all", defArgs (top 12), defBody (top 12), defScope (top 12), [], []⟩, ["things", "sets", "picks", "left", "i"], ["things", "sets", "picks"], f_covers_all⟩
def e_covers_of : FnE := ⟨⟨("covers_of", none), "covers_of", "covers_of", defArgs (top 13), defBody (top 13), defScope (top 13), [], []⟩, ["things", "sets", "picks"], ["things", "sets"], f_covers_of⟩
def e_least_of : FnE := ⟨⟨("least_of", none), "least_of", "least_of", defArgs (top 14), defBody (top 14), defScope (top 14), [], []⟩, ["rows", "least", "row"], ["rows"], f_least_of⟩
def e_is_picks : FnE := ⟨⟨("is_picks", none), "is_picks", "is_picks", defArgs (top 15), defBody (top 15), defScope (top 15), [], []⟩, ["count", "value", "i", "k"], ["count", "value"], f_is_picks⟩
def e_is_cover_of : FnE := ⟨⟨("is_cover_of", none), "is_cover_of", "is_cover_of", defArgs (top 16), defBody (top 16), defScope (top 16), [], []⟩, ["things", "sets", "value"], ["things", "sets", "value"], f_is_cover_of⟩
def e_is_cover : FnE := ⟨⟨("is_cover", none), "is_cover", "is_cover", defArgs (top 17), defBody (top 17), defScope (top 17), [], []⟩, ["n", "sets", "value"], ["n", "sets", "value"], f_is_cover⟩
def e_least_covers : FnE := ⟨⟨("least_covers", none), "least_covers", "least_covers", defArgs (top 18), defBody (top 18), defScope (top 18), [], []⟩, ["n", "sets"], ["n", "sets"], f_least_covers⟩
def e_can_spare : FnE := ⟨⟨("can_spare", none), "can_spare", "can_spare", defArgs (top 19), defBody (top 19), defScope (top 19), [], []⟩, ["things", "sets", "picks", "i", "j"], ["things", "sets", "picks"], f_can_spare⟩
def e_minimal_covers : FnE := ⟨⟨("minimal_covers", none), "minimal_covers", "minimal_covers", defArgs (top 20), defBody (top 20), defScope (top 20), [], []⟩, ["n", "sets", "things", "picks"], ["n", "sets"], f_minimal_covers⟩
def e__law_mix : FnE := ⟨⟨("_law_mix", none), "_law_mix", "_law_mix", defArgs (top 22), defBody (top 22), defScope (top 22), [], []⟩, ["cell", "k", "j", "small", "one", "two"], ["cell", "k", "j"], f__law_mix⟩
def e__law_pool : FnE := ⟨⟨("_law_pool", none), "_law_pool", "_law_pool", defArgs (top 23), defBody (top 23), defScope (top 23), [], []⟩, ["script", "pool", "k", "cell", "rest", "j"], ["script"], f__law_pool⟩
def e__law_sets : FnE := ⟨⟨("_law_sets", none), "_law_sets", "_law_sets", defArgs (top 24), defBody (top 24), defScope (top 24), [], []⟩, ["pool", "at", "n", "many", "rare", "found", "i", "k"], ["pool", "at", "n", "many", "rare"], f__law_sets⟩
def e__law_picks : FnE := ⟨⟨("_law_picks", none), "_law_picks", "_law_picks", defArgs (top 25), defBody (top 25), defScope (top 25), [], []⟩, ["many", "found", "i", "picks"], ["many"], f__law_picks⟩
def e__law_left : FnE := ⟨⟨("_law_left", none), "_law_left", "_law_left", defArgs (top 26), defBody (top 26), defScope (top 26), [], []⟩, ["things", "sets", "picks", "left", "i", "thing"], ["things", "sets", "picks"], f__law_left⟩
def e__law_flag : FnE := ⟨⟨("_law_flag", none), "_law_flag", "_law_flag", defArgs (top 27), defBody (top 27), defScope (top 27), [], []⟩, ["value", "due"], ["value", "due"], f__law_flag⟩
def e__law_drawn : FnE := ⟨⟨("_law_drawn", none), "_law_drawn", "_law_drawn", defArgs (top 28), defBody (top 28), defScope (top 28), [], []⟩, ["pool", "n", "many", "sets"], ["pool"], f__law_drawn⟩
def e__law_spare : FnE := ⟨⟨("_law_spare", none), "_law_spare", "_law_spare", defArgs (top 29), defBody (top 29), defScope (top 29), [], []⟩, ["things", "sets", "picks", "i", "j"], ["things", "sets", "picks"], f__law_spare⟩
def e_law : FnE := ⟨⟨("law", none), "law", "law", defArgs (top 30), defBody (top 30), defScope (top 30), [], []⟩, ["script", "pool", "n", "sets", "things", "minimal", "covers", "picks", "least", "told", "all_sets", "wrong", "full", "size"], ["script"], f_law⟩
def L : List FnE := [e_is_whole, e_whole_in, e_check_problem, e_left_after, e_subsets, e_covers_all, e_covers_of, e_least_of, e_is_picks, e_is_cover_of, e_is_cover, e_least_covers, e_can_spare, e_minimal_covers, e__law_mix, e__law_pool, e__law_sets, e__law_picks, e__law_left, e__law_flag, e__law_drawn, e__law_spare, e_law]
theorem ck_is_whole : FnC (fun i => (L[i]?).map (·.d.name)) (fun i => (gi[i]?).map (·.1)) e_is_whole :=
  ⟨by decide +kernel, by decide +kernel, rfl, rfl, rfl, rfl, ⟨rfl, rfl⟩, fun _ _ _ _ _ _ us hl => match us, hl with | [_], _ => rfl⟩
theorem ck_whole_in : FnC (fun i => (L[i]?).map (·.d.name)) (fun i => (gi[i]?).map (·.1)) e_whole_in :=
  ⟨by decide +kernel, by decide +kernel, rfl, rfl, rfl, rfl, ⟨rfl, rfl⟩, fun _ _ _ _ _ _ us hl => match us, hl with | [_, _, _], _ => rfl⟩
theorem ck_check_problem : FnC (fun i => (L[i]?).map (·.d.name)) (fun i => (gi[i]?).map (·.1)) e_check_problem :=
  ⟨by decide +kernel, by decide +kernel, rfl, rfl, rfl, rfl, ⟨rfl, rfl⟩, fun _ _ _ _ _ _ us hl => match us, hl with | [_, _], _ => rfl⟩
theorem ck_left_after : FnC (fun i => (L[i]?).map (·.d.name)) (fun i => (gi[i]?).map (·.1)) e_left_after :=
  ⟨by decide +kernel, by decide +kernel, rfl, rfl, rfl, rfl, ⟨rfl, rfl⟩, fun _ _ _ _ _ _ us hl => match us, hl with | [_, _], _ => rfl⟩
theorem ck_subsets : FnC (fun i => (L[i]?).map (·.d.name)) (fun i => (gi[i]?).map (·.1)) e_subsets :=
  ⟨by decide +kernel, by decide +kernel, rfl, rfl, rfl, rfl, ⟨rfl, rfl⟩, fun _ _ _ _ _ _ us hl => match us, hl with | [_], _ => rfl⟩
theorem ck_covers_all : FnC (fun i => (L[i]?).map (·.d.name)) (fun i => (gi[i]?).map (·.1)) e_covers_all :=
  ⟨by decide +kernel, by decide +kernel, rfl, rfl, rfl, rfl, ⟨rfl, rfl⟩, fun _ _ _ _ _ _ us hl => match us, hl with | [_, _, _], _ => rfl⟩
theorem ck_covers_of : FnC (fun i => (L[i]?).map (·.d.name)) (fun i => (gi[i]?).map (·.1)) e_covers_of :=
  ⟨by decide +kernel, by decide +kernel, rfl, rfl, rfl, rfl, ⟨rfl, rfl⟩, fun _ _ _ _ _ _ us hl => match us, hl with | [_, _], _ => rfl⟩
theorem ck_least_of : FnC (fun i => (L[i]?).map (·.d.name)) (fun i => (gi[i]?).map (·.1)) e_least_of :=
  ⟨by decide +kernel, by decide +kernel, rfl, rfl, rfl, rfl, ⟨rfl, rfl⟩, fun _ _ _ _ _ _ us hl => match us, hl with | [_], _ => rfl⟩
theorem ck_is_picks : FnC (fun i => (L[i]?).map (·.d.name)) (fun i => (gi[i]?).map (·.1)) e_is_picks :=
  ⟨by decide +kernel, by decide +kernel, rfl, rfl, rfl, rfl, ⟨rfl, rfl⟩, fun _ _ _ _ _ _ us hl => match us, hl with | [_, _], _ => rfl⟩
theorem ck_is_cover_of : FnC (fun i => (L[i]?).map (·.d.name)) (fun i => (gi[i]?).map (·.1)) e_is_cover_of :=
  ⟨by decide +kernel, by decide +kernel, rfl, rfl, rfl, rfl, ⟨rfl, rfl⟩, fun _ _ _ _ _ _ us hl => match us, hl with | [_, _, _], _ => rfl⟩
theorem ck_is_cover : FnC (fun i => (L[i]?).map (·.d.name)) (fun i => (gi[i]?).map (·.1)) e_is_cover :=
  ⟨by decide +kernel, by decide +kernel, rfl, rfl, rfl, rfl, ⟨rfl, rfl⟩, fun _ _ _ _ _ _ us hl => match us, hl with | [_, _, _], _ => rfl⟩
theorem ck_least_covers : FnC (fun i => (L[i]?).map (·.d.name)) (fun i => (gi[i]?).map (·.1)) e_least_covers :=
  ⟨by decide +kernel, by decide +kernel, rfl, rfl, rfl, rfl, ⟨rfl, rfl⟩, fun _ _ _ _ _ _ us hl => match us, hl with | [_, _], _ => rfl⟩
theorem ck_can_spare : FnC (fun i => (L[i]?).map (·.d.name)) (fun i => (gi[i]?).map (·.1)) e_can_spare :=
  ⟨by decide +kernel, by decide +kernel, rfl, rfl, rfl, rfl, ⟨rfl, rfl⟩, fun _ _ _ _ _ _ us hl => match us, hl with | [_, _, _], _ => rfl⟩
theorem ck_minimal_covers : FnC (fun i => (L[i]?).map (·.d.name)) (fun i => (gi[i]?).map (·.1)) e_minimal_covers :=
  ⟨by decide +kernel, by decide +kernel, rfl, rfl, rfl, rfl, ⟨rfl, rfl⟩, fun _ _ _ _ _ _ us hl => match us, hl with | [_, _], _ => rfl⟩
theorem ck__law_mix : FnC (fun i => (L[i]?).map (·.d.name)) (fun i => (gi[i]?).map (·.1)) e__law_mix :=
  ⟨by decide +kernel, by decide +kernel, rfl, rfl, rfl, rfl, ⟨rfl, rfl⟩, fun _ _ _ _ _ _ us hl => match us, hl with | [_, _, _], _ => rfl⟩
theorem ck__law_pool : FnC (fun i => (L[i]?).map (·.d.name)) (fun i => (gi[i]?).map (·.1)) e__law_pool :=
  ⟨by decide +kernel, by decide +kernel, rfl, rfl, rfl, rfl, ⟨rfl, rfl⟩, fun _ _ _ _ _ _ us hl => match us, hl with | [_], _ => rfl⟩
theorem ck__law_sets : FnC (fun i => (L[i]?).map (·.d.name)) (fun i => (gi[i]?).map (·.1)) e__law_sets :=
  ⟨by decide +kernel, by decide +kernel, rfl, rfl, rfl, rfl, ⟨rfl, rfl⟩, fun _ _ _ _ _ _ us hl => match us, hl with | [_, _, _, _, _], _ => rfl⟩
theorem ck__law_picks : FnC (fun i => (L[i]?).map (·.d.name)) (fun i => (gi[i]?).map (·.1)) e__law_picks :=
  ⟨by decide +kernel, by decide +kernel, rfl, rfl, rfl, rfl, ⟨rfl, rfl⟩, fun _ _ _ _ _ _ us hl => match us, hl with | [_], _ => rfl⟩
theorem ck__law_left : FnC (fun i => (L[i]?).map (·.d.name)) (fun i => (gi[i]?).map (·.1)) e__law_left :=
  ⟨by decide +kernel, by decide +kernel, rfl, rfl, rfl, rfl, ⟨rfl, rfl⟩, fun _ _ _ _ _ _ us hl => match us, hl with | [_, _, _], _ => rfl⟩
theorem ck__law_flag : FnC (fun i => (L[i]?).map (·.d.name)) (fun i => (gi[i]?).map (·.1)) e__law_flag :=
  ⟨by decide +kernel, by decide +kernel, rfl, rfl, rfl, rfl, ⟨rfl, rfl⟩, fun _ _ _ _ _ _ us hl => match us, hl with | [_, _], _ => rfl⟩
theorem ck__law_drawn : FnC (fun i => (L[i]?).map (·.d.name)) (fun i => (gi[i]?).map (·.1)) e__law_drawn :=
  ⟨by decide +kernel, by decide +kernel, rfl, rfl, rfl, rfl, ⟨rfl, rfl⟩, fun _ _ _ _ _ _ us hl => match us, hl with | [_], _ => rfl⟩
theorem ck__law_spare : FnC (fun i => (L[i]?).map (·.d.name)) (fun i => (gi[i]?).map (·.1)) e__law_spare :=
  ⟨by decide +kernel, by decide +kernel, rfl, rfl, rfl, rfl, ⟨rfl, rfl⟩, fun _ _ _ _ _ _ us hl => match us, hl with | [_, _, _], _ => rfl⟩
theorem ck_law : FnC (fun i => (L[i]?).map (·.d.name)) (fun i => (gi[i]?).map (·.1)) e_law :=
  ⟨by decide +kernel, by decide +kernel, rfl, rfl, rfl, rfl, ⟨rfl, rfl⟩, fun _ _ _ _ _ _ us hl => match us, hl with | [_], _ => rfl⟩
theorem ck : ∀ e ∈ L, FnC (fun i => (L[i]?).map (·.d.name)) (fun i => (gi[i]?).map (·.1)) e :=
  all_cons ck_is_whole (all_cons ck_whole_in (all_cons ck_check_problem (all_cons ck_left_after (all_cons ck_subsets (all_cons ck_covers_all (all_cons ck_covers_of (all_cons ck_least_of (all_cons ck_is_picks (all_cons ck_is_cover_of (all_cons ck_is_cover (all_cons ck_least_covers (all_cons ck_can_spare (all_cons ck_minimal_covers (all_cons ck__law_mix (all_cons ck__law_pool (all_cons ck__law_sets (all_cons ck__law_picks (all_cons ck__law_left (all_cons ck__law_flag (all_cons ck__law_drawn (all_cons ck__law_spare (all_cons ck_law all_nil))))))))))))))))))))))
theorem pf_ok : ∀ f fd, P f = some fd → ∃ e, L[f]? = some e ∧ e.fd = fd := fun f fd h => by
  have h2 : (L.map (·.fd))[f]? = some fd := h
  rw [List.getElem?_map] at h2
  exact Option.map_eq_some_iff.mp h2
def loose0 : List Str := ["is_whole", "whole_in", "check_problem", "left_after", "subsets", "covers_all", "covers_of", "least_of", "is_picks", "is_cover_of", "is_cover", "least_covers", "can_spare", "minimal_covers", "_law_mix", "_law_pool", "_law_sets", "_law_picks", "_law_left", "_law_flag", "_law_drawn", "_law_spare", "SkerryError", "TooLarge", "MOST_THINGS", "MOST_SETS"]
abbrev loose : List Str := ["is_whole", "whole_in", "check_problem", "left_after", "subsets", "covers_all", "covers_of", "least_of", "is_picks", "is_cover_of", "is_cover", "least_covers", "can_spare", "minimal_covers", "_law_mix", "_law_pool", "_law_sets", "_law_picks", "_law_left", "_law_flag", "_law_drawn", "_law_spare", "SkerryError", "TooLarge", "MOST_THINGS", "MOST_SETS"]
abbrev fns : List He.DefD := L.map (·.d)
abbrev fas : List He.Fa := facts L gi
abbrev R : PySem.W.OpenRow := PySem.W.OpenLaw.row PySem.Challenge.rw_skerrylight_k59_minimal_covers
abbrev hk : PySem.W.Hook := He.hookD 4 fas fns
def ob (s : PySem.W.SharedT) : He.AlD := He.obsDG 4 fas fns (HandSHeadRun.getT s)
theorem ob_eq (s : PySem.W.SharedT) : ob s = hk.obs s.abs := He.obsDG_eq (HandSHeadRun.getT_eq s)
theorem top_run (w : World) : HandSHeadRun.RunEq R (PySem.W.view R.prog [30]) hk ob 4000 loose w := by
  intro os
  kernel_rfl
end P59
open PyProof.Rows PySem PySem.Calls PySem.W
theorem PySem.Challenge.cw_skerrylight_k59_minimal_covers_holds : PySem.Challenge.rw_skerrylight_k59_minimal_covers.Holds := by
  w_on; o_law
  refine HandSHeadRun.head_any (r := P59.R) (q := view P59.R.prog [30]) (H := P59.hk) (ob := P59.ob) (M := 4000) (loose := P59.loose) (d := HandSHeadRun.topDef P59.R.prog 30) (kwd := []) P59.ob_eq
    (by kernel_rfl) (fun s => by kernel_rfl) P59.top_run (by kernel_rfl) (by kernel_rfl) (by kernel_rfl) (by rfl) (by first | assumption | decide +kernel) (by decide +kernel) ⟨rfl, rfl, rfl, rfl, rfl, by decide +kernel⟩ ?hw ?hc
  case hw => w_witness2
  case hc =>
    refine L2.walk_ofE (l := PySem.Challenge.rw_skerrylight_k59_minimal_covers) (n := 63) (k := P59.deep + 8) (x := "script") (CX := SkB.anyCX PySem.Challenge.rw_skerrylight_k59_minimal_covers.prog) rfl (by decide) (by kernel_rfl) ⟨rfl, by decide, by decide⟩ ?F SkB.no_exc' 
    intro w mg fa h Y G hmg0
    obtain ⟨K, KX, c⟩ := Y
    have hmg : mg ("law" : PySem.Str) = some (.ref fa) := by
      have e : (HandSHeadRun.topDef P59.R.prog 30).name = ("law" : PySem.Str) := by kernel_rfl
      rw [← e]
      exact hmg0
    have O := SkB.pro_of (xc := fun _ => 0) (xf := fun _ => "") (Pf := P59.P) KX G c P59.ck P59.pf_ok
    obtain ⟨fd, sp, h1, h2, h3⟩ := SkB.law_fn (P := PySem.Challenge.rw_skerrylight_k59_minimal_covers.prog) (w := w) O P59.deep P59.n_law 63 P59.e_law rfl rfl hmg P59.answer
    exact ⟨K, fd, sp, KX, h1, h2, fun base _ _ => SkB.cx_any (h3 base)⟩
