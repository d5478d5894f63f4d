import PyProof.Rows.All
import Wide.All
import OpenK.AllK
import Wide.FinOn
import KE.KStateDown
import HandS.ForMost
import HandS.Gcd
import HandS.TupAny
import HandS.Style
import HandS.Wide
import HandS.Zip
import HandS.Rev
import HandS.RevTup
import HandS.SortInts
import HandS.IsInst
import HandS.OwnEq
import HandS.Defaults
import HandS.MakeKwOnly
import HandS.Exc
import HandS.ExcInit
import HandS.ExcOwn
import HandS.TryOnly
import HandS.WordsExc
import HandS.Head0
import HandS.Head1
import HandS.Head2
import HandS.HeadEnd
import HandS.HeadHook1
import HandS.HeadHook2
import KE.GoesMore
import KE.GoesZip
import HandS.HeadWalk
import HandS.Head3
import PySem.Challenge.RW_fourcords_k11_basis_exchange
set_option Elab.async false
set_option linter.all false
set_option maxRecDepth 100000
set_option maxHeartbeats 4000000
/-! A small language of expressions and statements over plain data, and its evaluator. -/
namespace Fc
open PySem (Str)
/-- plain data: lists and tuples by their items, an instance by its class, its attributes' numbers and values; scr: the script -/
inductive D where
  | non | bl (b : Bool) | int (i : Int) | str (s : Str)
  | tup (ds : List D) | lst (ds : List D) | scr (ns : List Int)
  | obj (c : Nat) (ks : List Nat) (ds : List D)
instance : Inhabited D := ⟨.non⟩
/-- a result, an exception of an own class, or nothing said -/
inductive R (α : Type) where
  | ok (a : α) | ex (c : Nat) (ds : List D) | no
instance {α : Type} : Inhabited (R α) := ⟨.no⟩
@[reducible] def R.bind {α β : Type} (x : R α) (f : α → R β) : R β := match x with
  | .ok a => f a
  | .ex c ds => .ex c ds
  | .no => .no
instance : Monad R where
  pure := .ok
  bind := R.bind
@[simp] theorem bind_ok {α β : Type} (a : α) (f : α → R β) : (R.ok a >>= f) = f a := rfl
@[simp] theorem bind_ex {α β : Type} (c : Nat) (ds : List D) (f : α → R β) : ((R.ex c ds : R α) >>= f) = R.ex c ds := rfl
@[simp] theorem bind_no {α β : Type} (f : α → R β) : ((R.no : R α) >>= f) = R.no := rfl
def R.noex {α : Type} : R α → R α
  | .ok a => .ok a
  | _ => .no
@[simp] theorem noex_ok {α : Type} (a : α) : (R.ok a).noex = R.ok a := rfl
def ofO {α : Type} : Option α → R α
  | some a => .ok a
  | none => .no
@[simp] theorem ofO_some {α : Type} (a : α) : ofO (some a) = R.ok a := rfl
@[simp] theorem ofO_none {α : Type} : ofO (none : Option α) = R.no := rfl

/-! ### expressions and statements -/
inductive Op where
  | add | sub | mul | fdiv | mod | pow
  deriving DecidableEq
inductive Cm where
  | lt | le | gt | ge | eq | ne | inn | nin
  deriving DecidableEq
/-- is None, is not None, is True, is not True -/
inductive Cs where
  | isN | notN | isT | notT
  deriving DecidableEq
inductive Bf where
  | len | gcd | abs | int | sum | all | any | tuple | list | min2 | max2 | sorted | lcm | maxL
  deriving DecidableEq
inductive Ty where
  | int | bool | list | tuple | cls (c : Nat)
  deriving DecidableEq
/-- targets of a for: a name's slot, a tuple of such -/
inductive Tg where
  | nm (i : Nat) | nil | cons (t ts : Tg)
  deriving DecidableEq
mutual
inductive E where
  | var (i : Nat) | int (i : Int) | bl (b : Bool) | non | str (s : Str)
  | bin (o : Op) (a b : E) | neg (a : E)
  | cmp (o : Cm) (a b : E) | cis (o : Cs) (a : E)
  | and_ (a b : E) | or_ (a b : E) | not_ (a : E) | ite (t a b : E)
  | ix (a i : E) | sl (a : E) (lo hi : Eo)
  | tup (es : Es) | lst (es : Es)
  | lc (vs : List Nat) (t : Tg) (it : It) (c : Eo) (e : E)
  | lc2 (vs vs1 : List Nat) (t : Tg) (it : It) (t1 : Tg) (it1 : It) (e : E)
  | call (f : Nat) (es : Es)
  | bi (b : Bf) (es : Es)
  | isi (a : E) (ty : List Ty)
  | fld (a : E) (k : Nat)
  | meth (a : E) (m : Nat) (es : Es)
  | mk (c : Nat) (es : Es) (kw : Eo)
inductive Es where
  | nil | cons (e : E) (es : Es)
inductive Eo where
  | none | some (e : E)
inductive It where
  | seq (e : E) | rng1 (a : E) | rng2 (a b : E) | enum (a : E) | zip (a b : E) | rev (a : E)
end
mutual
inductive S where
  | set (i k : Nat) (fz : List Nat) (e : E)
  | unp (t : Tg) (fz : List Nat) (e : E)
  | unpT (t : Tg) (fz : List Nat) (e : E) (ms : List Nat) (x : Nat)
  | par (i j : Nat) (fz : List Nat) (a b : E)
  | swap (x : Nat) (a b : E)
  | setix (x : Nat) (fz : List Nat) (i e : E)
  | setix2 (x : Nat) (fz : List Nat) (i j e : E)
  | app (x : Nat) (fz : List Nat) (e : E)
  | setf (k : Nat) (fz : List Nat) (e : E)
  | ret (k : Nat) (e : E)
  | retN
  | if_ (t : E) (a b : Ss)
  | for_ (t : Tg) (it : It) (fz fg : List Nat) (b : Ss)
  | whl (t : E) (fg : List Nat) (b : Ss)
  | brk | cnt | pass
  | rais (c : Nat) (es : Es)
  | exp (e : E)
  | trye (b : Ss) (c : Nat) (nm : Option Nat) (h : Ss)
inductive Ss where
  | nil | cons (s : S) (ss : Ss)
end
structure Def where
  np : Nat
  nl : Nat
  body : Ss
  init : Bool := false
  owns : List Nat := []
  rk : Nat := 0
/-- functions by number; methods by class and number; __init__ and the default of its one keyword-only parameter -/
structure Tab where
  fn : Nat → Option Def
  mt : Nat → Nat → Option Nat
  init : Nat → Option (Nat × Option D)
  exs : Nat → Nat → Bool

/-! ### operations on data -/
def LIM : Nat := 16777216
def mulOk (a b : Int) : Bool := decide (a.natAbs.log2 + b.natAbs.log2 < 100000000)
def divOk (b : Int) : Bool := decide (b.natAbs.log2 < 9000)
def binD (o : Op) (x y : D) : R D := match o, x, y with
  | .add, .int a, .int b => .ok (.int (a + b))
  | .add, .lst a, .lst b => if a.length + b.length ≤ LIM then .ok (.lst (a ++ b)) else .no
  | .sub, .int a, .int b => .ok (.int (a - b))
  | .mul, .int a, .int b => if mulOk a b then .ok (.int (a * b)) else .no
  | .mul, .lst a, .int k => if a.length * k.toNat ≤ LIM ∧ -(2 ^ 62) ≤ k ∧ k < 2 ^ 62 then .ok (.lst (List.replicate k.toNat a).flatten) else .no
  | .fdiv, .int a, .int b => if divOk b then (if 0 < b then .ok (.int (a / b)) else if b < 0 then .ok (.int (a.fdiv b)) else .no) else .no
  | .mod, .int a, .int b => if 0 < b then .ok (.int (a % b)) else if b < 0 then .ok (.int (a.fmod b)) else .no
  | .pow, .int a, .int b => if 0 ≤ b ∧ b ≤ 1000000 ∧ a.natAbs < 2 ^ 64 then .ok (.int (a ^ b.toNat)) else .no
  | _, _, _ => .no
mutual
def toP : Nat → D → Option PySem.PyData
  | _, .non => some .none
  | _, .bl b => some (.bool b)
  | _, .int i => some (.int i)
  | n + 1, .tup ds => (toPs n ds).map .tuple
  | n + 1, .lst ds => (toPs n ds).map .list
  | _, _ => none
def toPs : Nat → List D → Option (List PySem.PyData)
  | _, [] => some []
  | n, d :: ds => match toP n d with
    | some p => (match toPs n ds with
      | some ps => some (p :: ps)
      | none => none)
    | none => none
end
def eqD (x y : D) : R Bool := match toP 8 x with
  | some p => (match toP 8 y with
    | some q => .ok (PySem.PyData.eqv p q)
    | none => .no)
  | none => .no
def flatD : D → Option L2.V
  | .non => some .non
  | .bl b => some (.bl b)
  | .int i => some (.int i)
  | _ => none
def flatDs : List D → Option (List L2.V)
  | [] => some []
  | d :: ds => match flatD d with
    | some v => (match flatDs ds with
      | some vs => some (v :: vs)
      | none => none)
    | none => none
def itemsD : D → Option (List D)
  | .tup ds => some ds
  | .lst ds => some ds
  | .scr ns => some (ns.map .int)
  | _ => none
def inD (x y : D) : R Bool := match flatD x, y with
  | some v, .lst ds => (match flatDs ds with
    | some vs => .ok (L2.inV v vs)
    | none => .no)
  | some v, .tup ds => (match flatDs ds with
    | some vs => .ok (L2.inV v vs)
    | none => .no)
  | _, _ => .no
def cisD (o : Cs) (x : D) : R D := match o, x with
  | .isN, .non => .ok (.bl true)
  | .isN, _ => .ok (.bl false)
  | .notN, .non => .ok (.bl false)
  | .notN, _ => .ok (.bl true)
  | .isT, .bl b => .ok (.bl b)
  | .notT, .bl b => .ok (.bl (!b))
  | _, _ => .no
def intsD : List D → Option (List Int)
  | [] => some []
  | .int i :: ds => (match intsD ds with
    | some is => some (i :: is)
    | none => none)
  | _ :: _ => none
def blsD : List D → Option (List Bool)
  | [] => some []
  | .bl i :: ds => (match blsD ds with
    | some is => some (i :: is)
    | none => none)
  | _ :: _ => none
def ixD (x i : D) : R D := match i with
  | .int i => (match itemsD x with
    | some ds => ofO (L2.atI ds i)
    | none => .no)
  | _ => .no
def cutD (ds : List D) (lo hi : Option Int) : List D := (ds.drop (HT.sIx ds.length 0 lo)).take (HT.sIx ds.length ds.length hi - HT.sIx ds.length 0 lo)
def slD (x : D) (lo hi : Option Int) : R D := match x with
  | .lst ds => .ok (.lst (cutD ds lo hi))
  | .tup ds => .ok (.tup (cutD ds lo hi))
  | _ => .no
def insertI (x : Int) : List Int → List Int
  | [] => [x]
  | y :: ys => if x ≤ y then x :: y :: ys else y :: insertI x ys
def sortI : List Int → List Int
  | [] => []
  | x :: xs => insertI x (sortI xs)
def biD (b : Bf) (xs : List D) : R D := match b, xs with
  | .len, [x] => (match itemsD x with
    | some ds => .ok (.int ds.length)
    | none => .no)
  | .gcd, [.int a, .int b] => .ok (.int (Nat.gcd a.natAbs b.natAbs : Nat))
  | .abs, [.int a] => .ok (.int (if a < 0 then -a else a))
  | .int, [.int a] => .ok (.int a)
  | .int, [.bl b] => .ok (.int (if b then 1 else 0))
  | .sum, [.lst ds] => (match intsD ds with
    | some ns => .ok (.int ns.sum)
    | none => .no)
  | .all, [.lst ds] => (match blsD ds with
    | some bs => .ok (.bl (bs.all id))
    | none => .no)
  | .any, [.lst ds] => (match blsD ds with
    | some bs => .ok (.bl (bs.any id))
    | none => .no)
  | .tuple, [.lst ds] => .ok (.tup ds)
  | .tuple, [.tup ds] => .ok (.tup ds)
  | .list, [.lst ds] => .ok (.lst ds)
  | .list, [.tup ds] => .ok (.lst ds)
  | .min2, [.int a, .int b] => .ok (.int (if b < a then b else a))
  | .max2, [.int a, .int b] => .ok (.int (if b > a then b else a))
  | .sorted, [.lst ds] => (match intsD ds with
    | some ns => .ok (.lst ((sortI ns).map .int))
    | none => .no)
  | _, _ => .no
def isTy (x : D) : Ty → Option Bool
  | .int => (match x with | .int _ => some true | .bl _ => some true | .str _ => none | _ => some false)
  | .bool => (match x with | .bl _ => some true | .str _ => none | _ => some false)
  | .list => (match x with | .lst _ => some true | .scr _ => none | .str _ => none | _ => some false)
  | .tuple => (match x with | .tup _ => some true | .scr _ => none | .str _ => none | _ => some false)
  | .cls c => (match x with | .obj c' _ _ => some (c' == c) | .scr _ => none | .str _ => none | _ => some false)
def isTys (x : D) : List Ty → Option Bool
  | [] => some false
  | t :: ts => match isTy x t with
    | some true => some true
    | some false => isTys x ts
    | none => none
def getF : List Nat → List D → Nat → Option D
  | k' :: ks, d :: ds, k => if k' = k then some d else getF ks ds k
  | _, _, _ => none
/-- no list within, no instance of the class c0 -/
def noL (T : Tab) (cs : Option Nat) : D → Bool
  | .non => true
  | .bl _ => true
  | .int _ => true
  | .str _ => true
  | .scr _ => false
  | .tup ds => noLs ds
  | .obj c _ ds => (match cs with
    | none => true
    | some c0 => (T.init c0).isSome && ((T.init c).isSome && !(c == c0))) && noLs ds
  | .lst _ => false
where noLs : List D → Bool
  | [] => true
  | d :: ds => noL T cs d && noLs ds

/-! ### lists within data -/
mutual
/-- the same plain data -/
def eqP : D → D → Bool
  | .non, .non => true
  | .bl a, .bl b => a == b
  | .int a, .int b => a == b
  | .tup xs, .tup ys => eqPs xs ys
  | .lst xs, .lst ys => eqPs xs ys
  | _, _ => false
def eqPs : List D → List D → Bool
  | [], [] => true
  | x :: xs, y :: ys => eqP x y && eqPs xs ys
  | _, _ => false
end
mutual
/-- none, bools, ints, tuples and lists of these -/
def plB : D → Bool
  | .non => true
  | .bl _ => true
  | .int _ => true
  | .tup ds => plBs ds
  | .lst ds => plBs ds
  | _ => false
def plBs : List D → Bool
  | [] => true
  | d :: ds => plB d && plBs ds
end
mutual
/-- the list x may occur in d -/
def subB (x : D) : D → Bool
  | .tup ds => subBs x ds
  | .lst ds => eqP x (.lst ds) || subBs x ds
  | .scr _ => true
  | .obj _ _ ds => subBs x ds
  | _ => false
def subBs (x : D) : List D → Bool
  | [] => false
  | d :: ds => subB x d || subBs x ds
end
/-! ### slots -/
/-- the slots of a target -/
def tgS : Tg → List Nat
  | .nm i => [i]
  | .nil => []
  | .cons t ts => tgS t ++ tgS ts
abbrev Env := List (Option D)
/-- the slots whose list is the def's own, with the depth -/
abbrev Ow := List (Nat × Nat)
def wp : List Nat → Env → Env
  | [], s => s
  | v :: vs, s => (wp vs s).set v none
def asg : Tg → D → Env → R Env
  | .nm i, x, s => .ok (s.set i (some x))
  | .nil, .tup [], s => .ok s
  | .cons t ts, .tup (d :: ds), s => match asg t d s with
    | .ok s' => asg ts (.tup ds) s'
    | _ => .no
  | _, _, _ => .no
def dropO (fz : List Nat) (o : Ow) : Ow := o.filter fun p => !fz.contains p.1
def mapR (f : D → R (Option D)) : List D → R (List D)
  | [] => .ok []
  | x :: xs => match f x with
    | .ok o => (match mapR f xs with
      | .ok ys => .ok (match o with
        | some y => y :: ys
        | none => ys)
      | _ => .no)
    | _ => .no
/-- how a statement ends -/
inductive Fl where
  | nx (s : Env) (o : Ow) | bk (s : Env) (o : Ow) | ct (s : Env) (o : Ow) | rt (d : D)
def forR (f : D → Env → Ow → R Fl) : List D → Env → Ow → R Fl
  | [], s, o => .ok (.nx s o)
  | x :: xs, s, o => match f x s o with
    | .ok (.nx s' o') => forR f xs s' o'
    | .ok (.ct s' o') => forR f xs s' o'
    | .ok (.bk s' o') => .ok (.nx s' o')
    | .ok (.rt d) => .ok (.rt d)
    | .ex c ds => .ex c ds
    | .no => .no
def whlR (f : Env → Ow → R (Bool × Fl)) : Nat → Env → Ow → R Fl
  | 0, _, _ => .no
  | n + 1, s, o => match f s o with
    | .ok (false, r) => .ok r
    | .ok (true, .nx s' o') => whlR f n s' o'
    | .ok (true, .ct s' o') => whlR f n s' o'
    | .ok (true, .bk s' o') => .ok (.nx s' o')
    | .ok (true, .rt d) => .ok (.rt d)
    | .ex c ds => .ex c ds
    | .no => .no
/-- how fresh the value of an expression is: the depth to which its lists are new -/
def frk (T : Tab) : Nat → E → Nat
  | n, .lc _ _ _ _ e => match n with
    | 0 => 0
    | n + 1 => 1 + frk T n e
  | n, .lc2 _ _ _ _ _ _ _ => min n 1
  | n, .lst (.nil) => n
  | n, .lst _ => min n 1
  | n, .bi .list _ => min n 1
  | n, .bi .sorted _ => min n 1
  | n, .bin .mul (.lst _) _ => min n 1
  | n, .call f _ => (match T.fn f with
    | some d => if d.rk = n then n else 0
    | none => 0)
  | _, _ => 0
/-- an __init__'s class, while the instance is still its own -/
def selfC (s : Env) (o : Ow) : Option Nat := match o.lookup 0 with
  | some _ => clsOf s[0]?
  | none => none
where clsOf : Option (Option D) → Option Nat
  | some (some (.obj c _ _)) => some c
  | _ => none
/-- the value holds nothing that is the def's own -/
def fre (T : Tab) (cs : Option Nat) (e : E) (d : D) : Bool := noL T cs d || (Nat.ble 1 (frk T 1 e) && (match d with
  | .lst ds => noL.noLs T cs ds
  | _ => false))

section
variable (T : Tab) (F : Nat → List D → R D)
def opD (o : Op) (x y : D) : R D := match o, x, y with
  | .add, .obj c _ _, .obj c' _ _ => if c' = c then (match T.mt c 2 with
    | some f => F f [x, y]
    | none => .no) else .no
  | .sub, .obj c _ _, .obj c' _ _ => if c' = c then (match T.mt c 3 with
    | some f => F f [x, y]
    | none => .no) else .no
  | _, _, _ => binD o x y
def eqO (x y : D) : R D := match x, y with
  | .obj c _ _, .obj c' _ _ => if c' = c then (match T.mt c 0 with
    | some f => F f [x, y]
    | none => .no) else .no
  | _, _ => (match eqD x y with
    | .ok b => .ok (.bl b)
    | _ => .no)
def cmpD (o : Cm) (x y : D) : R D := match o, x, y with
  | .lt, .int a, .int b => .ok (.bl (decide (a < b)))
  | .le, .int a, .int b => .ok (.bl (decide (a ≤ b)))
  | .gt, .int a, .int b => .ok (.bl (decide (b < a)))
  | .ge, .int a, .int b => .ok (.bl (decide (b ≤ a)))
  | .eq, x, y => eqO T F x y
  | .ne, x, y => (match eqD x y with
    | .ok b => .ok (.bl (!b))
    | _ => .no)
  | .inn, x, y => (match inD x y with
    | .ok b => .ok (.bl b)
    | _ => .no)
  | .nin, x, y => (match inD x y with
    | .ok b => .ok (.bl (!b))
    | _ => .no)
  | _, _, _ => .no
def bfD (b : Bf) (xs : List D) : R D := match b, xs with
  | .len, [.obj c ks ds] => (match T.mt c 1 with
    | some f => (match F f [.obj c ks ds] with
      | .ok (.int n) => if 0 ≤ n ∧ n < 2 ^ 62 then .ok (.int n) else .no
      | .ok _ => .no
      | .ex c ds => .ex c ds
      | .no => .no)
    | none => .no)
  | _, _ => biD b xs
def mtD (m : Nat) (x : D) : R Nat := match x with
  | .obj c _ _ => ofO (T.mt c m)
  | _ => .no
def knT : Ty → Bool
  | .cls c => (T.init c).isSome
  | _ => true
def knD : D → Bool
  | .obj c _ _ => (T.init c).isSome
  | _ => true
def isiD (x : D) (ty : List Ty) : R D := if knD T x then (match isTys x ty with
  | some b => .ok (.bl b)
  | none => .no) else .no
def fldD (x : D) (k : Nat) : R D := match x with
  | .obj c ks ds => if (T.init c).isSome then ofO (getF ks ds k) else .no
  | _ => .no
mutual
def evE : E → Env → R D
  | .var i, s => (match s[i]? with
    | some (some d) => .ok d
    | _ => .no)
  | .int i, _ => .ok (.int i)
  | .bl b, _ => .ok (.bl b)
  | .non, _ => .ok .non
  | .str s, _ => .ok (.str s)
  | .bin o a b, s => do opD T F o (← evE a s) (← evE b s)
  | .neg a, s => do match ← evE a s with
    | .int i => .ok (.int (-i))
    | _ => .no
  | .cmp o a b, s => do cmpD T F o (← evE a s) (← evE b s)
  | .cis o a, s => do cisD o (← evE a s)
  | .and_ a b, s => do match ← evE a s with
    | .bl true => evE b s
    | .bl false => .ok (.bl false)
    | _ => .no
  | .or_ a b, s => do match ← evE a s with
    | .bl true => .ok (.bl true)
    | .bl false => evE b s
    | _ => .no
  | .not_ a, s => do match ← evE a s with
    | .bl b => .ok (.bl (!b))
    | _ => .no
  | .ite t a b, s => do match ← evE t s with
    | .bl true => evE a s
    | .bl false => evE b s
    | _ => .no
  | .ix a i, s => do ixD (← evE a s) (← evE i s)
  | .sl a lo hi, s => do
    let x ← evE a s
    let l ← evOi lo s
    let h ← evOi hi s
    slD x l h
  | .tup es, s => do .ok (.tup (← evEs es s))
  | .lst es, s => do .ok (.lst (← evEs es s))
  | .lc vs t it c e, s => do
    let xs ← evI it s
    let ys ← mapR (fun x => do
      let s' ← asg t x (wp vs s)
      match ← evC c s' with
        | true => do .ok (some (← evE e s'))
        | false => .ok none) xs
    .ok (.lst ys)
  | .lc2 vs vs1 t it t1 it1 e, s => do
    let xs ← evI it s
    let ys ← mapR (fun x => do
      let s' ← asg t x (wp vs s)
      let zs ← evI it1 s'
      let ws ← mapR (fun z => do
        let s2 ← asg t1 z (wp vs1 s')
        .ok (some (← evE e s2))) zs
      .ok (some (.lst ws))) xs
    match flatL ys with
      | some l => if l.length ≤ LIM then .ok (.lst l) else .no
      | none => .no
  | .call f es, s => (match T.fn f with
    | some _ => do F f (← evEs es s)
    | none => .no)
  | .bi b es, s => do bfD T F b (← evEs es s)
  | .isi a ty, s => if ty.all (knT T) then (do isiD T (← evE a s) ty) else .no
  | .fld a k, s => do fldD T (← evE a s) k
  | .meth a m es, s => do
    let x ← evE a s
    let f ← mtD T m x
    let xs ← evEs es s
    F f (x :: xs)
  | .mk c es kw, s => (match T.init c with
    | some (f, none) => (match kw with
      | .none => do
        let xs ← evEs es s
        F f (.obj c [] [] :: xs)
      | .some _ => .no)
    | some (f, some d) => do
      let xs ← evEs es s
      let k ← evOd kw s
      F f (.obj c [] [] :: (xs ++ [k.getD d]))
    | none => .no)
where flatL : List D → Option (List D)
  | [] => some []
  | .lst ds :: r => (match flatL r with
    | some l => some (ds ++ l)
    | none => none)
  | _ :: _ => none
def evEs : Es → Env → R (List D)
  | .nil, _ => .ok []
  | .cons e es, s => do
    let x ← evE e s
    let xs ← evEs es s
    .ok (x :: xs)
/-- an optional bound of a slice -/
def evOi : Eo → Env → R (Option Int)
  | .none, _ => .ok none
  | .some e, s => do match ← evE e s with
    | .int i => .ok (some i)
    | _ => .no
def evOd : Eo → Env → R (Option D)
  | .none, _ => .ok none
  | .some e, s => do .ok (some (← evE e s))
/-- a comprehension's test -/
def evC : Eo → Env → R Bool
  | .none, _ => .ok true
  | .some e, s => do match ← evE e s with
    | .bl b => .ok b
    | _ => .no
def evI : It → Env → R (List D)
  | .seq e, s => do match itemsD (← evE e s) with
    | some ds => .ok ds
    | none => .no
  | .rng1 a, s => do match ← evE a s with
    | .int n => if n ≤ LIM ∧ -(2 ^ 62) ≤ n then .ok ((List.range n.toNat).map fun (i : Nat) => .int i) else .no
    | _ => .no
  | .rng2 a b, s => do match ← evE a s, ← evE b s with
    | .int m, .int n => if -(2 ^ 60) ≤ m ∧ m ≤ 2 ^ 60 ∧ -(2 ^ 60) ≤ n ∧ n ≤ 2 ^ 60 ∧ n - m ≤ LIM then .ok ((List.range (n - m).toNat).map fun (i : Nat) => .int (m + i)) else .no
    | _, _ => .no
  | .enum a, s => do match itemsD (← evE a s) with
    | some ds => .ok (ds.zipIdx.map fun p => .tup [.int p.2, p.1])
    | none => .no
  | .zip a b, s => do match itemsD (← evE a s), itemsD (← evE b s) with
    | some xs, some ys => .ok ((xs.zip ys).map fun p => .tup [p.1, p.2])
    | _, _ => .no
  | .rev a, s => do match itemsD (← evE a s) with
    | some ds => .ok ds.reverse
    | none => .no
end
end
/-! ### statements -/
def WF : Nat := 10 ^ 12
/-- no own list of these slots occurs in the value -/
def offO (fz : List Nat) (d : D) (s : Env) (o : Ow) : Bool := fz.all fun i => match o.lookup i with
  | none => true
  | some 1 => (match s[i]? with
    | some (some (.lst ds)) => plB (.lst ds) && !subB (.lst ds) d
    | _ => false)
  | some _ => false
/-- behind a value: the slots in fz are no longer own, unless the value holds nothing own -/
def fzO (T : Tab) (fz : List Nat) (e : E) (d : D) (s : Env) (o : Ow) : Ow := if fre T (selfC s o) e d || offO fz d s o then o else dropO fz o
/-- the list in slot x, unpacked from what was read from the slots ms, is new and nowhere else -/
def newT (ms : List Nat) (x : Nat) (s s' : Env) : Bool := match s'[x]? with
  | some (some (.lst ds)) => plB (.lst ds) && !subBs (.lst ds) ds && (ms.all fun i => match s[i]? with
    | some (some d) => !subB (.lst ds) d
    | _ => true) && ((List.range s'.length).all fun j => j == x || (match s'[j]? with
    | some (some d) => !subB (.lst ds) d
    | _ => true))
  | _ => false
def setO (i k : Nat) (o : Ow) : Ow := if k = 0 then dropO [i] o else (i, k) :: dropO [i] o
/-- the slot's own list, of depth k -/
def ownL (k i : Nat) (s : Env) (o : Ow) : R (List D) := match o.lookup i, s[i]? with
  | some j, some (some (.lst ds)) => if k = j then .ok ds else .no
  | _, _ => .no
def putI (ds : List D) (i : Int) (d : D) : R (List D) := match L2.ixN ds.length i with
  | some j => .ok (ds.set j d)
  | none => .no
def wpF (fg : List Nat) : Fl → Fl
  | .nx s o => .nx (wp fg s) (dropO fg o)
  | .ct s o => .nx (wp fg s) (dropO fg o)
  | .bk s o => .bk (wp fg s) (dropO fg o)
  | .rt d => .rt d
section
variable (T : Tab) (F : Nat → List D → R D)
mutual
def exS : S → Env → Ow → R Fl
  | .set i k fz e, s, o => if Nat.ble k (frk T k e) && Nat.ble k 1 then (do
    let d ← evE T F e s
    .ok (.nx (s.set i (some d)) (setO i k (fzO T fz e d s o)))) else .no
  | .unp t fz e, s, o => do
    let d ← evE T F e s
    match asg t d s with
      | .ok s' => .ok (.nx s' (dropO (tgS t) (fzO T fz e d s o)))
      | _ => .no
  | .unpT t fz e ms x, s, o => do
    let d ← evE T F e s
    match asg t d s with
      | .ok s' => .ok (.nx s' (if newT ms x s s' then (x, 1) :: dropO (tgS t) (dropO fz o) else dropO (tgS t) (dropO fz o)))
      | _ => .no
  | .par i j fz a b, s, o => do
    let x ← evE T F a s
    let y ← evE T F b s
    .ok (.nx ((s.set i (some x)).set j (some y)) (dropO [i, j] (if noL T (selfC s o) x && noL T (selfC s o) y then o else dropO fz o)))
  | .swap x a b, s, o => (match evE T F a s, evE T F b s with
      | .ok (.int i), .ok (.int j) => do
        let ds ← ownL 1 x s o
        match L2.atI ds i, L2.atI ds j with
          | some u, some v => do
            let es ← putI ds i v
            let es ← putI es j u
            .ok (.nx (s.set x (some (.lst es))) o)
          | _, _ => .no
      | _, _ => .no)
  | .setix x fz i e, s, o => do
    let d ← evE T F e s
    match evE T F i s with
      | .ok (.int k) => do
        let ds ← ownL 1 x s (fzO T fz e d s o)
        let es ← putI ds k d
        .ok (.nx (s.set x (some (.lst es))) (fzO T fz e d s o))
      | _ => .no
  | .setix2 x fz i j e, s, o => do
    let d ← evE T F e s
    match evE T F i s, evE T F j s with
      | .ok (.int k), .ok (.int l) => do
        let ds ← ownL 2 x s (fzO T fz e d s o)
        match L2.atI ds k with
          | some (.lst es) => do
            let es' ← putI es l d
            let ds' ← putI ds k (.lst es')
            .ok (.nx (s.set x (some (.lst ds'))) (fzO T fz e d s o))
          | _ => .no
      | _, _ => .no
  | .app x fz e, s, o => do
    let _ ← ownL 1 x s o
    let d ← evE T F e s
    let ds ← ownL 1 x s (fzO T fz e d s o)
    if Nat.blt ds.length LIM then .ok (.nx (s.set x (some (.lst (ds ++ [d])))) (fzO T fz e d s o)) else .no
  | .setf k fz e, s, o => do
    let d ← evE T F e s
    match (fzO T fz e d s o).lookup 0, s with
      | some _, some (.obj c ks ds) :: r => if ks.contains k || !(Nat.blt ks.length 100) || (T.init c).isNone then .no else .ok (.nx (some (.obj c (ks ++ [k]) (ds ++ [d])) :: r) (fzO T fz e d s o))
      | _, _ => .no
  | .ret k e, s, o => do
    let d ← evE T F e s
    if k = 0 then .ok (.rt d) else match e with
      | .var i => (match o.lookup i, d with
        | some j, .lst _ => if k = j then .ok (.rt d) else .no
        | _, _ => .no)
      | e => if Nat.ble k (frk T k e) && Nat.ble k 1 then .ok (.rt d) else .no
  | .retN, _, _ => .ok (.rt .non)
  | .if_ t a b, s, o => do match ← evE T F t s with
    | .bl true => exSs a s o
    | .bl false => exSs b s o
    | _ => .no
  | .for_ t it fz fg b, s, o => do
    let xs ← evI T F it s
    forR (fun x s o => match asg t x s with
      | .ok s' => do
        let r ← exSs b s' (dropO (tgS t) o)
        .ok (wpF fg r)
      | _ => .no) xs (wp fg s) (dropO fg (dropO fz o))
  | .whl t fg b, s, o => whlR (fun s o => do match ← evE T F t s with
      | .bl true => do
        let r ← exSs b s o
        .ok (true, wpF fg r)
      | .bl false => .ok (false, .nx s o)
      | _ => .no) WF (wp fg s) (dropO fg o)
  | .brk, s, o => .ok (.bk s o)
  | .cnt, s, o => .ok (.ct s o)
  | .pass, s, o => .ok (.nx s o)
  | .rais _ _, _, _ => .no
  | .exp e, s, o => do
    let _ ← evE T F e s
    .ok (.nx s o)
  | .trye _ _ _ _, _, _ => .no
def exSs : Ss → Env → Ow → R Fl
  | .nil, s, o => .ok (.nx s o)
  | .cons st r, s, o => match exS st s o with
    | .ok (.nx s' o') => exSs r s' o'
    | .ok f => .ok f
    | .ex c ds => .ex c ds
    | .no => .no
end
/-- how a def's body, an __init__'s body ends -/
def endF (rk : Nat) : R Fl → R D
  | .ok (.rt v) => .ok v
  | .ok (.nx _ _) => if rk = 0 then .ok .non else .no
  | .ok _ => .no
  | .ex c ds => .ex c ds
  | .no => .no
def endI : R Fl → R D
  | .ok (.nx (some (.obj c ks ds) :: _) o) => if (o.lookup 0).isSome then .ok (.obj c ks ds) else .no
  | .ok _ => .no
  | .ex c ds => .ex c ds
  | .no => .no
def inS (d : Def) (xs : List D) : Env := xs.map some ++ List.replicate (d.nl - d.np) none
/-- a def, called -/
def runDef (d : Def) (xs : List D) : R D := if xs.length = d.np then
  (match d.init with
    | false => endF d.rk (exSs T F d.body (inS d xs) [])
    | true => endI (exSs T F d.body (inS d xs) [(0, 1)])) else .no
end
def call (T : Tab) : Nat → Nat → List D → R D
  | 0, _, _ => .no
  | n + 1, f, xs => match T.fn f with
    | some d => runDef T (call T n) d xs
    | none => .no
end Fc

set_option Elab.async false
set_option linter.all false
set_option maxRecDepth 100000
set_option maxHeartbeats 4000000
namespace Fc
open PySem PySem.Spec PyProof.Rows L2

/-! ### names of the text -/
structure Nm where
  at_ : Nat → Str × Option Str
  ps : Nat → List Str
  cl : Nat → Str
  fd : Nat → Str
  mt : Nat → Str
  kw : Nat → Str
  frees : List Str
  nf : Nat
  nm : Nat
/-- the attributes of an instance, by their numbers -/
def Nm.Nms (M : Nm) (fs : List (Str × V)) (ks : List Nat) : Prop := fs.map (·.1) = ks.map M.fd ∧ ∀ k ∈ ks, k < M.nf
def Nm.C (M : Nm) (K : PySem.W.Frag) (c : Nat) : Addr := He.ga K (M.cl c)

/-! ### what represents data, in a heap G of things that stay -/
mutual
inductive Rep (M : Nm) (K : PySem.W.Frag) (G : Hp) : V → D → Prop
  | non : Rep M K G .non .non
  | bl (b : Bool) : Rep M K G (.bl b) (.bl b)
  | int (i : Int) : Rep M K G (.int i) (.int i)
  | str (s : Str) : Rep M K G (.str s) (.str s)
  | tup {a : Addr} {vs : List V} {ds : List D} : G a = some (.tup vs) → Reps M K G vs ds → Rep M K G (.ref a) (.tup ds)
  | lst {a : Addr} {vs : List V} {ds : List D} : G a = some (.lst vs) → Reps M K G vs ds → Rep M K G (.ref a) (.lst ds)
  | scr {a : Addr} {ns : List Int} : SqL K G a (ns.map V.int) → Rep M K G (.ref a) (.scr ns)
  | obj {a dx : Addr} {fs : List (Str × V)} {c : Nat} {ks : List Nat} {ds : List D} : G a = some (.ins (M.C K c) dx fs) → M.Nms fs ks → Reps M K G (fs.map (·.2)) ds → Rep M K G (.ref a) (.obj c ks ds)
inductive Reps (M : Nm) (K : PySem.W.Frag) (G : Hp) : List V → List D → Prop
  | nil : Reps M K G [] []
  | cons {v : V} {vs : List V} {d : D} {ds : List D} : Rep M K G v d → Reps M K G vs ds → Reps M K G (v :: vs) (d :: ds)
end
def Sub (G H : Hp) : Prop := ∀ a o, G a = some o → H a = some o
theorem Sub.refl (G : Hp) : Sub G G := fun _ _ h => h
theorem Sub.trans {G H I : Hp} (a : Sub G H) (b : Sub H I) : Sub G I := fun x o h => b x o (a x o h)
theorem sub_rd {G H : Hp} {a : Addr} {u : HO} (e : Sub G H) (h : Rd G a u) : Rd H a u := by
  rcases h with h | ⟨o, h⟩
  · exact Or.inl (e a _ h)
  · exact Or.inr ⟨o, e a _ h⟩
theorem sub_l {K : PySem.W.Frag} {G H : Hp} {a : Addr} {xs : List V} (e : Sub G H) (h : SqL K G a xs) : SqL K H a xs := by
  rcases h with h | h
  · exact Or.inl (sub_rd e h)
  · exact Or.inr h
section
variable {M : Nm} {K : PySem.W.Frag} {G G' H H' : Hp}
mutual
theorem Rep.mono (e : Sub G G') : ∀ {v : V} {d : D}, Rep M K G v d → Rep M K G' v d
  | _, _, .non => .non
  | _, _, .bl b => .bl b
  | _, _, .int i => .int i
  | _, _, .str s => .str s
  | _, _, .tup h r => .tup (e _ _ h) (Reps.mono e r)
  | _, _, .lst h r => .lst (e _ _ h) (Reps.mono e r)
  | _, _, .scr h => .scr (sub_l e h)
  | _, _, .obj h n r => .obj (e _ _ h) n (Reps.mono e r)
theorem Reps.mono (e : Sub G G') : ∀ {vs : List V} {ds : List D}, Reps M K G vs ds → Reps M K G' vs ds
  | _, _, .nil => .nil
  | _, _, .cons h r => .cons (Rep.mono e h) (Reps.mono e r)
end
theorem Reps.length : ∀ {vs : List V} {ds : List D}, Reps M K G vs ds → vs.length = ds.length
  | _, _, .nil => rfl
  | _, _, .cons _ r => congrArg Nat.succ (Reps.length r)
theorem Reps.get : ∀ {vs : List V} {ds : List D} {i : Nat} {d : D}, Reps M K G vs ds → ds[i]? = some d → ∃ v, vs[i]? = some v ∧ Rep M K G v d
  | _, _, _, _, .nil, e => by simp at e
  | _, _, 0, _, .cons r _, e => by simp at e; subst e; exact ⟨_, rfl, r⟩
  | _, _, i + 1, _, .cons _ t, e => by
    obtain ⟨v, h1, h2⟩ := Reps.get (i := i) t (by simpa using e)
    exact ⟨v, by simpa using h1, h2⟩
theorem Reps.getV : ∀ {vs : List V} {ds : List D} {i : Nat} {v : V}, Reps M K G vs ds → vs[i]? = some v → ∃ d, ds[i]? = some d ∧ Rep M K G v d
  | _, _, _, _, .nil, e => by simp at e
  | _, _, 0, _, .cons r _, e => by simp at e; subst e; exact ⟨_, rfl, r⟩
  | _, _, i + 1, _, .cons _ t, e => by
    obtain ⟨v, h1, h2⟩ := Reps.getV (i := i) t (by simpa using e)
    exact ⟨v, by simpa using h1, h2⟩
theorem Reps.append : ∀ {vs ws : List V} {ds es : List D}, Reps M K G vs ds → Reps M K G ws es → Reps M K G (vs ++ ws) (ds ++ es)
  | _, _, _, _, .nil, s => s
  | _, _, _, _, .cons r t, s => .cons r (Reps.append t s)
theorem Reps.take : ∀ {vs : List V} {ds : List D} (n : Nat), Reps M K G vs ds → Reps M K G (vs.take n) (ds.take n)
  | _, _, 0, _ => .nil
  | _, _, _ + 1, .nil => .nil
  | _, _, n + 1, .cons r t => .cons r (Reps.take n t)
theorem Reps.drop : ∀ {vs : List V} {ds : List D} (n : Nat), Reps M K G vs ds → Reps M K G (vs.drop n) (ds.drop n)
  | _, _, 0, r => r
  | _, _, _ + 1, .nil => .nil
  | _, _, n + 1, .cons _ t => Reps.drop n t
theorem Reps.set {v : V} {d : D} (r : Rep M K G v d) : ∀ {vs : List V} {ds : List D} (i : Nat), Reps M K G vs ds → Reps M K G (vs.set i v) (ds.set i d)
  | _, _, _, .nil => .nil
  | _, _, 0, .cons _ t => .cons r t
  | _, _, i + 1, .cons q t => .cons q (Reps.set r i t)
theorem Reps.rep {vs : List V} {ds : List D} (h : Reps M K G vs ds) : ∀ k : Nat, Reps M K G (List.replicate k vs).flatten (List.replicate k ds).flatten
  | 0 => .nil
  | k + 1 => by
    rw [List.replicate_succ, List.replicate_succ, List.flatten_cons, List.flatten_cons]
    exact h.append (Reps.rep h k)
theorem Reps.reverse : ∀ {vs : List V} {ds : List D}, Reps M K G vs ds → Reps M K G vs.reverse ds.reverse
  | _, _, .nil => .nil
  | _, _, .cons r t => by
    rw [List.reverse_cons, List.reverse_cons]
    exact (Reps.reverse t).append (.cons r .nil)
theorem Reps.ints : ∀ (ns : List Int), Reps M K G (ns.map V.int) (ns.map D.int)
  | [] => .nil
  | n :: ns => .cons (.int n) (Reps.ints ns)
theorem Rep.toInt {v : V} {i : Int} (h : Rep M K G v (.int i)) : v = .int i := by cases h; rfl
theorem Rep.toBl {v : V} {i : Bool} (h : Rep M K G v (.bl i)) : v = .bl i := by cases h; rfl
theorem Rep.toNon {v : V} (h : Rep M K G v .non) : v = .non := by cases h; rfl
theorem Rep.toStr {v : V} {s : Str} (h : Rep M K G v (.str s)) : v = .str s := by cases h; rfl
theorem Reps.intsD : ∀ {vs : List V} {ds : List D} {ns : List Int}, Reps M K G vs ds → Fc.intsD ds = some ns → vs = ns.map V.int
  | _, _, _, .nil, e => by cases e; rfl
  | _, _, _, .cons (ds := dd) r t, e => by
    cases r <;> try (cases e; done)
    rename_i i
    cases q : Fc.intsD dd with
    | none => simp [Fc.intsD, q] at e
    | some is =>
      simp [Fc.intsD, q] at e
      subst e
      rw [Reps.intsD t q]; rfl
theorem Reps.blsD : ∀ {vs : List V} {ds : List D} {ns : List Bool}, Reps M K G vs ds → Fc.blsD ds = some ns → vs = ns.map V.bl
  | _, _, _, .nil, e => by cases e; rfl
  | _, _, _, .cons (ds := dd) r t, e => by
    cases r <;> try (cases e; done)
    rename_i i
    cases q : Fc.blsD dd with
    | none => simp [Fc.blsD, q] at e
    | some is =>
      simp [Fc.blsD, q] at e
      subst e
      rw [Reps.blsD t q]; rfl
/-- the heap of the things that stay, grown by new things -/
structure Grow (H G H' G' : Hp) : Prop where
  ext : Sub H H'
  sub : Sub G G'
  into : Sub G' H'
  new : ∀ a o, H a = some o → G' a = G a
theorem Grow.refl (h : Sub G H) : Grow H G H G := ⟨Sub.refl _, Sub.refl _, h, fun _ _ _ => rfl⟩
theorem Grow.trans {H2 G2 : Hp} (a : Grow H G H' G') (b : Grow H' G' H2 G2) : Grow H G H2 G2 :=
  ⟨a.ext.trans b.ext, a.sub.trans b.sub, b.into, fun x o h => (b.new x o (a.ext x o h)).trans (a.new x o h)⟩
theorem Grow.laid {p : Addr} {o : HO} (h : Sub G H) (n : H p = none) : Grow H G (upd H p o) (upd G p o) := by
  have gn : G p = none := by
    cases q : G p with
    | none => rfl
    | some u => have := h _ _ q; rw [n] at this; cases this
  refine ⟨fun a u e => ?_, fun a u e => ?_, fun a u e => ?_, fun a u e => ?_⟩
  · rw [upd_ne (ne_of_none e n)]; exact e
  · rw [upd_ne (ne_of_none e gn)]; exact e
  · by_cases hp : a = p
    · subst hp; rw [upd_same] at e ⊢; exact e
    · rw [upd_ne hp] at e ⊢; exact h _ _ e
  · rw [upd_ne (ne_of_none e n)]
end
/-! ### what an expression's result leaves -/
/-- an exception of a class of ours -/
def RepX (M : Nm) (K : PySem.W.Frag) (G H : Hp) (cls : Value) (d : Option Addr) (c : Nat) (ds : List D) : Prop :=
  cls = .ref (M.C K c) ∧ ((ds = [] ∧ d = none) ∨ ∃ dd fs, d = some dd ∧ H dd = some (.xd fs) ∧ Reps M K G (fs.map (·.2)) ds)
def Out (M : Nm) (K : PySem.W.Frag) (W : XK) (H G : Hp) (Q : VK) : R D → Prop
  | .ok d => ∀ v H' G', Grow H G H' G' → Rep M K G' v d → Q v H'
  | .ex c ds => ∀ cls d H' G', Grow H G H' G' → RepX M K G' H' cls d c ds → W cls d H'
  | .no => False
/-- the slots that an expression names hold what is said -/
structure Vw (M : Nm) (K : PySem.W.Frag) (ms : List Nat) (G : Hp) (σ : L2.St) (s : Env) : Prop where
  len : s.length = σ.length
  at_ : ∀ i ∈ ms, ∀ d, s[i]? = some (some d) → ∃ v, σ[i]? = some (some v) ∧ Rep M K G v d
theorem Vw.mono {M : Nm} {K : PySem.W.Frag} {ms ms' : List Nat} {G G' : Hp} {σ : L2.St} {s : Env} (h : Vw M K ms G σ s) (e : Sub G G') (hm : ∀ i ∈ ms', i ∈ ms) : Vw M K ms' G' σ s := ⟨h.len, fun i hi d hd =>
  let ⟨v, h1, h2⟩ := h.at_ i (hm i hi) d hd
  ⟨v, h1, h2.mono e⟩⟩
mutual
def mnE : E → List Nat
  | .var i => [i]
  | .int _ => []
  | .bl _ => []
  | .non => []
  | .str _ => []
  | .bin _ a b => mnE a ++ mnE b
  | .neg a => mnE a
  | .cmp _ a b => mnE a ++ mnE b
  | .cis _ a => mnE a
  | .and_ a b => mnE a ++ mnE b
  | .or_ a b => mnE a ++ mnE b
  | .not_ a => mnE a
  | .ite t a b => mnE t ++ (mnE a ++ mnE b)
  | .ix a i => mnE a ++ mnE i
  | .sl a lo hi => mnE a ++ (mnO lo ++ mnO hi)
  | .tup es => mnEs es
  | .lst es => mnEs es
  | .lc _ _ it c e => mnI it ++ (mnO c ++ mnE e)
  | .lc2 _ _ _ it _ it1 e => mnI it ++ (mnI it1 ++ mnE e)
  | .call _ es => mnEs es
  | .bi _ es => mnEs es
  | .isi a _ => mnE a
  | .fld a _ => mnE a
  | .meth a _ es => mnE a ++ mnEs es
  | .mk _ es kw => mnEs es ++ mnO kw
def mnEs : Es → List Nat
  | .nil => []
  | .cons e es => mnE e ++ mnEs es
def mnO : Eo → List Nat
  | .none => []
  | .some e => mnE e
def mnI : It → List Nat
  | .seq e => mnE e
  | .rng1 a => mnE a
  | .rng2 a b => mnE a ++ mnE b
  | .enum a => mnE a
  | .zip a b => mnE a ++ mnE b
  | .rev a => mnE a
end
/-! ### the readings -/
section
variable (T : Tab) (F : Nat → List D → R D) (M : Nm) (K : PySem.W.Frag) (W : XK)
def tE (e : E) : TE := fun σ H Q => ∃ (G : Hp) (s : Env), Sub G H ∧ Vw M K (mnE e) G σ s ∧ Out M K W H G Q (evE T F e s)
def OutL (H G : Hp) (Q : List V → Hp → Prop) : R (List D) → Prop
  | .ok ds => ∀ vs H' G', Grow H G H' G' → Reps M K G' vs ds → Q vs H'
  | .ex c ds => ∀ cls d H' G', Grow H G H' G' → RepX M K G' H' cls d c ds → W cls d H'
  | .no => False
def tEs (es : Es) : TA := fun σ H Q => ∃ (G : Hp) (s : Env), Sub G H ∧ Vw M K (mnEs es) G σ s ∧ OutL M K W H G Q (evEs T F es s)
def OutB (H G : Hp) (Q : Bool → Hp → Prop) : R D → Prop
  | .ok d => match d with
    | .bl b => ∀ H' G', Grow H G H' G' → Q b H'
    | _ => False
  | .ex c ds => ∀ cls d H' G', Grow H G H' G' → RepX M K G' H' cls d c ds → W cls d H'
  | .no => False
def tT (e : E) : TT := fun σ H Q => ∃ (G : Hp) (s : Env), Sub G H ∧ Vw M K (mnE e) G σ s ∧ OutB M K W H G Q (evE T F e s)
/-- a walk over these items -/
structure JOk (J : L2.It) (xs : List D) (G : Hp) : Prop where
  go : ∀ i H G', Sub G G' → Sub G' H → i < xs.length → J.go i H
  yld : ∀ i H G' x H', Sub G G' → Sub G' H → i < xs.length → J.yld i H x H' → ∃ G2 d, Grow H G' H' G2 ∧ xs[i]? = some d ∧ Rep M K G2 x d
  stop : ∀ H G', Sub G G' → Sub G' H → J.stop xs.length H
def OutJ (H G : Hp) (Q : L2.It → Hp → Prop) : R (List D) → Prop
  | .ok xs => ∀ J H' G', Grow H G H' G' → JOk M K J xs G' → xs.length ≤ LIM → Q J H'
  | .ex c ds => ∀ cls d H' G', Grow H G H' G' → RepX M K G' H' cls d c ds → W cls d H'
  | .no => False
def tI (it : It) : TI := fun σ H Q => ∃ (G : Hp) (s : Env), Sub G H ∧ Vw M K (mnI it) G σ s ∧ OutJ M K W H G Q (evI T F it s)
end
/-- what a store into a target does -/
structure AsgRel (M : Nm) (K : PySem.W.Frag) (t : Tg) (d : D) (G : Hp) (σ σ' : L2.St) : Prop where
  len : σ'.length = σ.length
  out : ∀ i, i ∉ tgS t → σ'[i]? = σ[i]?
  vw : ∀ ms s s', asg t d s = .ok s' → Vw M K ms G σ s → Vw M K (ms ++ tgS t) G σ' s'
def tTg (M : Nm) (K : PySem.W.Frag) (t : Tg) : TG := fun x σ H Q => ∃ (G : Hp) (d : D), Sub G H ∧ Rep M K G x d ∧ (∃ s s', asg t d s = .ok s') ∧ ∀ σ', AsgRel M K t d G σ σ' → Q σ' H
def tTgs (M : Nm) (K : PySem.W.Frag) (t : Tg) : TGs := fun xs σ H Q => ∃ (G : Hp) (ds : List D), Sub G H ∧ Reps M K G xs ds ∧ (∃ s s', asg t (.tup ds) s = .ok s') ∧ ∀ σ', AsgRel M K t (.tup ds) G σ σ' → Q σ' H
end Fc
namespace Fc
open PySem PySem.Spec PyProof.Rows L2
/-! ### lists that do not occur -/
mutual
theorem eqP_refl : ∀ d : D, plB d = true → eqP d d = true
  | .non, _ => rfl
  | .bl b, _ => by show (b == b) = true; exact beq_self_eq_true b
  | .int b, _ => by show (b == b) = true; exact beq_self_eq_true b
  | .tup ds, h => eqPs_refl ds h
  | .lst ds, h => eqPs_refl ds h
  | .str _, h => by cases h
  | .scr _, h => by cases h
  | .obj _ _ _, h => by cases h
theorem eqPs_refl : ∀ ds : List D, plBs ds = true → eqPs ds ds = true
  | [], _ => rfl
  | d :: ds, h => by
    have h : (plB d && plBs ds) = true := h
    rw [Bool.and_eq_true] at h
    show (eqP d d && eqPs ds ds) = true
    rw [eqP_refl d h.1, eqPs_refl ds h.2]; rfl
end
theorem subB_or {a b : Bool} (h : (a || b) = false) : a = false ∧ b = false := by
  cases a <;> cases b <;> first | exact ⟨rfl, rfl⟩ | cases h
section
variable {M : Nm} {K : PySem.W.Frag} {G G' H : Hp}
mutual
/-- plain data are told by the heap -/
theorem Rep.uniq {y : D} : ∀ {v : V} {d d' : D}, Rep M K G v d → plB d = true → Rep M K G v d' → subB y d' = false → d = d'
  | _, _, _, .non, _, r, _ => by cases r; rfl
  | _, _, _, .bl b, _, r, _ => by cases r; rfl
  | _, _, _, .int b, _, r, _ => by cases r; rfl
  | _, _, _, .str b, h, _, _ => by cases h
  | _, _, _, .tup h r, hp, r', hs => by
    cases r' with
    | tup h2 r2 =>
      rw [h] at h2
      have e := Option.some.inj h2
      injection e with e
      subst e
      exact congrArg D.tup (Reps.uniq r hp r2 hs)
    | lst h2 r2 => rw [h] at h2; cases h2
    | obj h2 _ _ => rw [h] at h2; cases h2
    | scr h2 => cases hs
  | _, _, _, .lst h r, hp, r', hs => by
    cases r' with
    | tup h2 r2 => rw [h] at h2; cases h2
    | lst h2 r2 =>
      rw [h] at h2
      have e := Option.some.inj h2
      injection e with e
      subst e
      exact congrArg D.lst (Reps.uniq r hp r2 (subB_or hs).2)
    | obj h2 _ _ => rw [h] at h2; cases h2
    | scr h2 => cases hs
  | _, _, _, .scr _, h, _, _ => by cases h
  | _, _, _, .obj _ _ _, h, _, _ => by cases h
theorem Reps.uniq {y : D} : ∀ {vs : List V} {ds ds' : List D}, Reps M K G vs ds → plBs ds = true → Reps M K G vs ds' → subBs y ds' = false → ds = ds'
  | _, _, _, .nil, _, r, _ => by cases r; rfl
  | _, _, _, .cons (d := d) (ds := ds) h r, hp, r', hs => by
    cases r' with
    | cons h2 r2 =>
      have hp : (plB d && plBs ds) = true := hp
      rw [Bool.and_eq_true] at hp
      obtain ⟨s1, s2⟩ := subB_or hs
      rw [Rep.uniq h hp.1 h2 s1, Reps.uniq r hp.2 r2 s2]
end
open Classical in
/-- the heap without some addresses -/
noncomputable def rmG (G : Hp) (P : Addr → Prop) : Hp := fun p => if P p then none else G p
theorem rmG_in {P : Addr → Prop} {p : Addr} (h : P p) : rmG G P p = none := if_pos h
theorem rmG_out {P : Addr → Prop} {p : Addr} (h : ¬ P p) : rmG G P p = G p := if_neg h
mutual
/-- data without the lists at these addresses -/
theorem Rep.off {P : Addr → Prop} {Y : Addr → List D} (hY : ∀ p, P p → ∃ vs, G p = some (.lst vs) ∧ Reps M K G vs (Y p) ∧ plB (.lst (Y p)) = true) : ∀ {v : V} {d : D}, Rep M K G v d → (∀ p, P p → subB (.lst (Y p)) d = false) → Rep M K (rmG G P) v d
  | _, _, .non, _ => .non
  | _, _, .bl b, _ => .bl b
  | _, _, .int b, _ => .int b
  | _, _, .str b, _ => .str b
  | _, _, .tup (a := a) h r, hs => by
    have hn : ¬ P a := fun hp => by
      obtain ⟨vs, e, _⟩ := hY a hp
      rw [h] at e; cases e
    exact .tup (by rw [rmG_out hn]; exact h) (Reps.off hY r hs)
  | _, _, .lst (a := a) (ds := ds) h r, hs => by
    have hn : ¬ P a := fun hp => by
      obtain ⟨vs, e, r2, pl⟩ := hY a hp
      rw [h] at e
      have e := Option.some.inj e
      injection e with e
      subst e
      obtain ⟨s1, s2⟩ := subB_or (hs a hp)
      have := Reps.uniq r2 pl r s2
      rw [← this, eqP_refl _ pl] at s1
      cases s1
    exact .lst (by rw [rmG_out hn]; exact h) (Reps.off hY r fun p hp => (subB_or (hs p hp)).2)
  | _, _, .scr (a := a) h, hs => by
    by_cases hp : P a
    · cases hs a hp
    · exact .scr (by
        rcases h with h | h
        · refine .inl ?_
          rcases h with h | ⟨o, h⟩
          · exact .inl (by rw [rmG_out hp]; exact h)
          · exact .inr ⟨o, by rw [rmG_out hp]; exact h⟩
        · exact .inr h)
  | _, _, .obj (a := a) h n r, hs => by
    have hn : ¬ P a := fun hp => by
      obtain ⟨vs, e, _⟩ := hY a hp
      rw [h] at e; cases e
    exact .obj (by rw [rmG_out hn]; exact h) n (Reps.off hY r hs)
theorem Reps.off {P : Addr → Prop} {Y : Addr → List D} (hY : ∀ p, P p → ∃ vs, G p = some (.lst vs) ∧ Reps M K G vs (Y p) ∧ plB (.lst (Y p)) = true) : ∀ {vs : List V} {ds : List D}, Reps M K G vs ds → (∀ p, P p → subBs (.lst (Y p)) ds = false) → Reps M K (rmG G P) vs ds
  | _, _, .nil, _ => .nil
  | _, _, .cons h r, hs => .cons (Rep.off hY h fun p hp => (subB_or (hs p hp)).1) (Reps.off hY r fun p hp => (subB_or (hs p hp)).2)
end
mutual
/-- what data need of the heap -/
theorem Rep.least {y0 : D} : ∀ {v : V} {d : D}, Rep M K G v d → subB y0 d = false → ∃ S : Addr → Prop, (∀ G', (∀ p, S p → G' p = G p) → Rep M K G' v d) ∧ ∀ p, S p → ∀ vs, G p = some (.lst vs) → ∃ x, (∀ G', (∀ p, S p → G' p = G p) → Reps M K G' vs x) ∧ ∀ y, subB y d = false → eqP y (.lst x) = false ∧ subBs y x = false
  | _, _, .non, _ => ⟨fun _ => False, fun _ _ => .non, fun _ h => h.elim⟩
  | _, _, .bl b, _ => ⟨fun _ => False, fun _ _ => .bl b, fun _ h => h.elim⟩
  | _, _, .int b, _ => ⟨fun _ => False, fun _ _ => .int b, fun _ h => h.elim⟩
  | _, _, .str b, _ => ⟨fun _ => False, fun _ _ => .str b, fun _ h => h.elim⟩
  | _, _, .tup (a := a) (vs := vs) (ds := ds) h r, hs => by
    obtain ⟨S, s1, s2⟩ := Reps.least r hs
    refine ⟨fun p => p = a ∨ S p, fun G' e => .tup ((e a (.inl rfl)).trans h) (s1 G' fun p hp => e p (.inr hp)), fun p hp ws hw => ?_⟩
    rcases hp with rfl | hp
    · rw [h] at hw; cases hw
    · obtain ⟨x, x1, x2⟩ := s2 p hp ws hw
      exact ⟨x, fun G' e => x1 G' fun p hp => e p (.inr hp), x2⟩
  | _, _, .lst (a := a) (vs := vs) (ds := ds) h r, hs => by
    obtain ⟨S, s1, s2⟩ := Reps.least r (subB_or hs).2
    refine ⟨fun p => p = a ∨ S p, fun G' e => .lst ((e a (.inl rfl)).trans h) (s1 G' fun p hp => e p (.inr hp)), fun p hp ws hw => ?_⟩
    rcases hp with rfl | hp
    · rw [h] at hw
      have e := Option.some.inj hw
      injection e with e
      subst e
      exact ⟨ds, fun G' e => s1 G' fun p hp => e p (.inr hp), fun y hy => subB_or hy⟩
    · obtain ⟨x, x1, x2⟩ := s2 p hp ws hw
      exact ⟨x, fun G' e => x1 G' fun p hp => e p (.inr hp), fun y hy => x2 y (subB_or hy).2⟩
  | _, _, .scr _, hs => by cases hs
  | _, _, .obj (a := a) (fs := fs) (ds := ds) h n r, hs => by
    obtain ⟨S, s1, s2⟩ := Reps.least r hs
    refine ⟨fun p => p = a ∨ S p, fun G' e => .obj ((e a (.inl rfl)).trans h) n (s1 G' fun p hp => e p (.inr hp)), fun p hp ws hw => ?_⟩
    rcases hp with rfl | hp
    · rw [h] at hw; cases hw
    · obtain ⟨x, x1, x2⟩ := s2 p hp ws hw
      exact ⟨x, fun G' e => x1 G' fun p hp => e p (.inr hp), x2⟩
theorem Reps.least {y0 : D} : ∀ {vs : List V} {ds : List D}, Reps M K G vs ds → subBs y0 ds = false → ∃ S : Addr → Prop, (∀ G', (∀ p, S p → G' p = G p) → Reps M K G' vs ds) ∧ ∀ p, S p → ∀ vs, G p = some (.lst vs) → ∃ x, (∀ G', (∀ p, S p → G' p = G p) → Reps M K G' vs x) ∧ ∀ y, subBs y ds = false → eqP y (.lst x) = false ∧ subBs y x = false
  | _, _, .nil, _ => ⟨fun _ => False, fun _ _ => .nil, fun _ h => h.elim⟩
  | _, _, .cons h r, hs => by
    obtain ⟨h1, h2⟩ := subB_or hs
    obtain ⟨S, s1, s2⟩ := Rep.least h h1
    obtain ⟨S', s1', s2'⟩ := Reps.least r h2
    refine ⟨fun p => S p ∨ S' p, fun G' e => .cons (s1 G' fun p hp => e p (.inl hp)) (s1' G' fun p hp => e p (.inr hp)), fun p hp ws hw => ?_⟩
    rcases hp with hp | hp
    · obtain ⟨x, x1, x2⟩ := s2 p hp ws hw
      exact ⟨x, fun G' e => x1 G' fun p hp => e p (.inl hp), fun y hy => x2 y (subB_or hy).1⟩
    · obtain ⟨x, x1, x2⟩ := s2' p hp ws hw
      exact ⟨x, fun G' e => x1 G' fun p hp => e p (.inr hp), fun y hy => x2 y (subB_or hy).2⟩
end
end
end Fc

set_option Elab.async false
set_option linter.all false
set_option maxRecDepth 100000
set_option maxHeartbeats 4000000
namespace Fc
open PySem PySem.Spec PyProof.Rows L2

/-! ### an expression of the text against one of ours -/
def vis (sc : Scope) (x : Str) : Bool := match sc.names.lookup x with
  | some .local => true
  | some .cell => true
  | some .free => true
  | _ => false
def loc (sc : Scope) (x : Str) : Bool := match sc.names.lookup x with
  | some .local => true
  | some .cell => true
  | _ => false
def locL (sc : Scope) (x : Str) : Bool := match sc.names.lookup x with
  | some .local => true
  | _ => false
def glo (sc : Scope) (x : Str) : Bool := match sc.names.lookup x with
  | some .globalImplicit => true
  | _ => false
def nmOk (x : Str) : Bool := !(x == "__debug__") && !(x == "__classdict__")
def bname : Bf → Str
  | .len => "len" | .gcd => "gcd" | .abs => "abs" | .int => "int" | .sum => "sum" | .all => "all" | .any => "any" | .tuple => "tuple" | .list => "list"
  | .min2 => "min" | .max2 => "max" | .sorted => "sorted" | .lcm => "lcm" | .maxL => "max"
def oOk : Op → Operator → Bool
  | .add, .Add => true | .sub, .Sub => true | .mul, .Mult => true | .fdiv, .FloorDiv => true | .mod, .Mod => true | .pow, .Pow => true
  | _, _ => false
def cOk : Cm → CmpOp → Bool
  | .lt, .Lt => true | .le, .LtE => true | .gt, .Gt => true | .ge, .GtE => true | .eq, .Eq => true | .ne, .NotEq => true | .inn, .In => true | .nin, .NotIn => true
  | _, _ => false
def isNone : Expr → Bool
  | .Constant .none _ _ => true
  | _ => false
def isTrueC : Expr → Bool
  | .Constant (.bool b) _ _ => b
  | _ => false
def sOk : Cs → CmpOp → Expr → Bool
  | .isN, .Is, e => isNone e | .notN, .IsNot, e => isNone e | .isT, .Is, e => isTrueC e | .notT, .IsNot, e => isTrueC e
  | _, _, _ => false
def tyName (M : Nm) : Ty → Str
  | .int => "int" | .bool => "bool" | .list => "list" | .tuple => "tuple" | .cls c => M.cl c
def tyOk (M : Nm) (sc : Scope) (t : Ty) : Expr → Bool
  | .Name x _ => decide (x = tyName M t) && (glo sc x && (nmOk x && (match t with
    | .cls _ => true
    | _ => decide (x ∈ M.frees))))
  | _ => false
def tysOk (M : Nm) (sc : Scope) : List Ty → List Expr → Bool
  | [], [] => true
  | t :: ts, e :: es => tyOk M sc t e && tysOk M sc ts es
  | _, _ => false
/-- forms that are never ours, and the others -/
def plainX : Expr → Bool
  | .Set .. => false
  | .SetComp .. => false
  | .DictComp .. => false
  | .Starred .. => false
  | .Slice .. => false
  | .GeneratorExp .. => false
  | .NamedExpr .. => false
  | _ => true
/-- no call without arguments -/
def baseX : Expr → Bool
  | .Call _ [] [] _ => false
  | _ => true
def ownOf (N : List Str) (vs : List Nat) : List (Str × Nat) := vs.filterMap fun i => (N[i]?).map fun x => (x, i)
section
variable (N : List Str)
def chkTg (sc : Scope) : Tg → Expr → Bool
  | .nm i, .Name x _ => decide (N[i]? = some x) && loc sc x
  | .nil, .Tuple [] _ _ => true
  | .cons t ts, .Tuple (e :: es) k p => chkTg sc t e && (plainX e && chkTg sc ts (.Tuple es k p))
  | _, _ => false
end
/-- enumerate, zip: the target is a tuple -/
def tupI : It → Expr → Bool
  | .enum _, .Tuple .. => true
  | .zip _ _, .Tuple .. => true
  | .enum _, _ => false
  | .zip _ _, _ => false
  | _, _ => true
section
variable (M : Nm) (N : List Str)
mutual
def chkE (sc : Scope) : E → Expr → Bool
  | .var i, e => (match e with
    | .Name x _ => decide (N[i]? = some x) && (vis sc x && nmOk x)
    | _ => false)
  | .int i, e => (match e with
    | .Constant (.int j) _ _ => decide (i = j)
    | _ => false)
  | .bl b, e => (match e with
    | .Constant (.bool j) _ _ => decide (b = j)
    | _ => false)
  | .non, e => isNone e
  | .str s, e => (match e with
    | .Constant (.str x) _ _ => decide (s = x)
    | _ => false)
  | .bin o a b, e => (match e with
    | .BinOp a' o' b' _ => oOk o o' && (chkE sc a a' && chkE sc b b')
    | _ => false)
  | .neg a, e => (match e with
    | .UnaryOp .USub a' _ => chkE sc a a'
    | _ => false)
  | .cmp o a b, e => (match e with
    | .Compare a' [o'] [b'] _ => cOk o o' && (chkE sc a a' && chkE sc b b')
    | _ => false)
  | .cis o a, e => (match e with
    | .Compare a' [o'] [b'] _ => sOk o o' b' && chkE sc a a'
    | _ => false)
  | .and_ a b, e => (match e with
    | .BoolOp .And (a' :: b' :: r) p => chkE sc a a' && (match r with
      | [] => chkE sc b b'
      | _ => chkE sc b (.BoolOp .And (b' :: r) p))
    | _ => false)
  | .or_ a b, e => (match e with
    | .BoolOp .Or (a' :: b' :: r) p => chkE sc a a' && (match r with
      | [] => chkE sc b b'
      | _ => chkE sc b (.BoolOp .Or (b' :: r) p))
    | _ => false)
  | .not_ a, e => (match e with
    | .UnaryOp .Not a' _ => chkE sc a a'
    | _ => false)
  | .ite t a b, e => (match e with
    | .IfExp t' a' b' _ => chkE sc t t' && (chkE sc a a' && chkE sc b b')
    | _ => false)
  | .ix a i, e => (match e with
    | .Subscript a' i' _ => chkE sc a a' && chkE sc i i'
    | _ => false)
  | .sl a lo hi, e => (match e with
    | .Subscript a' (.Slice lo' hi' none _) _ => chkE sc a a' && (chkO sc lo lo' && chkO sc hi hi')
    | _ => false)
  | .tup es, e => (match e with
    | .Tuple es' _ _ => Nat.ble es'.length 1000 && chkEs sc es es'
    | _ => false)
  | .lst es, e => (match e with
    | .List es' _ => Nat.ble es'.length 1000 && chkEs sc es es'
    | _ => false)
  | .lc vs t it c el, e => (match e with
    | .ListComp el' [⟨t', it', ifs, as⟩] scope _ => decide (as = 0) && (blkC N sc scope (ownOf N vs) && (decide ((ownOf N vs).map (·.2) = vs) && (tupI it t' && (chkI sc it it' &&
        (chkTg N scope t t' && ((tgS t).all (fun i => decide (i ∈ vs)) && ((match ifs with
          | [] => (match c with
            | .none => true
            | .some _ => false)
          | [x] => (match c with
            | .none => false
            | .some _ => chkO (relS scope sc) c (some x))
          | _ => false) && chkE (relS scope sc) el el')))))))
    | _ => false)
  | .lc2 vs vs1 t it t1 it1 el, e => (match e with
    | .ListComp el' [⟨t', it', [], as⟩, ⟨t1', it1', [], as1⟩] scope _ => decide (as = 0) && (decide (as1 = 0) && (blkC N sc scope (ownOf N vs) && (decide ((ownOf N vs).map (·.2) = vs) && (vs1.all (fun i => decide (i ∈ vs)) && (tupI it t' && (tupI it1 t1' && (chkI sc it it' &&
        (chkTg N scope t t' && ((tgS t).all (fun i => decide (i ∈ vs)) && (chkI (relS scope sc) it1 it1' && (chkTg N scope t1 t1' && ((tgS t1).all (fun i => decide (i ∈ vs1)) && chkE (relS scope sc) el el'))))))))))))
    | _ => false)
  | .call f es, e => (match e with
    | .Call (.Name x _) es' [] _ => decide (M.at_ f = (x, none)) && (glo sc x && (nmOk x && chkEs sc es es'))
    | _ => false)
  | .bi b es, e => (match e with
    | .Call (.Name x _) (e1 :: es') [] _ => decide (x = bname b) && (glo sc x && (nmOk x && ((match b with
        | .gcd => true
        | .lcm => false
        | .maxL => false
        | _ => decide (x ∈ M.frees)) && chkEs sc es (e1 :: es'))))
    | _ => false)
  | .isi a ty, e => (match e with
    | .Call (.Name x _) [a', t'] [] _ => decide (x = "isinstance") && (glo sc x && (nmOk x && (decide (x ∈ M.frees) && (chkE sc a a' && (Nat.ble ty.length 20 && (!ty.isEmpty && (match t' with
        | .Tuple ts _ _ => tysOk M sc ty ts
        | t' => tysOk M sc ty [t'])))))))
    | _ => false)
  | .fld a k, e => (match e with
    | .Attribute a' x _ => decide (x = M.fd k) && (Nat.blt k M.nf && (baseX a' && chkE sc a a'))
    | _ => false)
  | .meth a m es, e => (match e with
    | .Call (.Attribute a' x ap) es' [] p => decide (x = M.mt m) && (Nat.blt m M.nm && (baseX a' && (decide (ap.endLine = p.line) && (decide (es'.length < 20) && (chkE sc a a' && chkEs sc es es')))))
    | _ => false)
  | .mk c es kw, e => (match e with
    | .Call (.Name x _) (e1 :: es') ks _ => decide (x = M.cl c) && (glo sc x && (nmOk x && (chkEs sc es (e1 :: es') && (match ks with
        | [] => (match kw with
          | .none => true
          | .some _ => false)
        | [⟨some y, v, _⟩] => decide (y = M.kw c) && (match kw with
          | .none => false
          | .some _ => chkO sc kw (some v))
        | _ => false))))
    | _ => false)
def chkEs (sc : Scope) : Es → List Expr → Bool
  | .nil, es => (match es with
    | [] => true
    | _ => false)
  | .cons e es, l => (match l with
    | e' :: es' => chkE sc e e' && chkEs sc es es'
    | _ => false)
def chkO (sc : Scope) : Eo → Option Expr → Bool
  | .none, o => (match o with
    | none => true
    | _ => false)
  | .some e, o => (match o with
    | some e' => chkE sc e e'
    | _ => false)
def chkI (sc : Scope) : It → Expr → Bool
  | .seq e, x => chkE sc e x
  | .rng1 a, x => (match x with
    | .Call (.Name n _) [a'] [] _ => decide (n = "range") && (glo sc n && (decide (n ∈ M.frees) && chkE sc a a'))
    | _ => false)
  | .rng2 a b, x => (match x with
    | .Call (.Name n _) [a', b'] [] _ => decide (n = "range") && (glo sc n && (decide (n ∈ M.frees) && (chkE sc a a' && chkE sc b b')))
    | _ => false)
  | .enum a, x => (match x with
    | .Call (.Name n _) [a'] [] _ => decide (n = "enumerate") && (glo sc n && (decide (n ∈ M.frees) && chkE sc a a'))
    | _ => false)
  | .zip a b, x => (match x with
    | .Call (.Name n _) [a', b'] [] _ => decide (n = "zip") && (glo sc n && (decide (n ∈ M.frees) && (chkE sc a a' && chkE sc b b')))
    | _ => false)
  | .rev a, x => (match x with
    | .Call (.Name n _) [a'] [] _ => decide (n = "reversed") && (glo sc n && (decide (n ∈ M.frees) && chkE sc a a'))
    | _ => false)
end
end
/-! ### what the forms give -/
section
variable {M : Nm} {N : List Str} {sc : Scope}
theorem chkE_plain {a : E} {e : Expr} (h : chkE M N sc a e = true) : plainX e = true := by
  cases a <;> cases e <;> first
    | rfl
    | (simp [chkE, isNone] at h; done)
theorem bA {a b : Bool} (h : (a && b) = true) : a = true ∧ b = true := Bool.and_eq_true_iff.mp h
theorem vis_ok {x : Str} (h : vis sc x = true) : Vis sc x := by
  unfold vis at h
  split at h <;> first | exact .inl (by assumption) | exact .inr (.inl (by assumption)) | exact .inr (.inr (by assumption)) | cases h
theorem loc_ok {x : Str} (h : loc sc x = true) : Loc sc x := by
  unfold loc at h
  split at h <;> first | exact .inl (by assumption) | exact .inr (by assumption) | cases h
theorem locL_ok {x : Str} (h : locL sc x = true) : sc.names.lookup x = some .local := by
  unfold locL at h
  split at h <;> first | assumption | cases h
theorem glo_ok {x : Str} (h : glo sc x = true) : sc.names.lookup x = some .globalImplicit := by
  unfold glo at h
  split at h <;> first | assumption | cases h
theorem nm_ok {x : Str} (h : nmOk x = true) : (x == ("__debug__" : Str)) = false ∧ (x == ("__classdict__" : Str)) = false := by
  unfold nmOk at h
  simp only [Bool.and_eq_true, Bool.not_eq_true'] at h
  exact h
theorem star_plain {e : Expr} {es : List Expr} {env : PySem.Env} (h : plainX e = true) : starEach (e :: es) env = (false, eval e env) :: starEach es env := by
  cases e <;> first | rfl | cases h
theorem folded_plain {e : Expr} {env : PySem.Env} {x : Value} (h : plainX e = true) : foldedSetIterable e env x = pure x := by
  cases e <;> first | rfl | cases h
theorem ix_plain {b : Expr} (h : plainX b = true) : PlainIx b := by
  intro o i
  cases b <;> first | rfl | cases h
theorem marks_plain {b : Expr} {op : CmpOp} (h : plainX b = true) : behindInMarks op b = false := by
  cases b <;> first | rfl | cases h
theorem assign_plain {t : Expr} {ts : List Expr} {env : PySem.Env} (h : plainX t = true) : assignEach (t :: ts) env = (false, assign t env) :: assignEach ts env := by
  cases t <;> first | rfl | cases h
theorem base_plain {o : Expr} {f : Str} {env : PySem.Env} {w : Sem Value} (h : baseX o = true) : attributeBase o f env w = w := by
  cases o <;> try rfl
  rename_i fn args kws pos
  cases args with
  | nil => cases kws with
    | nil => cases h
    | cons k ks => cases fn <;> rfl
  | cons a as => cases fn <;> rfl
end
end Fc

set_option Elab.async false
set_option linter.all false
set_option maxRecDepth 100000
set_option maxHeartbeats 4000000
namespace Fc
open PySem PySem.Spec PyProof.Rows L2

/-! ### what a def promises, and what is known of the text behind the top -/
/-- an __init__ leaves the instance at a made -/
def OutI (M : Nm) (K : PySem.W.Frag) (W : XK) (a : Addr) (H G : Hp) (Q : VK) : R D → Prop
  | .ok d => ∀ H' G', (∀ b o, b ≠ a → H b = some o → H' b = some o) → Sub G G' → Sub G' H' → (∀ b o, b ≠ a → H b = some o → G' b = G b) → Rep M K G' (.ref a) d → Q .non H'
  | .ex c ds => ∀ cls d H' G', (∀ b o, b ≠ a → H b = some o → H' b = some o) → Sub G G' → Sub G' H' → (∀ b o, b ≠ a → H b = some o → G' b = G b) → RepX M K G' H' cls d c ds → W cls d H'
  | .no => False
/-- a value whose lists are new, to a depth: their addresses -/
def OwnR (M : Nm) (K : PySem.W.Frag) (H' G' : Hp) : Nat → List Addr → V → D → Prop
  | 0, A, v, d => A = [] ∧ Rep M K G' v d
  | 1, A, v, d => ∃ (p : Addr) (vs : List V) (ds : List D), A = [p] ∧ v = .ref p ∧ d = .lst ds ∧ H' p = some (.lst vs) ∧ G' p = none ∧ Reps M K G' vs ds
  | _ + 2, A, v, d => ∃ (p : Addr) (ps : List Addr) (dss : List (List D)), A = p :: ps ∧ v = .ref p ∧ d = .lst (dss.map .lst) ∧ H' p = some (.lst (ps.map .ref)) ∧ G' p = none ∧ ps.length = dss.length ∧ (p :: ps).Nodup ∧
      ∀ (j : Nat) (q : Addr) (ds : List D), ps[j]? = some q → dss[j]? = some ds → ∃ vs, H' q = some (.lst vs) ∧ G' q = none ∧ Reps M K G' vs ds
def OutK (M : Nm) (K : PySem.W.Frag) (W : XK) (k : Nat) (H G : Hp) (Q : VK) : R D → Prop
  | .ok d => ∀ v H' G' A, Grow H G H' G' → (∀ p ∈ A, H p = none) → OwnR M K H' G' k A v d → Q v H'
  | .ex c ds => ∀ cls d H' G', Grow H G H' G' → RepX M K G' H' cls d c ds → W cls d H'
  | .no => False
def spF (T : Tab) (M : Nm) (K : PySem.W.Frag) (n f : Nat) (d : Def) : Sp := match d.init with
  | false => fun vs H Q E => ∃ (G : Hp) (ds : List D), vs.length = (M.ps f).length ∧ Sub G H ∧ Reps M K G vs ds ∧ OutK M K E d.rk H G Q (call T n f ds)
  | true => fun vs H Q E => ∃ (G : Hp) (ds : List D) (a dx : Addr) (c : Nat) (vr : List V), vs = .ref a :: vr ∧ vs.length = (M.ps f).length ∧ H a = some (.ins (M.C K c) dx []) ∧ G a = none ∧ Sub G H ∧ Reps M K G vr ds ∧
      OutI M K E a H G Q (call T n f (.obj c [] [] :: ds))
/-- how a def's arguments bind -/
structure BindF (M : Nm) (K : PySem.W.Frag) (fd : FuncData) (ps : List Str) (kw : Option (Str × D)) : Prop where
  none : kw = none → Binds K fd ps []
  some : ∀ y d, kw = some (y, d) → (∃ v ds, Vals [v] ds ∧ (∀ G, Rep M K G v d) ∧ Binds K fd ps ds) ∧ KBn K fd ps (ps.length - 1) [y] (fun us ws => us ++ ws) (fun vs zs => vs ++ zs)
structure Lv (T : Tab) (M : Nm) (P : Program) (w : World) (K : PySem.W.Frag) (mg : Str → Option Value) (base : Heap) (n : Nat) : Prop where
  fns : ∀ f d, T.fn f = some d → (M.ps f).length = d.np ∧ ∃ fd, FnOk P w K mg base (CX P w) (2 * n + 40) (He.fAd K (M.at_ f)) fd (M.ps f) (spF T M K n f d) ∧ (d.init = false → BindF M K fd (M.ps f) none) ∧
    ∀ c kw, T.init c = some (f, kw) → BindF M K fd (M.ps f) (kw.map fun d => (M.kw c, d))
structure Env1 (T : Tab) (M : Nm) (K : PySem.W.Frag) (mg : Str → Option Value) : Prop where
  glo : ∀ f d x, T.fn f = some d → M.at_ f = (x, none) → mg x = some (.ref (He.fAd K (x, none)))
  ini : ∀ f d x, T.fn f = some d → M.at_ f = (x, none) → d.init = false
  kp : ∀ f d, T.fn f = some d → PySem.W.keepIn K (.ref (He.fAd K (M.at_ f))) = true
  mth : ∀ c m f, T.mt c m = some f → Meth K (M.C K c) (M.mt m) (He.fAd K (M.at_ f)) ∧ ∃ d, T.fn f = some d ∧ d.init = false
  cls : ∀ c f kw, T.init c = some (f, kw) → Cls K (M.C K c) ∧ Mk K (M.C K c) (He.fAd K (M.at_ f)) ∧ mg (M.cl c) = some (.ref (M.C K c)) ∧ ∃ d, T.fn f = some d ∧ d.init = true
  kwl : ∀ c f d, T.init c = some (f, some d) → 2 ≤ (M.ps f).length
  mtc : ∀ c m f, T.mt c m = some f → ∃ p, T.init c = some p
  noat : ∀ c p k, T.init c = some p → k < M.nf → NoAttr K (M.C K c) (M.fd k)
  fdi : ∀ i j, i < M.nf → j < M.nf → M.fd i = M.fd j → i = j
  mfd : ∀ m k, m < M.nm → k < M.nf → M.mt m ≠ M.fd k
  free : ∀ x ∈ M.frees, mg x = none
  gcd : mg "gcd" = some (.builtin "math.gcd")
  kit : ∀ c p (t : String), T.init c = some p → t ∈ ["int", "bool", "list", "tuple"] → PySem.W.kitOne K (.ref (M.C K c)) (.type t) = some false
  kitC : ∀ c p c' p', T.init c = some p → T.init c' = some p' → PySem.W.kitOne K (.ref (M.C K c)) (.ref (M.C K c')) = some (c == c')
  kitB : ∀ c' p' (t : String), T.init c' = some p' → t ∈ ["int", "bool", "list", "tuple", "NoneType"] → PySem.W.kitOne K (.type t) (.ref (M.C K c')) = some false
  clsX : ∀ c p, T.init c = some p → PySem.W.findIn K (.ref (M.C K c)) "__class__" = some (some (.builtin "object.__class__"))
  mro : ∀ c p, T.init c = some p → PySem.W.mroIn K (M.C K c) (.type "object") = some true
  clsY : PySem.W.specialIn K (.builtin "object.__class__") "__get__" = some (some (.builtin "getset_descriptor.__get__")) ∧ PySem.W.takesIn K (.builtin "object.__class__") = some true
  selfF : ∀ c p, T.init c = some p → PySem.W.selfFirst K (M.C K c) = true
  m0 : M.mt 0 = "__eq__"
  m1 : M.mt 1 = "__len__"
  m2 : M.mt 2 = "__add__"
  m3 : M.mt 3 = "__sub__"
structure Good (T : Tab) (M : Nm) (n : Nat) (W : XK) (X : Cx) : Prop where
  calm : X.calm = true
  room : Room (2 * n + 41) X.A
  nd : X.N.Nodup
  tk : Takes X fun cls d _ H => W cls d H
  ev : Env1 T M X.K X.mg
  lv : Lv T M X.prog X.w X.K X.mg X.base n

section
variable {T : Tab} {M : Nm} {n : Nat} {W : XK} {X : Cx}
theorem PE.imp {e : Expr} {t t' : TE} (h : PE X e t) (i : ∀ σ H Q, t' σ H Q → t σ H Q) : PE X e t' := ⟨fun pins s σ H Q I q => h.run pins s σ H Q I (i _ _ _ q)⟩
theorem PT.imp {e : Expr} {t t' : TT} (h : PT X e t) (i : ∀ σ H Q, t' σ H Q → t σ H Q) : PT X e t' := ⟨fun pins s σ H Q I q => h.run pins s σ H Q I (i _ _ _ q)⟩
theorem PW.imp {e : Expr} {t t' : TT} (h : PW X e t) (i : ∀ σ H Q, t' σ H Q → t σ H Q) : PW X e t' := ⟨fun wh pins s σ H Q I q => h.run wh pins s σ H Q I (i _ _ _ q)⟩
theorem PA.imp {es : List Expr} {t t' : TA} (h : PA X es t) (i : ∀ σ H Q, t' σ H Q → t σ H Q) : PA X es t' := ⟨fun pos pins s σ H Q I q => h.run pos pins s σ H Q I (i _ _ _ q)⟩
variable {K : PySem.W.Frag} {H G H1 G1 : Hp} {Q : VK}
theorem Out.grow {r : R D} (h : Out M K W H G Q r) (g : Grow H G H1 G1) : Out M K W H1 G1 Q r := by
  cases r with
  | ok d => exact fun v H' G' g' r' => h v H' G' (g.trans g') r'
  | ex c ds => exact fun cls d H' G' g' r' => h cls d H' G' (g.trans g') r'
  | no => exact h
theorem Out.seq {r : R D} {f : D → R D} (h : Out M K W H G Q (r >>= f)) : Out M K W H G (fun v H1 => ∃ G1 d, Grow H G H1 G1 ∧ Rep M K G1 v d ∧ r = .ok d ∧ Out M K W H1 G1 Q (f d)) r := by
  cases r with
  | ok d => exact fun v H' G' g' r' => ⟨G', d, g', r', rfl, Out.grow h g'⟩
  | ex c ds => exact h
  | no => exact h
theorem Out.seqL {r : R (List D)} {f : List D → R D} (h : Out M K W H G Q (r >>= f)) : OutL M K W H G (fun vs H1 => ∃ G1 ds, Grow H G H1 G1 ∧ Reps M K G1 vs ds ∧ r = .ok ds ∧ Out M K W H1 G1 Q (f ds)) r := by
  cases r with
  | ok d => exact fun v H' G' g' r' => ⟨G', d, g', r', rfl, Out.grow h g'⟩
  | ex c ds => exact h
  | no => exact h
theorem Out.now {v : V} {d : D} (h : Out M K W H G Q (.ok d)) (s : Sub G H) (r : Rep M K G v d) : Q v H := h v H G (Grow.refl s) r
theorem Out.imp {r : R D} {Q' : VK} (h : Out M K W H G Q r) (i : ∀ v H, Q v H → Q' v H) : Out M K W H G Q' r := by
  cases r with
  | ok d => exact fun v H' G' g' r' => i _ _ (h v H' G' g' r')
  | ex c ds => exact h
  | no => exact h
theorem OutB.of {r : R D} {Q : Bool → Hp → Prop} (h : OutB M K W H G Q r) : Out M K W H G (fun v H1 => ∃ b, v = .bl b ∧ Q b H1) r := by
  cases r with
  | ok d =>
    cases d with
    | bl b => exact fun v H' G' g' r' => ⟨b, r'.toBl, h H' G' g'⟩
    | _ => exact False.elim h
  | ex c ds => exact h
  | no => exact h
/-- an exception of a callee is what is wanted here -/
theorem passG (g : Good T M n W X) : Passes (CX X.prog X.w) X W := passes_call g.tk fun _ _ _ _ h => h
/-- f is called where the frames are X's -/
theorem runA {pins : List (Addr × Obj)} {σ : L2.St} {s : Shared} {A : Around} {us : List Value} {vs : List V} {k : Nat} {f : Addr} {fd : FuncData} {ps : List Str} {sp : Sp} (g : Good T M n W X) (F : FnOk X.prog X.w X.K X.mg X.base (CX X.prog X.w) k f fd ps sp) (hA : A.frames = X.A.frames) (hr : Room k A)
    (hb : Binds X.K fd ps []) (I : Inv X pins σ H s) (r : Vals vs us) (h : sp vs H Q W) : wpAny (model X.prog X.w) A (PySem.call (.ref f) us) (EP X pins σ Q) X.xe s := by
  have e0 : Env0 X.prog X.w X.K X.mg X.base A X.stack s H := by
    have e := I.env0
    exact ⟨by rw [hA]; exact e.frames, e.mod, e.bs, e.bsz, e.funs, e.frf, e.hok, e.bare⟩
  have hl : us.length = ps.length := by rw [← r.length]; exact F.len _ _ _ _ h
  refine wpAny_call (codeAny_mono (F.run A X.stack s H ⟨us, []⟩ us vs Q W hr e0 (by
    have := hb s us I.kIn (by simpa using hl)
    simpa using this) r h) fun r s' hq => ?_)
  cases r with
  | error e => exact passG g pins σ H s e s' I hq
  | ok fl =>
    cases fl with
    | ret u => exact I.after hq
    | next => exact False.elim hq
    | brk => exact False.elim hq
    | cont => exact False.elim hq
/-- a value with new lists is a value -/
theorem OwnR.rep {k : Nat} {A : List Addr} {v : V} {d : D} (g : Grow H G H1 G1) (hA : ∀ p ∈ A, H p = none) (o : OwnR M K H1 G1 k A v d) : ∃ G2, Grow H G H1 G2 ∧ Rep M K G2 v d := by
  match k, o with
  | 0, ⟨_, r⟩ => exact ⟨G1, g, r⟩
  | 1, ⟨p, vs, ds, eA, ev, ed, hp, gp, r⟩ =>
    subst eA ev ed
    have np := hA p (by simp)
    have sub : Sub G1 (upd G1 p (.lst vs)) := fun a u e => by rw [upd_ne (ne_of_none e gp)]; exact e
    refine ⟨upd G1 p (.lst vs), ⟨g.ext, g.sub.trans sub, fun a u e => ?_, fun a u e => ?_⟩, .lst upd_same (r.mono sub)⟩
    · by_cases hq : a = p
      · subst hq; rw [upd_same] at e; cases e; exact hp
      · rw [upd_ne hq] at e; exact g.into _ _ e
    · rw [upd_ne (ne_of_none e np)]; exact g.new a u e
  | k + 2, ⟨p, ps, dss, eA, ev, ed, hp, gp, hl, nd, hq⟩ =>
    subst eA ev ed
    have dec : ∀ a : Addr, Decidable (a ∈ p :: ps) := fun a => inferInstance
    let G2 : Hp := fun a => if a ∈ p :: ps then H1 a else G1 a
    have gn : ∀ a ∈ p :: ps, G1 a = none := by
      intro a ha
      rcases List.mem_cons.mp ha with e | ha
      · rw [e]; exact gp
      · obtain ⟨j, hj, e⟩ := List.getElem_of_mem ha
        have h1 : ps[j]? = some a := by rw [← e]; exact List.getElem?_eq_getElem hj
        have h2 : dss[j]? = some dss[j] := List.getElem?_eq_getElem (by omega)
        obtain ⟨vs, _, h, _⟩ := hq j a _ h1 h2
        exact h
    have sub : Sub G1 G2 := fun a u e => by
      show (if a ∈ p :: ps then H1 a else G1 a) = some u
      rw [if_neg fun hm => by rw [gn a hm] at e; cases e]; exact e
    refine ⟨G2, ⟨g.ext, g.sub.trans sub, fun a u e => ?_, fun a u e => ?_⟩, ?_⟩
    · have e' : (if a ∈ p :: ps then H1 a else G1 a) = some u := e
      split at e'
      · exact e'
      · exact g.into _ _ e'
    · show (if a ∈ p :: ps then H1 a else G1 a) = G a
      rw [if_neg fun hm => by rw [hA a hm] at e; cases e]; exact g.new a u e
    · refine .lst (vs := ps.map .ref) (by show (if p ∈ p :: ps then H1 p else G1 p) = _; rw [if_pos (by simp)]; exact hp) ?_
      have all : ∀ (qs : List Addr) (es : List (List D)), qs.length = es.length → (∀ (j : Nat) (q : Addr) (ds : List D), qs[j]? = some q → es[j]? = some ds → q ∈ ps ∧ ∃ vs, H1 q = some (.lst vs) ∧ G1 q = none ∧ Reps M K G1 vs ds) → Reps M K G2 (qs.map .ref) (es.map .lst) := by
        intro qs
        induction qs with
        | nil => intro es hl _; cases es with
          | nil => exact .nil
          | cons _ _ => cases hl
        | cons q qs ih => intro es hl hj; cases es with
          | nil => cases hl
          | cons ds es =>
            refine .cons ?_ (ih es (by simpa using hl) fun j q' ds' h1 h2 => hj (j + 1) q' ds' (by simpa using h1) (by simpa using h2))
            obtain ⟨hm, vs, h1, _, h3⟩ := hj 0 q ds rfl rfl
            exact .lst (vs := vs) (by show (if q ∈ p :: ps then H1 q else G1 q) = _; rw [if_pos (List.mem_cons_of_mem _ hm)]; exact h1) (h3.mono sub)
      exact all ps dss hl fun j q ds h1 h2 => ⟨List.mem_of_getElem? h1, hq j q ds h1 h2⟩
theorem Out.toK {k : Nat} {r : R D} (h : Out M K W H G Q r) : OutK M K W k H G Q r := by
  cases r with
  | ok d => exact fun v H' G' A g hA o => let ⟨G2, g2, r2⟩ := o.rep g hA; h v H' G2 g2 r2
  | ex c ds => exact h
  | no => exact h
end
end Fc

set_option Elab.async false
set_option linter.all false
set_option maxRecDepth 100000
set_option maxHeartbeats 4000000
namespace Fc
open PySem PySem.Spec PyProof.Rows L2
theorem call_some {T : Tab} : ∀ {n f : Nat} {xs : List D}, call T n f xs ≠ .no → ∃ d, T.fn f = some d ∧ xs.length = d.np
  | 0, _, _, h => absurd rfl h
  | n + 1, f, xs, h => by
    cases e : T.fn f with
    | none => exact absurd (by simp [call, e]) h
    | some d =>
      refine ⟨d, rfl, ?_⟩
      by_cases hl : xs.length = d.np
      · exact hl
      · exact absurd (by simp [call, e, runDef, hl]) h
theorem Out.ne {M : Nm} {K : PySem.W.Frag} {W : XK} {H G : Hp} {Q : VK} {r : R D} (h : Out M K W H G Q r) : r ≠ .no := by
  intro e; subst e; exact h
section
variable {T : Tab} {M : Nm} {n : Nat} {W : XK} {X : Cx}
def rB2 (T : Tab) (M : Nm) (W : XK) (K : PySem.W.Frag) (f : D → D → R D) : R2 := fun x y H Q => ∃ (G : Hp) (dx dy : D), Sub G H ∧ Rep M K G x dx ∧ Rep M K G y dy ∧ Out M K W H G Q (f dx dy)
/-- a function of the text that stands at no __init__, called by its address -/
theorem fn_call {pins : List (Addr × Obj)} {σ : L2.St} {H G : Hp} {Q : VK} {s : Shared} {A : Around} {us : List Value} {vs : List V} {ds : List D} {f : Nat} {d : Def} (g : Good T M n W X) (hd : T.fn f = some d) (hi : d.init = false) (hA : A.frames = X.A.frames) (hr : Room (2 * n + 40) A)
    (I : Inv X pins σ H s) (r : Vals vs us) (sg : Sub G H) (hv : Reps M X.K G vs ds) (ho : Out M X.K W H G Q (call T n f ds)) : wpAny (model X.prog X.w) A (PySem.call (.ref (He.fAd X.K (M.at_ f))) us) (EP X pins σ Q) X.xe s := by
  obtain ⟨hl, fd, F, hb, _⟩ := g.lv.fns f d hd
  refine runA g F hA hr ((hb hi).none rfl) I r ?_
  obtain ⟨d', hd', hn⟩ := call_some ho.ne
  rw [hd] at hd'; cases hd'
  unfold spF
  rw [hi]
  exact ⟨G, ds, by rw [hv.length, hn, hl], sg, hv, ho.toK⟩
theorem fr_refl {A : Around} : A.frames = A.frames := rfl
theorem obj_at {H G : Hp} {K : PySem.W.Frag} {v : V} {c : Nat} {ks : List Nat} {ds : List D} (sg : Sub G H) (h : Rep M K G v (.obj c ks ds)) : ∃ a dx fs, v = .ref a ∧ H a = some (.ins (M.C K c) dx fs) ∧ M.Nms fs ks := by
  cases h with
  | obj h1 h2 h3 => exact ⟨_, _, _, rfl, sg _ _ h1, h2⟩
theorem rel_ni {v : V} (h : RelV v .notImplemented) : False := by
  cases v <;> first | (obtain ⟨t, h⟩ := h; cases h; done) | (cases h; done)
theorem ep_cmp {pins : List (Addr × Obj)} {σ : L2.St} {Q : VK} {u : Value} {s' : Shared} (h : EP X pins σ Q u s') : PySem.W.CmpBack (EP X pins σ Q) u s' := by
  cases u <;> first
    | exact h
    | (obtain ⟨v, H', _, r, _⟩ := h; exact (rel_ni r).elim)
theorem up_same {H : Hp} {p : Addr} {o : HO} {G : Hp} (sg : Sub G H) (n : H p = none) : Grow H G (upd H p o) (upd G p o) := Grow.laid sg n
/-- a + b, a - b of instances -/
theorem own_bin {op : Operator} {m : Nat} {c : Nat} {ks : List Nat} {ds : List D} {f : Nat} {pins : List (Addr × Obj)} {s : Shared} {σ : L2.St} {H G : Hp} {x y : V} {u v : Value} {dy : D} {Q : VK} (g : Good T M n W X) (hm : T.mt c m = some f) (hn : M.mt m = PySem.dunder op.info.2)
    (I : Inv X pins σ H s) (rx : RelV x u) (ry : RelV y v) (sg : Sub G H) (hx : Rep M X.K G x (.obj c ks ds)) (hy : Rep M X.K G y dy) (hyc : ∃ k2 d2, dy = .obj c k2 d2) (ho : Out M X.K W H G Q (call T n f [.obj c ks ds, dy])) :
    wpAny (model X.prog X.w) X.A (binaryOp op u v) (EP X pins σ Q) X.xe s := by
  obtain ⟨k2, d2, rfl⟩ := hyc
  obtain ⟨a, dx, fs, rfl, ha, _⟩ := obj_at sg hx
  obtain ⟨b, dx2, fs2, rfl, hb, _⟩ := obj_at sg hy
  cases rx; cases ry
  obtain ⟨p, hp⟩ := g.ev.mtc c m f hm
  obtain ⟨Mt, d, hd, hi⟩ := g.ev.mth c m f hm
  obtain ⟨mA, J, _⟩ := ins_get I.hok ha
  obtain ⟨mB, J', _⟩ := ins_get I.hok hb
  obtain ⟨od, J, _⟩ := J.look
  obtain ⟨od', J', _⟩ := J'.look
  obtain ⟨m', hF⟩ := I.fr
  refine PySem.W.binop_K hF I.ok.mod.kin J J'.type (g.ev.selfF c p hp) (by rw [← hn]; exact Mt.at_) Mt.fn ?_
  refine thn (fn_call (us := [.ref a, .ref b]) (vs := [.ref a, .ref b]) g hd hi fr_refl (g.room.mono (by omega)) I (.cons rfl (.cons rfl .nil)) sg (.cons hx (.cons hy .nil)) ho) fun u s' q => ep_cmp q
theorem op_addS (g : Good T M n W X) : OpR X (binaryOp .Add) (rB2 T M W X.K (binD .add)) := by
  intro pins s σ H x y v u Q I rx ry ⟨G, dx, dy, sg, hx, hy, ho⟩
  cases hx <;> cases hy <;> first
    | exact False.elim ho
    | exact op_add pins s σ H _ _ v u Q I rx ry ⟨_, _, rfl, rfl, ho.now sg (.int _)⟩
    | skip
  rename_i p vs ds hp hvs q ws es hq hws
  have ho' : Out M X.K W H G Q (if ds.length + es.length ≤ LIM then R.ok (D.lst (ds ++ es)) else R.no) := ho
  split at ho'
  · rename_i hlen
    refine op_cat pins s σ H _ _ v u Q I rx ry ⟨p, q, vs, ws, rfl, rfl, sg _ _ hp, sg _ _ hq, ?_, fun r hr => ?_⟩
    · rw [hvs.length, hws.length, sizeLine_eq]; exact hlen
    · exact ho' _ _ _ (Grow.laid sg hr) (.lst upd_same ((hvs.append hws).mono (Grow.laid sg hr).sub))
  · exact False.elim ho'
theorem op_subS (g : Good T M n W X) : OpR X (binaryOp .Sub) (rB2 T M W X.K (binD .sub)) := by
  intro pins s σ H x y v u Q I rx ry ⟨G, dx, dy, sg, hx, hy, ho⟩
  cases hx <;> cases hy <;> first
    | exact False.elim ho
    | exact op_sub pins s σ H _ _ v u Q I rx ry ⟨_, _, rfl, rfl, ho.now sg (.int _)⟩
theorem mul_big {i j : Int} (h : mulOk i j = true) : IntMulOk i j := by
  have h3 := of_decide_eq_true h
  have b : ∀ x : Int, Builtin.Int.intBits x ≤ x.natAbs.log2 + 1 := fun x => by
    unfold Builtin.Int.intBits
    split <;> omega
  have h1 := b i
  have h2 := b j
  have e : bitsLine = 134217728 := by decide
  unfold IntMulOk
  intro z
  rw [Bool.and_eq_true] at z
  have z2 := z.2
  unfold Builtin.Int.intTooBig at z2
  have z3 := of_decide_eq_true z2
  rw [e] at z3
  omega
theorem op_mulB : OpR X (binaryOp .Mult) (rI (fun i j => mulOk i j = true) fun i j => .int (i * j)) := opI fun _ _ _ _ _ _ _ hc q => mul_int q (mul_big hc)
theorem op_mulS (g : Good T M n W X) : OpR X (binaryOp .Mult) (rB2 T M W X.K (binD .mul)) := by
  intro pins s σ H x y v u Q I rx ry ⟨G, dx, dy, sg, hx, hy, ho⟩
  cases hx <;> cases hy <;> first
    | exact False.elim ho
    | skip
  · rename_i i j
    have ho' : Out M X.K W H G Q (if mulOk i j then R.ok (D.int (i * j)) else R.no) := ho
    split at ho'
    · exact op_mulB pins s σ H _ _ v u Q I rx ry ⟨_, _, rfl, rfl, by assumption, ho'.now sg (.int _)⟩
    · exact False.elim ho'
  · rename_i p vs ds hp hvs k
    have ho' : Out M X.K W H G Q (if ds.length * k.toNat ≤ LIM ∧ -(2 ^ 62) ≤ k ∧ k < 2 ^ 62 then R.ok (D.lst (List.replicate k.toNat ds).flatten) else R.no) := ho
    split at ho'
    · rename_i hc
      refine op_rep pins s σ H _ _ v u Q I rx ry ⟨p, k, vs, rfl, rfl, sg _ _ hp, by omega, by omega, ?_, fun r hr => ?_⟩
      · rw [hvs.length, sizeLine_eq]; exact hc.1
      · exact ho' _ _ _ (Grow.laid sg hr) (.lst upd_same ((hvs.rep k.toNat).mono (Grow.laid sg hr).sub))
    · exact False.elim ho'
theorem op_fdivB : OpR X (binaryOp .FloorDiv) (rI (fun _ j => j ≠ 0 ∧ divOk j = true) fun i j => .int (i.fdiv j)) := opI fun i j _ _ _ _ _ hc q => by
  exact floordiv_int hc.1 q (.inl (PyProof.noPylong_of_log2 (of_decide_eq_true hc.2)))
theorem op_fdivS (g : Good T M n W X) : OpR X (binaryOp .FloorDiv) (rB2 T M W X.K (binD .fdiv)) := by
  intro pins s σ H x y v u Q I rx ry ⟨G, dx, dy, sg, hx, hy, ho⟩
  cases hx <;> cases hy <;> first
    | exact False.elim ho
    | skip
  rename_i i j
  have ho' : Out M X.K W H G Q (if divOk j then (if 0 < j then R.ok (D.int (i / j)) else if j < 0 then R.ok (D.int (i.fdiv j)) else R.no) else R.no) := ho
  split at ho'
  · rename_i hd
    split at ho'
    · rename_i hc
      refine op_fdivB pins s σ H _ _ v u Q I rx ry ⟨_, _, rfl, rfl, ⟨by omega, hd⟩, ?_⟩
      show Q (V.int (i.fdiv j)) H
      rw [Int.fdiv_eq_ediv_of_nonneg i (by omega)]
      exact ho'.now sg (.int _)
    · split at ho'
      · exact op_fdivB pins s σ H _ _ v u Q I rx ry ⟨_, _, rfl, rfl, ⟨by omega, hd⟩, ho'.now sg (.int _)⟩
      · exact False.elim ho'
  · exact False.elim ho'
theorem op_modS (g : Good T M n W X) : OpR X (binaryOp .Mod) (rB2 T M W X.K (binD .mod)) := by
  intro pins s σ H x y v u Q I rx ry ⟨G, dx, dy, sg, hx, hy, ho⟩
  cases hx <;> cases hy <;> first
    | exact False.elim ho
    | skip
  rename_i i j
  have ho' : Out M X.K W H G Q (if 0 < j then R.ok (D.int (i % j)) else if j < 0 then R.ok (D.int (i.fmod j)) else R.no) := ho
  split at ho'
  · exact op_mod pins s σ H _ _ v u Q I rx ry ⟨_, _, rfl, rfl, by assumption, ho'.now sg (.int _)⟩
  · split at ho'
    · exact op_modN pins s σ H _ _ v u Q I rx ry ⟨_, _, rfl, rfl, by omega, ho'.now sg (.int _)⟩
    · exact False.elim ho'
theorem op_powS (g : Good T M n W X) : OpR X (binaryOp .Pow) (rB2 T M W X.K (binD .pow)) := by
  intro pins s σ H x y v u Q I rx ry ⟨G, dx, dy, sg, hx, hy, ho⟩
  cases hx <;> cases hy <;> first
    | exact False.elim ho
    | skip
  rename_i i j
  have ho' : Out M X.K W H G Q (if 0 ≤ j ∧ j ≤ 1000000 ∧ i.natAbs < 2 ^ 64 then R.ok (D.int (i ^ j.toNat)) else R.no) := ho
  split at ho'
  · exact op_pow pins s σ H _ _ v u Q I rx ry ⟨_, _, rfl, rfl, by assumption, ho'.now sg (.int _)⟩
  · exact False.elim ho'
theorem op_any (g : Good T M n W X) {o : Op} {o' : Operator} (h : oOk o o' = true) : OpR X (binaryOp o') (rB2 T M W X.K (opD T (call T n) o)) := by
  cases o <;> cases o' <;> first | (cases h; done) | skip
  · intro pins s σ H x y v u Q I rx ry ⟨G, dx, dy, sg, hx, hy, ho⟩
    cases dx <;> try exact op_addS g pins s σ H x y v u Q I rx ry ⟨G, _, dy, sg, hx, hy, ho⟩
    cases dy <;> try exact op_addS g pins s σ H x y v u Q I rx ry ⟨G, _, _, sg, hx, hy, ho⟩
    rename_i c ks ds c' k2 d2
    by_cases hc : c' = c
    · subst hc
      cases hm : T.mt c' 2 with
      | none => simp [opD, hm] at ho; exact False.elim ho
      | some f =>
        simp [opD, hm] at ho
        exact own_bin g hm (g.ev.m2) I rx ry sg hx hy ⟨_, _, rfl⟩ ho
    · simp [opD, hc] at ho; exact False.elim ho
  · intro pins s σ H x y v u Q I rx ry ⟨G, dx, dy, sg, hx, hy, ho⟩
    cases dx <;> try exact op_subS g pins s σ H x y v u Q I rx ry ⟨G, _, dy, sg, hx, hy, ho⟩
    cases dy <;> try exact op_subS g pins s σ H x y v u Q I rx ry ⟨G, _, _, sg, hx, hy, ho⟩
    rename_i c ks ds c' k2 d2
    by_cases hc : c' = c
    · subst hc
      cases hm : T.mt c' 3 with
      | none => simp [opD, hm] at ho; exact False.elim ho
      | some f =>
        simp [opD, hm] at ho
        exact own_bin g hm (g.ev.m3) I rx ry sg hx hy ⟨_, _, rfl⟩ ho
    · simp [opD, hc] at ho; exact False.elim ho
  · exact op_mulS g
  · exact op_fdivS g
  · exact op_modS g
  · exact op_powS g
end
end Fc

set_option Elab.async false
set_option linter.all false
set_option maxRecDepth 100000
set_option maxHeartbeats 4000000
namespace Fc
open PySem PySem.Spec PyProof.Rows L2
section
variable {T : Tab} {M : Nm} {n : Nat} {W : XK} {X : Cx} {K : PySem.W.Frag} {H G : Hp}
mutual
theorem toP_dp (sg : Sub G H) : ∀ {k : Nat} {d : D} {p : PyData} {v : V}, toP k d = some p → Rep M K G v d → Dp K H v p
  | k, .non, p, v, e, r => by
    cases r
    have e' : some PyData.none = some p := by simpa [toP] using e
    cases e'; exact .non
  | k, .bl b, p, v, e, r => by
    cases r
    have e' : some (PyData.bool b) = some p := by simpa [toP] using e
    cases e'; exact .bl b
  | k, .int i, p, v, e, r => by
    cases r
    have e' : some (PyData.int i) = some p := by simpa [toP] using e
    cases e'; exact .int i
  | 0, .tup ds, p, v, e, r => by simp [toP] at e
  | 0, .lst ds, p, v, e, r => by simp [toP] at e
  | k + 1, .tup ds, p, v, e, r => by
    cases r with
    | tup h1 h2 =>
      cases q : toPs k ds with
      | none => simp [toP, q] at e
      | some ps =>
        simp [toP, q] at e
        subst e
        exact .tup (.of (sg _ _ h1)) (toPs_dp sg q h2)
  | k + 1, .lst ds, p, v, e, r => by
    cases r with
    | lst h1 h2 =>
      cases q : toPs k ds with
      | none => simp [toP, q] at e
      | some ps =>
        simp [toP, q] at e
        subst e
        exact .lst (.of (sg _ _ h1)) (toPs_dp sg q h2)
  | k, .str s, p, v, e, r => by cases k <;> simp [toP] at e
  | k, .scr s, p, v, e, r => by cases k <;> simp [toP] at e
  | k, .obj _ _ _, p, v, e, r => by cases k <;> simp [toP] at e
theorem toPs_dp (sg : Sub G H) : ∀ {k : Nat} {ds : List D} {ps : List PyData} {vs : List V}, toPs k ds = some ps → Reps M K G vs ds → DpAll K H vs ps
  | k, [], ps, vs, e, r => by
    cases r
    simp [toPs] at e
    subst e; exact .nil
  | k, d :: ds, ps, vs, e, r => by
    cases r with
    | cons r1 r2 =>
      cases q : toP k d with
      | none => simp [toPs, q] at e
      | some p =>
        cases q2 : toPs k ds with
        | none => simp [toPs, q, q2] at e
        | some ps' =>
          simp [toPs, q, q2] at e
          subst e
          exact .cons (toP_dp sg q r1) (toPs_dp sg q2 r2)
end
mutual
theorem toP_sh : ∀ {k : Nat} {d : D} {p : PyData}, toP k d = some p → p.canLay0 = true ∧ p.depth ≤ k
  | k, .non, p, e => by
    have e' : some PyData.none = some p := by simpa [toP] using e
    cases e'; simp [PyData.canLay0, PyData.depth]
  | k, .bl b, p, e => by
    have e' : some (PyData.bool b) = some p := by simpa [toP] using e
    cases e'; simp [PyData.canLay0, PyData.depth]
  | k, .int i, p, e => by
    have e' : some (PyData.int i) = some p := by simpa [toP] using e
    cases e'; simp [PyData.canLay0, PyData.depth]
  | 0, .tup ds, p, e => by simp [toP] at e
  | 0, .lst ds, p, e => by simp [toP] at e
  | k + 1, .tup ds, p, e => by
    cases q : toPs k ds with
    | none => simp [toP, q] at e
    | some ps =>
      simp [toP, q] at e
      subst e
      obtain ⟨h1, h2⟩ := toPs_sh q
      exact ⟨by simpa [PyData.canLay0] using h1, by simp only [PyData.depth]; omega⟩
  | k + 1, .lst ds, p, e => by
    cases q : toPs k ds with
    | none => simp [toP, q] at e
    | some ps =>
      simp [toP, q] at e
      subst e
      obtain ⟨h1, h2⟩ := toPs_sh q
      exact ⟨by simpa [PyData.canLay0] using h1, by simp only [PyData.depth]; omega⟩
  | k, .str s, p, e => by cases k <;> simp [toP] at e
  | k, .scr s, p, e => by cases k <;> simp [toP] at e
  | k, .obj _ _ _, p, e => by cases k <;> simp [toP] at e
theorem toPs_sh : ∀ {k : Nat} {ds : List D} {ps : List PyData}, toPs k ds = some ps → PyData.canLayAll0 ps = true ∧ PyData.depthAll ps ≤ k
  | k, [], ps, e => by
    simp [toPs] at e
    subst e; simp [PyData.canLayAll0, PyData.depthAll]
  | k, d :: ds, ps, e => by
    cases q : toP k d with
    | none => simp [toPs, q] at e
    | some p =>
      cases q2 : toPs k ds with
      | none => simp [toPs, q, q2] at e
      | some ps' =>
        simp [toPs, q, q2] at e
        subst e
        obtain ⟨h1, h2⟩ := toP_sh q
        obtain ⟨h3, h4⟩ := toPs_sh q2
        exact ⟨by simp [PyData.canLayAll0, h1, h3], by simp only [PyData.depthAll]; omega⟩
end
theorem toP_shaped {d : D} {p : PyData} (e : toP 8 d = some p) : SeqAt.shaped p = true := by
  obtain ⟨h1, h2⟩ := toP_sh e
  unfold SeqAt.shaped
  rw [h1, decide_eq_true (by omega)]; rfl
theorem eqD_some {x y : D} {b : Bool} (h : eqD x y = .ok b) : ∃ p q, toP 8 x = some p ∧ toP 8 y = some q ∧ b = PyData.eqv p q := by
  unfold eqD at h
  cases h1 : toP 8 x with
  | none => rw [h1] at h; cases h
  | some p =>
    cases h2 : toP 8 y with
    | none => rw [h1, h2] at h; cases h
    | some q => rw [h1, h2] at h; cases h; exact ⟨p, q, rfl, rfl, rfl⟩
theorem flatD_rep {d : D} {v v' : V} (h : flatD d = some v) (r : Rep M K G v' d) : v' = v ∧ flatV v = true := by
  cases r <;> first | (cases h; exact ⟨rfl, rfl⟩) | cases h
theorem flatDs_rep : ∀ {ds : List D} {vs vs' : List V}, flatDs ds = some vs → Reps M K G vs' ds → vs' = vs ∧ vs.all flatV = true
  | [], vs, vs', h, r => by cases r; cases h; exact ⟨rfl, rfl⟩
  | d :: ds, vs, vs', h, r => by
    cases r with
    | cons r1 r2 =>
      cases q : flatD d with
      | none => simp [flatDs, q] at h
      | some v =>
        cases q2 : flatDs ds with
        | none => simp [flatDs, q, q2] at h
        | some ws =>
          simp [flatDs, q, q2] at h
          subst h
          obtain ⟨e1, e2⟩ := flatD_rep q r1
          obtain ⟨e3, e4⟩ := flatDs_rep q2 r2
          subst e1 e3
          exact ⟨rfl, by simp only [List.all_cons, e2, e4, Bool.and_self]⟩
theorem cmpI (g : Good T M n W X) {o : Cm} {o' : CmpOp} {p : Int → Int → Bool} (ho : OpR X (compareOp o') (rI0 fun i j => .bl (p i j))) (he : ∀ x y, cmpD T (call T n) o x y = match x, y with
    | .int i, .int j => R.ok (.bl (p i j))
    | _, _ => .no) : OpR X (compareOp o') (rB2 T M W X.K (cmpD T (call T n) o)) := by
  intro pins s σ H x y v u Q I rx ry ⟨G, dx, dy, sg, hx, hy, h⟩
  rw [he] at h
  cases hx <;> cases hy <;> first
    | exact False.elim h
    | exact ho pins s σ H _ _ v u Q I rx ry ⟨_, _, rfl, rfl, h.now sg (.bl _)⟩
theorem cmp_data (g : Good T M n W X) {x y : D} {Q : VK} {pins : List (Addr × Obj)} {s : Shared} {σ : L2.St} {vx vy : V} {v u : Value} (I : Inv X pins σ H s) (rx : RelV vx v) (ry : RelV vy u) (sg : Sub G H) (hx : Rep M X.K G vx x) (hy : Rep M X.K G vy y)
    (h : Out M X.K W H G Q (match eqD x y with
      | .ok b => R.ok (D.bl b)
      | _ => .no)) : wpAny (model X.prog X.w) X.A (compareOp .Eq v u) (EP X pins σ Q) X.xe s := by
  cases e : eqD x y with
  | ok b =>
    rw [e] at h
    obtain ⟨p, q, e1, e2, rfl⟩ := eqD_some e
    exact op_eqD g.room.units pins s σ H vx vy v u Q I rx ry ⟨p, q, toP_dp sg e1 hx, toP_dp sg e2 hy, toP_shaped e1, toP_shaped e2, h.now sg (.bl _)⟩
  | ex c ds => rw [e] at h; exact False.elim h
  | no => rw [e] at h; exact False.elim h
theorem op_cmp (g : Good T M n W X) {o : Cm} {o' : CmpOp} (h : cOk o o' = true) : OpR X (compareOp o') (rB2 T M W X.K (cmpD T (call T n) o)) := by
  cases o <;> cases o' <;> first | (cases h; done) | skip
  · exact cmpI g op_lt fun x y => by cases x <;> cases y <;> rfl
  · exact cmpI g op_le fun x y => by cases x <;> cases y <;> rfl
  · exact cmpI g op_gt fun x y => by cases x <;> cases y <;> rfl
  · exact cmpI g op_ge fun x y => by cases x <;> cases y <;> rfl
  · intro pins s σ H x y v u Q I rx ry ⟨G, dx, dy, sg, hx, hy, h⟩
    have h1 : Out M X.K W H G Q (eqO T (call T n) dx dy) := h
    cases dx <;> try exact cmp_data g I rx ry sg hx hy h1
    cases dy <;> try exact cmp_data g I rx ry sg hx hy h1
    rename_i c ks ds c' k2 d2
    by_cases hc : c' = c
    · subst hc
      cases hm : T.mt c' 0 with
      | none => simp [eqO, hm] at h1; exact False.elim h1
      | some f =>
        simp [eqO, hm] at h1
        obtain ⟨a, dx, fs, rfl, ha, _⟩ := obj_at sg hx
        obtain ⟨b, dx2, fs2, rfl, hb, _⟩ := obj_at sg hy
        cases rx; cases ry
        obtain ⟨Mt, d, hd, hi⟩ := g.ev.mth c' 0 f hm
        obtain ⟨mA, J, _⟩ := ins_get I.hok ha
        obtain ⟨mB, J', _⟩ := ins_get I.hok hb
        obtain ⟨od, J, _⟩ := J.look
        obtain ⟨od', J', _⟩ := J'.look
        obtain ⟨m', hF⟩ := I.fr
        show wpAny (model X.prog X.w) X.A (richCompare .Eq (.ref a) (.ref b)) (EP X pins σ Q) X.xe s
        refine PySem.W.cmp_K (op := .Eq) (tb := .ref (M.C X.K c')) g.room.units0 hF I.ok.mod.kin J J'.type (by simp [PySem.W.notFirst]) (by have := Mt.at_; rw [g.ev.m0] at this; exact this) Mt.fn ?_
        exact thn (fn_call (us := [.ref a, .ref b]) (vs := [.ref a, .ref b]) g hd hi fr_refl (g.room.mono (by omega)) I (.cons rfl (.cons rfl .nil)) sg (.cons hx (.cons hy .nil)) h1) fun u s' q => ep_cmp q
    · simp [eqO, hc] at h1; exact False.elim h1
  · intro pins s σ H x y v u Q I rx ry ⟨G, dx, dy, sg, hx, hy, h⟩
    have h1 : Out M X.K W H G Q (match eqD dx dy with
      | .ok b => R.ok (D.bl (!b))
      | _ => .no) := h
    cases e : eqD dx dy with
    | ok b =>
      rw [e] at h1
      obtain ⟨p, q, e1, e2, rfl⟩ := eqD_some e
      exact op_neD g.room.units pins s σ H x y v u Q I rx ry ⟨p, q, toP_dp sg e1 hx, toP_dp sg e2 hy, toP_shaped e1, toP_shaped e2, h1.now sg (.bl _)⟩
    | ex c ds => rw [e] at h1; exact False.elim h1
    | no => rw [e] at h1; exact False.elim h1
  all_goals
    intro pins s σ H x y v u Q I rx ry ⟨G, dx, dy, sg, hx, hy, h⟩
    cases e : inD dx dy with
    | ok b =>
      simp only [cmpD, e] at h
      unfold inD at e
      cases q1 : flatD dx with
      | none => rw [q1] at e; cases e
      | some vx =>
        rw [q1] at e
        obtain ⟨e1, e2⟩ := flatD_rep q1 hx
        subst e1
        cases hy <;> first | (cases e; done) | skip
        all_goals
          rename_i p ys es hp hys
          cases q2 : flatDs es with
          | none => simp only [q2] at e; cases e
          | some ws =>
            simp only [q2] at e
            cases e
            obtain ⟨e3, e4⟩ := flatDs_rep q2 hys
            subst e3
            first
              | exact op_in_seq pins s σ H _ _ v u Q I rx ry ⟨_, ys, rfl, .inr (.of (sg _ _ hp)), e2, e4, h.now sg (.bl _)⟩
              | exact op_in_seq pins s σ H _ _ v u Q I rx ry ⟨_, ys, rfl, .inl (.of (sg _ _ hp)), e2, e4, h.now sg (.bl _)⟩
              | exact op_notIn_seq pins s σ H _ _ v u Q I rx ry ⟨_, ys, rfl, .inr (.of (sg _ _ hp)), e2, e4, h.now sg (.bl _)⟩
              | exact op_notIn_seq pins s σ H _ _ v u Q I rx ry ⟨_, ys, rfl, .inl (.of (sg _ _ hp)), e2, e4, h.now sg (.bl _)⟩
    | ex c ds => simp only [cmpD, e] at h; exact False.elim h
    | no => simp only [cmpD, e] at h; exact False.elim h
/-! ### items, slices -/
theorem atI_some {ds : List D} {i : Int} {d : D} {vs : List V} (h : atI ds i = some d) (r : Reps M K G vs ds) : ∃ v, atI vs i = some v ∧ Rep M K G v d := by
  unfold atI at h ⊢
  rw [r.length]
  cases e : ixN ds.length i with
  | none => rw [e] at h; cases h
  | some j =>
    rw [e] at h
    obtain ⟨v, h1, h2⟩ := r.get (i := j) h
    exact ⟨v, by simpa using h1, h2⟩
def rIxS (T : Tab) (M : Nm) (W : XK) (K : PySem.W.Frag) : R2 := rB2 T M W K ixD
theorem ix_any : IxR X (rB2 T M W X.K ixD) := by
  intro va sl pins s σ H x y v u Q I rx ry ⟨G, dx, dy, sg, hx, hy, h⟩ hs
  cases hy <;> first | exact False.elim h | skip
  rename_i i
  cases hx <;> first | exact False.elim h | skip
  · rename_i a vs ds ha hvs
    cases e : atI ds i with
    | none => simp only [ixD, itemsD, e] at h; exact False.elim h
    | some d =>
      simp only [ixD, itemsD, e] at h
      obtain ⟨w, h1, h2⟩ := atI_some e hvs
      exact ix_tup va sl pins s σ H _ _ v u Q I rx ry ⟨a, vs, i, w, rfl, rfl, .of (sg _ _ ha), h1, h.now sg h2⟩ hs
  · rename_i a vs ds ha hvs
    cases e : atI ds i with
    | none => simp only [ixD, itemsD, e] at h; exact False.elim h
    | some d =>
      simp only [ixD, itemsD, e] at h
      obtain ⟨w, h1, h2⟩ := atI_some e hvs
      exact ix_list va sl pins s σ H _ _ v u Q I rx ry ⟨a, vs, i, w, rfl, rfl, .of (sg _ _ ha), h1, h.now sg h2⟩ hs
  · rename_i a ns ha
    cases e : atI (ns.map D.int) i with
    | none => simp only [ixD, itemsD, e] at h; exact False.elim h
    | some d =>
      simp only [ixD, itemsD, e] at h
      obtain ⟨w, h1, h2⟩ := atI_some (M := M) (K := X.K) (G := G) e (Reps.ints ns)
      exact ix_list va sl pins s σ H _ _ v u Q I rx ry ⟨a, _, i, w, rfl, rfl, sub_l sg ha, h1, h.now sg h2⟩ hs
theorem cut_rep {vs : List V} {ds : List D} (r : Reps M K G vs ds) (lo hi : Option Int) : Reps M K G (cutV vs lo hi) (cutD ds lo hi) := by
  unfold cutV cutD
  rw [r.length]
  exact (r.drop _).take _
def rSl (T : Tab) (M : Nm) (W : XK) (K : PySem.W.Frag) : V → Option Int → Option Int → Hp → VK → Prop := fun x lo hi H Q => ∃ (G : Hp) (dx : D), Sub G H ∧ Rep M K G x dx ∧ Out M K W H G Q (slD dx lo hi)
theorem sl_any : SlR X (rSl T M W X.K) := by
  intro pins s σ H x v vl vu lo hi sl Q I rx hs pl pu h
  obtain ⟨G, dx, sg, hx, h⟩ := h
  cases hx <;> first | exact False.elim h | skip
  · rename_i a vs ds ha hvs
    refine sl_tupA pins s σ H _ v vl vu lo hi sl Q I rx hs pl pu ⟨a, vs, rfl, .of (sg _ _ ha), fun hw => ?_, fun _ p hp => ?_⟩
    · have e : cutD ds lo hi = ds := by
        unfold cutD
        rw [hvs.length] at hw
        rw [hw.1, hw.2]
        simp
      have h' : Out M X.K W H G Q (.ok (.tup (cutD ds lo hi))) := h
      rw [e] at h'
      exact h'.now sg (.tup ha hvs)
    · exact h _ _ _ (Grow.laid sg hp) (.tup upd_same ((cut_rep hvs lo hi).mono (Grow.laid sg hp).sub))
  · rename_i a vs ds ha hvs
    refine sl_list pins s σ H _ v vl vu lo hi sl Q I rx hs pl pu ⟨a, vs, rfl, .of (sg _ _ ha), fun p hp => ?_⟩
    exact h _ _ _ (Grow.laid sg hp) (.lst upd_same ((cut_rep hvs lo hi).mono (Grow.laid sg hp).sub))
end
end Fc

set_option Elab.async false
set_option linter.all false
set_option maxRecDepth 100000
set_option maxHeartbeats 4000000
namespace Fc
open PySem PySem.Spec PyProof.Rows L2
section
variable {T : Tab} {M : Nm} {n : Nat} {W : XK} {X : Cx} {K : PySem.W.Frag} {H G : Hp}
/-! ### built-in functions -/
def rLs (T : Tab) (M : Nm) (W : XK) (K : PySem.W.Frag) (f : List D → R D) : List V → Hp → VK → Prop := fun vs H Q => ∃ (G : Hp) (ds : List D), Sub G H ∧ Reps M K G vs ds ∧ Out M K W H G Q (f ds)
theorem items_seq {v : V} {d : D} {ds : List D} (sg : Sub G H) (r : Rep M K G v d) (e : itemsD d = some ds) : ∃ a vs, v = .ref a ∧ (SqL K H a vs ∨ SqT K H a vs) ∧ Reps M K G vs ds := by
  cases r <;> first | (cases e; done) | skip
  · cases e; exact ⟨_, _, rfl, .inr (.of (sg _ _ (by assumption))), by assumption⟩
  · cases e; exact ⟨_, _, rfl, .inl (.of (sg _ _ (by assumption))), by assumption⟩
  · cases e; exact ⟨_, _, rfl, .inl (sub_l sg (by assumption)), Reps.ints _⟩
theorem insertI_perm (x : Int) : ∀ l : List Int, (insertI x l).Perm (x :: l)
  | [] => .refl _
  | y :: ys => by
    unfold insertI
    split
    · exact .refl _
    · exact ((insertI_perm x ys).cons y).trans (.swap x y ys)
theorem sortI_perm : ∀ l : List Int, (sortI l).Perm l
  | [] => .refl _
  | x :: xs => (insertI_perm x _).trans ((sortI_perm xs).cons x)
theorem insertI_sorted (x : Int) : ∀ l : List Int, l.Pairwise (· ≤ ·) → (insertI x l).Pairwise (· ≤ ·)
  | [], _ => by simp [insertI]
  | y :: ys, h => by
    unfold insertI
    rw [List.pairwise_cons] at h
    split
    · rename_i hx
      rw [List.pairwise_cons, List.pairwise_cons]
      refine ⟨fun z hz => ?_, h⟩
      rcases List.mem_cons.mp hz with e | hz
      · rw [e]; exact hx
      · have := h.1 z hz; omega
    · rename_i hx
      rw [List.pairwise_cons]
      refine ⟨fun z hz => ?_, insertI_sorted x ys h.2⟩
      rcases List.mem_cons.mp ((insertI_perm x ys).mem_iff.mp hz) with e | hz
      · omega
      · exact h.1 z hz
theorem sortI_sorted : ∀ l : List Int, (sortI l).Pairwise (· ≤ ·)
  | [] => .nil
  | x :: xs => insertI_sorted x _ (sortI_sorted xs)
theorem sortI_uniq {l l' : List Int} (h : l'.Perm l) (s : l'.Pairwise (· ≤ ·)) : l' = sortI l := (h.trans (sortI_perm l).symm).eq_of_pairwise (fun x y _ _ h1 h2 => Int.le_antisymm h1 h2) s (sortI_sorted l)
theorem reps_int1 {vs : List V} {i : Int} (r : Reps M K G vs [.int i]) : vs = [.int i] := by
  cases r with
  | cons r1 r2 => cases r2; cases r1; rfl
theorem reps_1 {vs : List V} {d : D} (r : Reps M K G vs [d]) : ∃ v, vs = [v] ∧ Rep M K G v d := by
  cases r with
  | cons r1 r2 => cases r2; exact ⟨_, rfl, r1⟩
theorem reps_2 {vs : List V} {d e : D} (r : Reps M K G vs [d, e]) : ∃ v w, vs = [v, w] ∧ Rep M K G v d ∧ Rep M K G w e := by
  cases r with
  | cons r1 r2 =>
    obtain ⟨w, rfl, h⟩ := reps_1 r2
    exact ⟨_, _, rfl, r1, h⟩
/-- the built-in that a name stands for -/
def bval : Bf → Value
  | .len => .builtin "len" | .gcd => .builtin "math.gcd" | .abs => .builtin "abs" | .int => .type "int" | .sum => .builtin "sum" | .all => .builtin "all" | .any => .builtin "any"
  | .tuple => .type "tuple" | .list => .type "list" | .min2 => .builtin "min" | .max2 => .builtin "max" | .sorted => .builtin "sorted" | .lcm => .builtin "math.lcm" | .maxL => .builtin "max"
theorem len_any (g : Good T M n W X) : CallR X (.builtin "len") (rLs T M W X.K (bfD T (call T n) .len)) := by
  intro pins s σ H vs us Q I r ⟨G, ds, sg, hv, h⟩
  match ds, hv, h with
  | [], _, h => exact False.elim h
  | [d], hv, h =>
    obtain ⟨v, rfl, hw⟩ := reps_1 hv
    by_cases hobj : ∃ c ks fs, d = .obj c ks fs
    · obtain ⟨c, ks, fs, rfl⟩ := hobj
      obtain ⟨a, dx, fs', rfl, ha, _⟩ := obj_at sg hw
      obtain ⟨u, rfl, ru⟩ := vals1 r
      cases ru
      cases hm : T.mt c 1 with
      | none => simp [bfD, hm] at h; exact False.elim h
      | some f =>
        obtain ⟨Mt, d, hd, hi⟩ := g.ev.mth c 1 f hm
        obtain ⟨mA, J, _⟩ := ins_get I.hok ha
        obtain ⟨od, J, _⟩ := J.look
        obtain ⟨m', hF⟩ := I.fr
        have h2 : Out M X.K W H G (fun v H1 => ∃ i : Int, v = .int i ∧ 0 ≤ i ∧ i < 2 ^ 62 ∧ Q (.int i) H1) (call T n f [.obj c ks fs]) := by
          simp only [bfD, hm] at h
          cases e : call T n f [.obj c ks fs] with
          | ok d' =>
            rw [e] at h
            cases d' <;> first | exact False.elim h | skip
            rename_i i
            simp only at h
            split at h
            · intro v' H' G' g' r'
              refine ⟨i, r'.toInt, by omega, by omega, ?_⟩
              exact h _ _ _ g' (.int i)
            · exact False.elim h
          | ex c' ds' => rw [e] at h; exact h
          | no => rw [e] at h; exact h
        refine PySem.W.len_K hF I.ok.mod.kin J (by have := Mt.at_; rw [g.ev.m1] at this; exact this) Mt.fn ?_
        refine thn (fn_call (A := X.A.in1) (us := [.ref a]) (vs := [.ref a]) g hd hi rfl ((g.room.mono (by omega) : Room (2 * n + 40 + 1) X.A).in1) I (.cons rfl .nil) sg (.cons hw .nil) h2) fun u' s' q => ?_
        obtain ⟨w, H', I', rw', i, rfl, h0, h1, q⟩ := q
        obtain ⟨t, rfl⟩ := rw'
        exact ⟨⟨h0, by omega⟩, ⟨.int i, H', I'.tok _, ⟨_, rfl⟩, q⟩⟩
    · cases e : itemsD d with
      | none =>
        have : bfD T (call T n) .len [d] = .no := by
          cases d <;> first | (exact absurd ⟨_, _, _, rfl⟩ hobj) | (simp [itemsD] at e; done) | rfl
        rw [this] at h; exact False.elim h
      | some ds' =>
        obtain ⟨a, ws, rfl, hs, hr⟩ := items_seq sg hw e
        have : bfD T (call T n) .len [d] = .ok (.int ds'.length) := by
          cases d <;> first | (exact absurd ⟨_, _, _, rfl⟩ hobj) | (simp [itemsD] at e; done) | (simp [bfD, biD, e])
        rw [this] at h
        exact call_len_seq pins s σ H _ us Q I r ⟨a, ws, rfl, hs, by rw [hr.length]; exact h.now sg (.int _)⟩
  | d :: e :: r, _, h =>
    have : bfD T (call T n) .len (d :: e :: r) = .no := by cases d <;> rfl
    rw [this] at h; exact False.elim h
theorem bi_any (g : Good T M n W X) (b : Bf) (hb : b ≠ .lcm) (hm : b ≠ .maxL) : CallR X (bval b) (rLs T M W X.K (bfD T (call T n) b)) := by
  cases b <;> try contradiction
  · exact len_any g
  all_goals
    intro pins s σ H vs us Q I r ⟨G, ds, sg, hv, h⟩
  · -- gcd
    match ds, hv, h with
    | [.int a, .int b], hv, h =>
      obtain ⟨v, w, rfl, h1, h2⟩ := reps_2 hv
      cases h1; cases h2
      exact cr_gcd pins s σ H _ us Q I r ⟨a, b, rfl, h.now sg (.int _)⟩
  · match ds, hv, h with
    | [.int a], hv, h =>
      obtain ⟨v, rfl, h1⟩ := reps_1 hv
      cases h1
      exact call_abs pins s σ H _ us Q I r ⟨a, rfl, h.now sg (.int _)⟩
  · match ds, hv, h with
    | [.int a], hv, h =>
      obtain ⟨v, rfl, h1⟩ := reps_1 hv
      cases h1
      exact call_int1 pins s σ H _ us Q I r (.inl ⟨a, rfl, h.now sg (.int _)⟩)
    | [.bl a], hv, h =>
      obtain ⟨v, rfl, h1⟩ := reps_1 hv
      cases h1
      exact call_int1 pins s σ H _ us Q I r (.inr ⟨a, rfl, h.now sg (.int _)⟩)
  · match ds, hv, h with
    | [.lst es], hv, h =>
      obtain ⟨v, rfl, h1⟩ := reps_1 hv
      cases h1 with
      | lst ha hr =>
        cases e : intsD es with
        | none => simp only [bfD, biD, e] at h; exact False.elim h
        | some ns =>
          simp only [bfD, biD, e] at h
          have ev := hr.intsD e
          subst ev
          exact cr_sum g.calm pins s σ H _ us Q I r ⟨_, ns, rfl, .of (sg _ _ ha), h.now sg (.int _)⟩
  · match ds, hv, h with
    | [.lst es], hv, h =>
      obtain ⟨v, rfl, h1⟩ := reps_1 hv
      cases h1 with
      | lst ha hr =>
        cases e : blsD es with
        | none => simp only [bfD, biD, e] at h; exact False.elim h
        | some ns =>
          simp only [bfD, biD, e] at h
          have ev := hr.blsD e
          subst ev
          exact cr_all g.calm pins s σ H _ us Q I r ⟨_, ns, rfl, .of (sg _ _ ha), h.now sg (.bl _)⟩
  · match ds, hv, h with
    | [.lst es], hv, h =>
      obtain ⟨v, rfl, h1⟩ := reps_1 hv
      cases h1 with
      | lst ha hr =>
        cases e : blsD es with
        | none => simp only [bfD, biD, e] at h; exact False.elim h
        | some ns =>
          simp only [bfD, biD, e] at h
          have ev := hr.blsD e
          subst ev
          exact cr_any g.calm pins s σ H _ us Q I r ⟨_, ns, rfl, .of (sg _ _ ha), h.now sg (.bl _)⟩
  · match ds, hv, h with
    | [.lst es], hv, h =>
      obtain ⟨v, rfl, h1⟩ := reps_1 hv
      cases h1 with
      | lst ha hr =>
        exact call_tuple_of pins s σ H _ us Q I r ⟨_, _, rfl, .inl ⟨.of (sg _ _ ha), fun l hl => h _ _ _ (Grow.laid sg hl) (.tup upd_same (hr.mono (Grow.laid sg hl).sub))⟩⟩
    | [.tup es], hv, h =>
      obtain ⟨v, rfl, h1⟩ := reps_1 hv
      cases h1 with
      | tup ha hr =>
        exact call_tuple_of pins s σ H _ us Q I r ⟨_, _, rfl, .inr ⟨.of (sg _ _ ha), h.now sg (.tup ha hr)⟩⟩
  · match ds, hv, h with
    | [.lst es], hv, h =>
      obtain ⟨v, rfl, h1⟩ := reps_1 hv
      cases h1 with
      | lst ha hr =>
        exact call_list_of pins s σ H _ us Q I r ⟨_, _, rfl, .inl (.of (sg _ _ ha)), fun l hl => h _ _ _ (Grow.laid sg hl) (.lst upd_same (hr.mono (Grow.laid sg hl).sub))⟩
    | [.tup es], hv, h =>
      obtain ⟨v, rfl, h1⟩ := reps_1 hv
      cases h1 with
      | tup ha hr =>
        exact call_list_of pins s σ H _ us Q I r ⟨_, _, rfl, .inr (.of (sg _ _ ha)), fun l hl => h _ _ _ (Grow.laid sg hl) (.lst upd_same (hr.mono (Grow.laid sg hl).sub))⟩
  · match ds, hv, h with
    | [.int a, .int b], hv, h =>
      obtain ⟨v, w, rfl, h1, h2⟩ := reps_2 hv
      cases h1; cases h2
      exact call_min2 g.calm pins s σ H _ us Q I r ⟨a, b, rfl, h.now sg (.int _)⟩
  · match ds, hv, h with
    | [.int a, .int b], hv, h =>
      obtain ⟨v, w, rfl, h1, h2⟩ := reps_2 hv
      cases h1; cases h2
      exact call_max2 g.calm pins s σ H _ us Q I r ⟨a, b, rfl, h.now sg (.int _)⟩
  · match ds, hv, h with
    | [.lst es], hv, h =>
      obtain ⟨v, rfl, h1⟩ := reps_1 hv
      cases h1 with
      | lst ha hr =>
        cases e : intsD es with
        | none => simp only [bfD, biD, e] at h; exact False.elim h
        | some ns =>
          simp only [bfD, biD, e] at h
          have ev := hr.intsD e
          subst ev
          refine cr_sortedI pins s σ H _ us Q I r ⟨_, ns, rfl, .of (sg _ _ ha), fun ns' p hp hs np => ?_⟩
          rw [sortI_uniq hp hs]
          exact h _ _ _ (Grow.laid sg np) (.lst upd_same (Reps.ints _))
end
end Fc

set_option Elab.async false
set_option linter.all false
set_option maxRecDepth 100000
set_option maxHeartbeats 4000000
/-! enumerate of a tuple, zip of a list and a tuple: the walks that the layer lacks. -/
namespace PySem
open Sem (wp)
theorem fc_meets_enumT (l : Addr) (items : Array Value) :
    Meets (Builtin.«enumerate.__new__» ⟨[.type "enumerate", .ref l], []⟩) (fun _ R s => s.heap.IsTuple l items ∧
      R (.ok (.ret (.ref (s.heap.push { cls := .type "tuple_iterator", data := .fields #[.ref l, .int 0 0] }).objs.size)))
        { s with heap := (s.heap.push { cls := .type "tuple_iterator", data := .fields #[.ref l, .int 0 0] }).push { cls := .type "enumerate", data := .fields #[.none, .bool false, .ref s.heap.objs.size, rawInt 0, .none, .none] } }) :=
  .of_wp fun prog w A R s h => by
    obtain ⟨hp, g, d, tk, os⟩ := s
    obtain ⟨h1, h⟩ := h
    have hsub := sub_enumerate
    have q1 : ∀ {A' : Around} {E : Value → Shared → Prop} {Q : Value → Shared → Prop}, Q (.ref hp.objs.size) ⟨hp.push { cls := .type "tuple_iterator", data := .fields #[.ref l, .int 0 0] }, g, d, tk, os⟩ → wpAny (model prog w) A' (pyIter (.ref l)) Q E ⟨hp, g, d, tk, os⟩ :=
      fun q => wpAny_pyIter_tuple (s := ⟨hp, g, d, tk, os⟩) h1 q
    wp_walk using q1
    refine wpAny_stack_any fun st => wpAny_pure ?_
    split
    · rename_i c _ _ _ _ _
      cases (c == Value.type "enumerate")
      · wp_walk using q1
        exact ⟨_, rfl, h⟩
      · wp_walk using q1
        exact ⟨_, rfl, h⟩
    · wp_walk using q1
      exact ⟨_, rfl, h⟩
section
variable {prog : Program} {w : World} {A : Around} {E : Value → Shared → Prop} {s : Shared}
theorem fc_call_enumT {l : Addr} {items : Array Value} {Q : Value → Shared → Prop} (hL : s.heap.IsTuple l items)
    (h : ∀ h', IsEnum h' (s.heap.objs.size + 1) s.heap.objs.size 0 .none → h'.IsTupleIter s.heap.objs.size l 0 → h'.objs.size = s.heap.objs.size + 2 →
      (∀ b o, s.heap.get? b = some o → h'.get? b = some o) → Q (.ref (s.heap.objs.size + 1)) { s with heap := h' }) :
    wpAny (model prog w) A (call (.type "enumerate") [.ref l]) Q E s := by
  refine callType_new F.called_enumerate (by decide) (F.typeCall_enumerate_1 _) (F.newCall_enumerate_1 _) (fun obj => F.args_object_init_2 obj _) F.entry_enumerate_new
    (fc_meets_enumT l items) ⟨hL, ?_⟩
  have hz : (s.heap.push { cls := .type "tuple_iterator", data := .fields #[.ref l, .int 0 0] }).objs.size = s.heap.objs.size + 1 := Heap.size_push ..
  show _ ∧ _
  rw [hz]
  have he : IsEnum ((s.heap.push { cls := .type "tuple_iterator", data := .fields #[.ref l, .int 0 0] }).push
      { cls := .type "enumerate", data := .fields #[.none, .bool false, .ref s.heap.objs.size, rawInt 0, .none, .none] }) (s.heap.objs.size + 1) s.heap.objs.size 0 .none := by
    have := Heap.get?_push_size (s.heap.push { cls := .type "tuple_iterator", data := .fields #[.ref l, .int 0 0] })
      (o := { cls := .type "enumerate", data := .fields #[.none, .bool false, .ref s.heap.objs.size, rawInt 0, .none, .none] }) rfl
    rw [hz] at this; exact this
  refine ⟨⟨_, he, rfl⟩, h _ he ⟨_, Heap.get?_push_of_some _ (Heap.get?_push_size _ rfl), rfl, rfl⟩ (by rw [Heap.size_push, hz]) fun b o x => Heap.get?_push_of_some _ (Heap.get?_push_of_some _ x)⟩
end
end PySem
namespace Fc
open PySem PySem.Spec PyProof.Rows L2
/-! ### a list or a tuple that is walked -/
def sIter (k : Bool) (h : Heap) (it a : Addr) (i : Nat) : Prop := match k with
  | true => h.IsListIter it a i
  | false => h.IsTupleIter it a i
def sSrc (k : Bool) (h : Heap) (a : Addr) (items : Array Value) : Prop := match k with
  | true => h.IsList a items
  | false => h.IsTuple a items
def sSq (k : Bool) (K : PySem.W.Frag) (H : Hp) (a : Addr) (xs : List V) : Prop := match k with
  | true => SqL K H a xs
  | false => SqT K H a xs
section
variable {X : Cx} {pins : List (Addr × Obj)} {σ : L2.St} {H : Hp} {s : Shared} {a it : Addr} {xs ys : List V} {k : Bool} {i : Nat} {h h' : Heap}
theorem s_read (I : L2.Inv X pins σ H s) (h : sSq k X.K H a xs) : ∃ its : List Value, Vals xs its ∧ sSrc k s.heap a its.toArray ∧ xs.length ≤ sizeLine := by
  cases k with
  | true => obtain ⟨its, r, p, z⟩ := I.list h; exact ⟨its, r, p.isList, z⟩
  | false => obtain ⟨its, r, p, z⟩ := I.tuple h; exact ⟨its, r, p, z⟩
theorem s_inj (I : L2.Inv X pins σ H s) (h : sSq k X.K H a xs) (h' : sSq k X.K H a ys) : xs = ys := by
  cases k with
  | true => exact I.list_inj h h'
  | false => exact I.tuple_inj h h'
theorem s_draws {prog : Program} {w : World} {A : Around} (hh : A.handled = none) (it a : Addr) (hne : a ≠ it) (items : Array Value) :
    Draws prog w A it [it, a] items.size (fun i v => items[i]? = some v) (fun i h => sIter k h it a i ∧ sSrc k h a items) := by
  cases k with
  | true => exact Draws.list hh it a hne items
  | false => exact Draws.tuple hh it a hne items
theorem s_there (h1 : sIter k h it a i) : ∃ o, h.get? it = some o ∧ ∀ v, o.data ≠ .cell v := by
  cases k with
  | true => obtain ⟨o, e, _, d⟩ := h1; exact ⟨o, e, fun v q => by rw [d] at q; cases q⟩
  | false => obtain ⟨o, e, _, d⟩ := h1; exact ⟨o, e, fun v q => by rw [d] at q; cases q⟩
theorem s_src_there (h1 : sSrc k h a xs') : ∃ o, h.get? a = some o := by
  cases k with
  | true => obtain ⟨o, e, _⟩ := h1; exact ⟨o, e⟩
  | false => obtain ⟨o, e, _⟩ := h1; exact ⟨o, e⟩
theorem s_at (h1 : sIter k h it a i) (f : ∀ o, h.get? it = some o → h'.get? it = some o) : sIter k h' it a i := by
  cases k with
  | true => exact PySem.Heap.IsListIter.at h1 f
  | false => exact PySem.Heap.IsTupleIter.at h1 f
def sObj (k : Bool) (a : Addr) : Obj := match k with
  | true => { cls := .type "list_iterator", data := .fields #[.ref a, .int 0 0] }
  | false => { cls := .type "tuple_iterator", data := .fields #[.ref a, .int 0 0] }
theorem s_begins (a : Addr) (items : Array Value) : Begins (.ref a) (sObj k a) fun h => sSrc k h a items := by
  cases k with
  | true => exact begins_list a items
  | false => exact begins_tuple a items
theorem s_new (e : h.get? it = some (sObj k a)) : sIter k h it a 0 := by
  cases k with
  | true => exact ⟨_, e, rfl, rfl⟩
  | false => exact ⟨_, e, rfl, rfl⟩
end
/-! ### enumerate -/
def IteG (K : PySem.W.Frag) (k : Bool) (a : Addr) : L2.It :=
  ⟨fun i H => ∃ (xs : List V) (x : V), sSq k K H a xs ∧ xs[i]? = some x, fun i H v H' => ∃ T x, v = .ref T ∧ H T = none ∧ H' = upd H T (.tup [.int (i : Nat), x]) ∧ ∀ xs, sSq k K H a xs → xs[i]? = some x, fun i H => ∃ xs : List V, sSq k K H a xs ∧ xs.length = i⟩
theorem turn_enumG {P : Program} {w : World} {K : PySem.W.Frag} {elts : List Expr} {kk : Nat} {tpos : Pos} {k : Bool} (a e it : Addr) (hai : a ≠ it) (hae : a ≠ e) :
    Turn P w K (.Tuple elts kk tpos) (IteG K k a) [e, it] e (fun i h => (∃ old, IsEnum h e it ((i : Nat) : Int) old) ∧ sIter k h it a i ∧ e ≠ it) where
  mem := by simp
  obj := fun i h st b hb => by
    obtain ⟨⟨old, he⟩, hi, _⟩ := st
    have e' : b = e ∨ b = it := by simpa using hb
    rcases e' with z | z
    · rw [z]; exact ⟨_, he, fun v q => nomatch q⟩
    · rw [z]; exact s_there hi
  keep := fun i h h' st kk => let ⟨⟨old, he⟩, hi, hne⟩ := st; ⟨⟨old, kk e (by simp) _ he⟩, s_at hi fun o q => kk it (by simp) o q, hne⟩
  item := by
    intro X hP hw hK hc i pins s σ H E I hf st hg
    subst hP hw hK
    obtain ⟨⟨old, he⟩, hit, hne⟩ := st
    obtain ⟨xs, x, hq, hx⟩ := hg
    obtain ⟨its, rv, p, hz⟩ := s_read I hq
    obtain ⟨u, hu, ru⟩ := rv.get hx
    have hel : e < s.heap.objs.size := Heap.lt_size he
    have hil : it < s.heap.objs.size := by obtain ⟨_, q, _⟩ := s_there hit; exact Heap.lt_size q
    have hlt : i < its.toArray.size := by
      have := (List.getElem?_eq_some_iff.mp hu).1
      simpa using this
    refine wpAny_pyNext_enum_itemD (s_draws (k := k) (A := X.A.in1) (I.ok.hd hc) it a hai its.toArray) he ⟨hit, p⟩ hlt hne (by simp [hne, Ne.symm hae]) fun x' h' tk px ho hit' hT hsz hk => ?_
    have ex : x' = u := by
      have q : its.toArray[i]? = some x' := px
      rw [List.getElem?_toArray, hu] at q
      exact (Option.some.inj q).symm
    subst ex
    refine ⟨_, rfl, wpAny_letOwnedTupleGo_enum (s := { s with heap := h', toks := tk + 1 }) ho fun h'' he' sb => ?_⟩
    have hT2 : h''.get? s.heap.objs.size = some { cls := .type "tuple", data := .seq #[.int i tk, x'] } := (sb.2 _ (Nat.ne_of_gt hel)).trans hT
    have new : ObjOk X.prog X.w (upd H s.heap.objs.size (.tup [.int (i : Nat), x])) h'' s.heap.objs.size (.tup [.int (i : Nat), x]) :=
      ⟨by show 2 ≤ sizeLine; decide, [.int i tk, x'], .cons ⟨_, rfl⟩ (.cons ru .nil), ⟨_, hT2, rfl, _, rfl⟩⟩
    have I1 : L2.Inv X pins σ (upd H s.heap.objs.size (.tup [.int (i : Nat), x])) { s with heap := h'', toks := tk + 1 } :=
      I.turnedNew (ch := [e, it]) (fun b ob hb q => (sb.2 b (fun z => hb (by simp [z]))).trans (hk b ob (fun z => hb (by simp [z])) (fun z => hb (by simp [z])) q)) hf (Nat.le_refl _) new
    refine ⟨.ref s.heap.objs.size, _, I1, rfl, ⟨_, x, rfl, I.hok.fresh (Nat.le_refl _), rfl, fun ys hy => by rw [s_inj I hy hq]; exact hx⟩, ⟨⟨x', ?_⟩, s_at hit'.1 fun o q => (sb.2 it (Ne.symm hne)).trans q, hne⟩, fun b hb => ?_⟩
    · have e1 : ((i + 1 : Nat) : Int) = (i : Int) + 1 := by omega
      rw [e1]; exact he'
    · have hb' : b < s.heap.objs.size := by
        have e' : b = e ∨ b = it := by simpa using hb
        rcases e' with z | z
        · rw [z]; exact hel
        · rw [z]; exact hil
      rw [upd_ne (Nat.ne_of_lt hb')]
      exact (hf b hb).1
  done := by
    intro X hP hw hK hc i pins s σ H E I hf st hg
    subst hP hw hK
    obtain ⟨⟨old, he⟩, hit, hne⟩ := st
    obtain ⟨xs, hq, hx⟩ := hg
    obtain ⟨its, rv, p, hz⟩ := s_read I hq
    obtain ⟨f0, f1, f2, f3, f4, f5⟩ := hf it (by simp)
    have hl : i = its.toArray.size := by rw [List.size_toArray, ← rv.length, hx]
    refine wpAny_pyNext_enum_endD (s_draws (k := k) (A := X.A.in1) (I.ok.hd hc) it a hai its.toArray) he ⟨hl ▸ hit, p⟩ fun h' eb => ⟨rfl, I.turned (t' := s.toks) (fun b o hb q => eb b o hb q) f0 f1 f3 f4 f5⟩
  self := fun A i s Q E st h => let ⟨⟨_, he⟩, _⟩ := st; wpAny_pyIter_enum he h
def iEnumG (K : PySem.W.Frag) (ta : TA) : TI := fun σ H R => ta σ H fun vs H1 => ∃ a xs k, vs = [.ref a] ∧ sSq k K H1 a xs ∧ R (IteG K k a) H1
theorem pi_enumG {X : Cx} {e : Expr} {ta : TA} {p pos tpos : Pos} {elts : List Expr} {kk : Nat} (hg : Gl X "enumerate") (hm : X.mg "enumerate" = none) (ha : PA X [e] ta) (hs : plainX e = true) :
    PI X (.Tuple elts kk tpos) (.Call (.Name "enumerate" p) [e] [] pos) (iEnumG X.K ta) := by
  refine ⟨fun pins s σ H R I h => ?_⟩
  refine Call_ (ld_blt I hg hm boot_enumerate (PyProof.Rows.callWith_type1 (thn (ha.run pos pins s σ H _ I h) fun us s1 ⟨vs, H1, I1, r1, q1⟩ => ?_) (star_plain hs) rfl))
  obtain ⟨a, xs, k, rfl, hq, q⟩ := q1
  obtain ⟨u, rfl, ru⟩ := vals1 r1
  cases ru
  obtain ⟨its, rv, p', hz⟩ := s_read I1 hq
  have ha : a < s1.heap.objs.size := by obtain ⟨o, e⟩ := s_src_there p'; exact Heap.lt_size e
  have fin : ∀ h', IsEnum h' (s1.heap.objs.size + 1) s1.heap.objs.size 0 .none → sIter k h' s1.heap.objs.size a 0 → (∀ b o, s1.heap.get? b = some o → h'.get? b = some o) → wpAny (model X.prog X.w) X.A (pyIter (.ref (s1.heap.objs.size + 1))) (PIE X pins σ (.Tuple elts kk tpos) R) X.xe { s1 with heap := h' } := by
    intro h' he hit hk
    refine wpAny_pyIter_enum he ?_
    have I2 : L2.Inv X pins σ H1 { s1 with heap := h' } := I1.kept (t' := s1.toks) hk
    refine ⟨s1.heap.objs.size + 1, [s1.heap.objs.size + 1, s1.heap.objs.size], _, _, H1, rfl, I2, turn_enumG (k := k) a (s1.heap.objs.size + 1) s1.heap.objs.size (Nat.ne_of_lt ha) (Nat.ne_of_lt (Nat.lt_succ_of_lt ha)), ⟨⟨.none, he⟩, hit, Nat.succ_ne_self _⟩, fun b hb => ?_, q⟩
    have e' : b = s1.heap.objs.size + 1 ∨ b = s1.heap.objs.size := by simpa using hb
    have hle : s1.heap.objs.size ≤ b := by
      rcases e' with z | z
      · rw [z]; exact Nat.le_add_right _ _
      · rw [z]; exact Nat.le_refl _
    exact I1.fpOk hle (I1.hok.fresh hle)
  cases k with
  | true => exact call_enumerate_list p' fun h' he hit _ hk => fin h' he hit hk
  | false => exact fc_call_enumT p' fun h' he hit _ hk => fin h' he hit hk
/-! ### zip -/
def ItzG (K : PySem.W.Frag) (k1 k2 : Bool) (a b : Addr) : L2.It :=
  ⟨fun i H => ∃ (xs ys : List V) (x y : V), sSq k1 K H a xs ∧ sSq k2 K H b ys ∧ xs[i]? = some x ∧ ys[i]? = some y,
    fun i H v H' => ∃ T x y, v = .ref T ∧ H T = none ∧ H' = upd H T (.tup [x, y]) ∧ (∀ xs, sSq k1 K H a xs → xs[i]? = some x) ∧ ∀ ys, sSq k2 K H b ys → ys[i]? = some y,
    fun i H => ∃ xs ys : List V, sSq k1 K H a xs ∧ sSq k2 K H b ys ∧ i = min xs.length ys.length⟩
theorem turn_zipG {P : Program} {w : World} {K : PySem.W.Frag} {elts : List Expr} {kk : Nat} {tpos : Pos} {k1 k2 : Bool} {a b z TI TO i1 i2 : Addr} (D : ZipSep2 z TI TO i1 i2 [i1, a] [i2, b]) :
    Turn P w K (.Tuple elts kk tpos) (ItzG K k1 k2 a b) [z, TI, TO, i1, i2] z (fun i h => IsZip h z TI TO .none ∧ IsTupOf2 h TI (.ref i1) (.ref i2) ∧ (∃ x y, IsTupOf2 h TO x y) ∧ sIter k1 h i1 a i ∧ sIter k2 h i2 b i) where
  mem := by simp
  obj := fun i h st c hc => by
    obtain ⟨hz, hTI, ⟨x, y, hTO⟩, h1, h2⟩ := st
    have e' : c = z ∨ c = TI ∨ c = TO ∨ c = i1 ∨ c = i2 := by simpa using hc
    rcases e' with q | q | q | q | q
    · rw [q]; exact ⟨_, hz, fun v q => nomatch q⟩
    · rw [q]; exact ⟨_, hTI, fun v q => nomatch q⟩
    · rw [q]; exact ⟨_, hTO, fun v q => nomatch q⟩
    · rw [q]; exact s_there h1
    · rw [q]; exact s_there h2
  keep := fun i h h' st k => by
    obtain ⟨hz, hTI, ⟨x, y, hTO⟩, h1, h2⟩ := st
    exact ⟨k z (by simp) _ hz, k TI (by simp) _ hTI, ⟨x, y, k TO (by simp) _ hTO⟩, s_at h1 fun o q => k i1 (by simp) o q, s_at h2 fun o q => k i2 (by simp) o q⟩
  item := by
    intro X hP hw hK hc i pins s σ H E I hf st hg
    subst hP hw hK
    obtain ⟨hz, hTI, ⟨x0, y0, hTO⟩, h1, h2⟩ := st
    obtain ⟨xs, ys, x, y, hqx, hqy, hx, hy⟩ := hg
    obtain ⟨its, rv, p, _⟩ := s_read I hqx
    obtain ⟨its2, rv2, p2, _⟩ := s_read I hqy
    obtain ⟨u, hu, ru⟩ := rv.get hx
    obtain ⟨u2, hu2, ru2⟩ := rv2.get hy
    have hzl : z < s.heap.objs.size := Heap.lt_size hz
    have hlt : i < its.toArray.size := by simpa using (List.getElem?_eq_some_iff.mp hu).1
    have hlt2 : i < its2.toArray.size := by simpa using (List.getElem?_eq_some_iff.mp hu2).1
    have ai1 : a ≠ i1 := fun e => by
      subst e
      cases k1 with
      | true =>
        obtain ⟨o, e1, c1, _⟩ := h1
        obtain ⟨o', e2, c2, _⟩ := p
        rw [e1] at e2; cases e2; rw [c1] at c2; exact absurd c2 (by simp)
      | false =>
        obtain ⟨o, e1, c1, _⟩ := h1
        obtain ⟨o', e2, c2, _⟩ := p
        rw [e1] at e2; cases e2; rw [c1] at c2; exact absurd c2 (by simp)
    have bi2 : b ≠ i2 := fun e => by
      subst e
      cases k2 with
      | true =>
        obtain ⟨o, e1, c1, _⟩ := h2
        obtain ⟨o', e2, c2, _⟩ := p2
        rw [e1] at e2; cases e2; rw [c1] at c2; exact absurd c2 (by simp)
      | false =>
        obtain ⟨o, e1, c1, _⟩ := h2
        obtain ⟨o', e2, c2, _⟩ := p2
        rw [e1] at e2; cases e2; rw [c1] at c2; exact absurd c2 (by simp)
    refine wpAny_pyNext_zipD2_item D (s_draws (k := k1) (A := X.A.in1) (I.ok.hd hc) i1 a ai1 its.toArray) (s_draws (k := k2) (A := X.A.in1) (I.ok.hd hc) i2 b bi2 its2.toArray) hz hTI hTO ⟨h1, p⟩ ⟨h2, p2⟩ hlt hlt2 fun x1 x2 h' tk px1 px2 z' TO' h1' h2' hT hsz hk => ?_
    have ex1 : x1 = u := by
      have q : its.toArray[i]? = some x1 := px1
      rw [List.getElem?_toArray, hu] at q
      exact (Option.some.inj q).symm
    have ex2 : x2 = u2 := by
      have q : its2.toArray[i]? = some x2 := px2
      rw [List.getElem?_toArray, hu2] at q
      exact (Option.some.inj q).symm
    subst ex1 ex2
    refine ⟨_, rfl, wpAny_letOwnedTupleGo_zip (s := { s with heap := h', toks := tk }) z' fun h'' z'' sb => ?_⟩
    have hT2 : h''.get? s.heap.objs.size = some { cls := .type "tuple", data := .seq #[x1, x2] } := (sb.2 _ (Nat.ne_of_gt hzl)).trans hT
    have new : ObjOk X.prog X.w (upd H s.heap.objs.size (.tup [x, y])) h'' s.heap.objs.size (.tup [x, y]) :=
      ⟨by show 2 ≤ sizeLine; decide, [x1, x2], .cons ru (.cons ru2 .nil), ⟨_, hT2, rfl, _, rfl⟩⟩
    have I1 : L2.Inv X pins σ (upd H s.heap.objs.size (.tup [x, y])) { s with heap := h'', toks := tk } :=
      I.turnedNew (t' := tk) (ch := [z, TI, TO, i1, i2]) (fun c o hb q => (sb.2 c (fun q' => hb (by simp [q']))).trans (hk c o (fun q' => hb (by simp [q'])) (fun q' => hb (by simp [q'])) (fun q' => hb (by simp [q'])) (fun q' => hb (by simp [q'])) q)) hf (Nat.le_refl _) new
    refine ⟨.ref s.heap.objs.size, _, I1, rfl, ⟨_, x, y, rfl, I.hok.fresh (Nat.le_refl _), rfl, fun l hl => by rw [s_inj I hl hqx]; exact hx, fun l hl => by rw [s_inj I hl hqy]; exact hy⟩, ⟨z'', ?_, ⟨x1, x2, ?_⟩, ?_, ?_⟩, fun c hcm => ?_⟩
    · exact (sb.2 _ D.TIz).trans (hk _ _ D.TIz D.TITO D.TIi1 D.TIi2 hTI)
    · exact (sb.2 _ D.TOz).trans TO'
    · exact s_at h1'.1 fun o q => (sb.2 _ (Ne.symm D.zi1)).trans q
    · exact s_at h2'.1 fun o q => (sb.2 _ (Ne.symm D.zi2)).trans q
    · have hlt : c < s.heap.objs.size := by
        have e' : c = z ∨ c = TI ∨ c = TO ∨ c = i1 ∨ c = i2 := by simpa using hcm
        rcases e' with q | q | q | q | q
        · rw [q]; exact hzl
        · rw [q]; exact Heap.lt_size hTI
        · rw [q]; exact Heap.lt_size hTO
        · rw [q]; obtain ⟨_, e1, _⟩ := s_there h1; exact Heap.lt_size e1
        · rw [q]; obtain ⟨_, e2, _⟩ := s_there h2; exact Heap.lt_size e2
      rw [upd_ne (Nat.ne_of_lt hlt)]
      exact (hf c hcm).1
  done := by
    intro X hP hw hK hc i pins s σ H E I hf st hg
    subst hP hw hK
    obtain ⟨hz, hTI, ⟨x0, y0, hTO⟩, h1, h2⟩ := st
    obtain ⟨xs, ys, hqx, hqy, hend⟩ := hg
    obtain ⟨its, rv, p, _⟩ := s_read I hqx
    obtain ⟨its2, rv2, p2, _⟩ := s_read I hqy
    have l1 := rv.length
    have l2 := rv2.length
    have s1 : its.toArray.size = xs.length := by rw [List.size_toArray, l1]
    have s2 : its2.toArray.size = ys.length := by rw [List.size_toArray, l2]
    have ai1 : a ≠ i1 := fun e => by
      subst e
      cases k1 with
      | true =>
        obtain ⟨o, e1, c1, _⟩ := h1
        obtain ⟨o', e2, c2, _⟩ := p
        rw [e1] at e2; cases e2; rw [c1] at c2; exact absurd c2 (by simp)
      | false =>
        obtain ⟨o, e1, c1, _⟩ := h1
        obtain ⟨o', e2, c2, _⟩ := p
        rw [e1] at e2; cases e2; rw [c1] at c2; exact absurd c2 (by simp)
    have bi2 : b ≠ i2 := fun e => by
      subst e
      cases k2 with
      | true =>
        obtain ⟨o, e1, c1, _⟩ := h2
        obtain ⟨o', e2, c2, _⟩ := p2
        rw [e1] at e2; cases e2; rw [c1] at c2; exact absurd c2 (by simp)
      | false =>
        obtain ⟨o, e1, c1, _⟩ := h2
        obtain ⟨o', e2, c2, _⟩ := p2
        rw [e1] at e2; cases e2; rw [c1] at c2; exact absurd c2 (by simp)
    exact wpAny_pyNext_zipD2_end D (s_draws (k := k1) (A := X.A.in1) (I.ok.hd hc) i1 a ai1 its.toArray) (s_draws (k := k2) (A := X.A.in1) (I.ok.hd hc) i2 b bi2 its2.toArray) hz hTI hTO ⟨h1, p⟩ ⟨h2, p2⟩ (by omega) (by omega) (by omega) fun h' tk hk => ⟨rfl, I.turnedL (t' := tk) (ch := [z, TI, TO, i1, i2]) (fun c o hb q =>
      hk c o (fun q' => hb (by simp [q'])) (fun q' => hb (by simp [q'])) (fun q' => hb (by simp [q'])) (fun q' => hb (by simp [q'])) q) hf⟩
  self := fun A i s Q E st h => wpAny_pyIter_zip st.1 h
def iZipG (K : PySem.W.Frag) (ta : TA) : TI := fun σ H R => ta σ H fun vs H1 => ∃ a b xs ys k1 k2, vs = [.ref a, .ref b] ∧ sSq k1 K H1 a xs ∧ sSq k2 K H1 b ys ∧ R (ItzG K k1 k2 a b) H1
theorem nin2 {x y z : Addr} (h1 : x ≠ y) (h2 : x ≠ z) : x ∉ [y, z] := by
  intro h
  rcases List.mem_cons.mp h with e | h
  · exact h1 e
  · rcases List.mem_cons.mp h with e | h
    · exact h2 e
    · cases h
theorem zip_sep (n a b : Nat) (ha : a < n) (hb : b < n) : ZipSep2 (n + 4) (n + 2) (n + 3) n (n + 1) [n, a] [n + 1, b] :=
  have q : ∀ {k j : Nat}, k < j → (j : Nat) ≠ k := fun h e => Nat.lt_irrefl _ (e ▸ h)
  { TIz := (q (by omega : n + 2 < n + 4)).symm
    TOz := (q (by omega : n + 3 < n + 4)).symm
    TITO := (q (by omega : n + 2 < n + 3)).symm
    TIi1 := q (by omega : n < n + 2)
    mem1 := List.mem_cons_self
    zf1 := nin2 (q (by omega : n < n + 4)) (q (by omega : a < n + 4))
    Tf1 := nin2 (q (by omega : n < n + 3)) (q (by omega : a < n + 3))
    TIi2 := q (by omega : n + 1 < n + 2)
    mem2 := List.mem_cons_self
    zf2 := nin2 (q (by omega : n + 1 < n + 4)) (q (by omega : b < n + 4))
    Tf2 := nin2 (q (by omega : n + 1 < n + 3)) (q (by omega : b < n + 3))
    sep1_2 := nin2 (q (by omega : n < n + 1)).symm (q hb)
    sep2_1 := nin2 (q (by omega : n < n + 1)) (q (by omega : a < n + 1)) }
theorem pi_zipG {X : Cx} {e e2 : Expr} {ta : TA} {p pos tpos : Pos} {elts : List Expr} {kk : Nat} (hg : Gl X "zip") (hm : X.mg "zip" = none) (ha : PA X [e, e2] ta) (hs1 : plainX e = true) (hs2 : plainX e2 = true) :
    PI X (.Tuple elts kk tpos) (.Call (.Name "zip" p) [e, e2] [] pos) (iZipG X.K ta) := by
  refine ⟨fun pins s σ H R I h => ?_⟩
  have hs : starEach [e, e2] X.env = (false, eval e X.env) :: starEach [e2] X.env := star_plain hs1
  have hs' : starEach [e2] X.env = (false, eval e2 X.env) :: starEach [] X.env := star_plain hs2
  refine Call_ (ld_blt I hg hm PyProof.Rows.boot_zip (PyProof.Rows.callWith_type1 (thn (ha.run pos pins s σ H _ I h) fun us s1 ⟨vs, H1, I1, r1, q1⟩ => ?_) hs (by rw [hs']; rfl)))
  obtain ⟨a, b, xs, ys, k1, k2, rfl, hqx, hqy, q⟩ := q1
  obtain ⟨u1, u2, rfl, ru1, ru2⟩ := vals2 r1
  cases ru1; cases ru2
  obtain ⟨its, rv, p1, _⟩ := s_read I1 hqx
  obtain ⟨its2, rv2, p2, _⟩ := s_read I1 hqy
  have la : a < s1.heap.objs.size := by obtain ⟨o, e⟩ := s_src_there p1; exact Heap.lt_size e
  have lb : b < s1.heap.objs.size := by obtain ⟨o, e⟩ := s_src_there p2; exact Heap.lt_size e
  refine zip_begins2 (s_begins (k := k1) a its.toArray) (s_begins (k := k2) b its2.toArray) p1 p2 fun h' hz hTI hTO h1 h2 hsz hk => wpAny_pyIter_zip hz ?_
  have I2 : L2.Inv X pins σ H1 { s1 with heap := h' } := I1.kept (t' := s1.toks) hk
  refine ⟨s1.heap.objs.size + 4, [s1.heap.objs.size + 4, s1.heap.objs.size + 2, s1.heap.objs.size + 3, s1.heap.objs.size, s1.heap.objs.size + 1], _, _, H1, rfl, I2, turn_zipG (zip_sep s1.heap.objs.size a b la lb), ⟨hz, hTI, ⟨_, _, hTO⟩, s_new h1, s_new h2⟩, fun c hcm => ?_, q⟩
  have e' : c = s1.heap.objs.size + 4 ∨ c = s1.heap.objs.size + 2 ∨ c = s1.heap.objs.size + 3 ∨ c = s1.heap.objs.size ∨ c = s1.heap.objs.size + 1 := by simpa using hcm
  have hle : s1.heap.objs.size ≤ c := by
    rcases e' with z | z | z | z | z
    · rw [z]; exact Nat.le_add_right _ _
    · rw [z]; exact Nat.le_add_right _ _
    · rw [z]; exact Nat.le_add_right _ _
    · rw [z]; exact Nat.le_refl _
    · rw [z]; exact Nat.le_add_right _ _
  exact I1.fpOk hle (I1.hok.fresh hle)
end Fc

set_option Elab.async false
set_option linter.all false
set_option maxRecDepth 100000
set_option maxHeartbeats 4000000
namespace Fc
open PySem PySem.Spec PyProof.Rows L2
section
variable {T : Tab} {M : Nm} {n : Nat} {W : XK} {X : Cx} {K : PySem.W.Frag} {H G : Hp}
/-! ### targets -/
theorem asgRel_nm {i : Nat} {v : V} {d : D} {σ : L2.St} (r : Rep M K G v d) : AsgRel M K (.nm i) d G σ (σ.set i (some v)) where
  len := List.length_set ..
  out := fun j hj => List.getElem?_set_ne (fun e => hj (by simp [tgS, e]))
  vw := fun ms s s' e h => by
    cases e
    refine ⟨by rw [List.length_set, List.length_set, h.len], fun j hj d' hd => ?_⟩
    by_cases hji : i = j
    · subst hji
      by_cases hl : i < s.length
      · rw [List.getElem?_set_self hl] at hd
        cases hd
        exact ⟨v, by rw [List.getElem?_set_self (by rw [← h.len]; exact hl)], r⟩
      · rw [List.getElem?_eq_none (by rw [List.length_set]; omega)] at hd; cases hd
    · rw [List.getElem?_set_ne hji] at hd
      rw [List.getElem?_set_ne hji]
      have hj' : j ∈ ms := by
        rcases List.mem_append.mp hj with h1 | h1
        · exact h1
        · exact absurd (by simpa [tgS] using h1) (Ne.symm hji)
      exact h.at_ j hj' d' hd
theorem asg_cons {t ts : Tg} {d : D} {ds : List D} {s s' : Env} (h : asg (.cons t ts) (.tup (d :: ds)) s = .ok s') : ∃ s1, asg t d s = .ok s1 ∧ asg ts (.tup ds) s1 = .ok s' := by
  unfold asg at h
  cases e : asg t d s with
  | ok s1 => rw [e] at h; exact ⟨s1, rfl, h⟩
  | ex c x => rw [e] at h; cases h
  | no => rw [e] at h; cases h
theorem asgRel_cons {t ts : Tg} {d : D} {ds : List D} {σ σ1 σ2 : L2.St} (h1 : AsgRel M K t d G σ σ1) (h2 : AsgRel M K ts (.tup ds) G σ1 σ2) : AsgRel M K (.cons t ts) (.tup (d :: ds)) G σ σ2 where
  len := h2.len.trans h1.len
  out := fun i hi => by
    have hi' : i ∉ tgS t ++ tgS ts := hi
    rw [h2.out i fun z => hi' (List.mem_append_right _ z), h1.out i fun z => hi' (List.mem_append_left _ z)]
  vw := fun ms s s' e h => by
    obtain ⟨s1, e1, e2⟩ := asg_cons e
    have := h2.vw _ _ _ e2 (h1.vw _ _ _ e1 h)
    exact this.mono (Sub.refl _) fun i hi => by
      have hi' : i ∈ ms ++ (tgS t ++ tgS ts) := hi
      rw [List.append_assoc]; exact hi'
theorem asgRel_nil {σ : L2.St} : AsgRel M K .nil (.tup []) G σ σ where
  len := rfl
  out := fun _ _ => rfl
  vw := fun ms s s' e h => by
    cases e
    exact h.mono (Sub.refl _) fun i hi => by simpa [tgS] using hi
/-- the names that a target may store -/
def LocAll (X : Cx) (sc : Scope) : Prop := ∀ x, loc sc x = true → Loc X.env.scope x ∧ (X.fn x = true ∨ X.env.scope.names.lookup x = some .local)
theorem tg_len {N : List Str} {sc : Scope} {env : PySem.Env} : ∀ {t : Tg} {es : List Expr} {k : Nat} {p : Pos} {ds : List D} {s s' : Env}, chkTg N sc t (.Tuple es k p) = true → asg t (.tup ds) s = .ok s' → ds.length = es.length ∧ (assignEach es env).length = es.length ∧ (assignEach es env).findIdx? (·.1) = none
  | .nm i, es, k, p, ds, s, s', h, _ => by cases h
  | .nil, [], k, p, [], s, s', _, _ => ⟨rfl, rfl, rfl⟩
  | .nil, [], k, p, _ :: _, s, s', _, e => by cases e
  | .nil, _ :: _, k, p, ds, s, s', h, _ => by cases h
  | .cons t ts, [], k, p, ds, s, s', h, _ => by cases h
  | .cons t ts, e :: es, k, p, [], s, s', _, e' => by cases e'
  | .cons t ts, e :: es, k, p, d :: ds, s, s', h, e' => by
    obtain ⟨h1, h2⟩ := bA (show (chkTg N sc t e && (plainX e && chkTg N sc ts (.Tuple es k p))) = true from h)
    obtain ⟨h3, h4⟩ := bA h2
    obtain ⟨s1, e1, e2⟩ := asg_cons e'
    obtain ⟨q1, q2, q3⟩ := tg_len (env := env) h4 e2
    rw [assign_plain h3]
    refine ⟨by simp [q1], by simp [q2], ?_⟩
    rw [List.findIdx?_cons, q3]
    rfl
mutual
theorem sG (hc : X.calm = true) (hn : X.N.Nodup) {sc : Scope} (hl : LocAll X sc) : ∀ (t : Tg) (e : Expr), chkTg X.N sc t e = true → PG X e (tTg M X.K t)
  | .nm i, .Name x pos, h => by
    obtain ⟨h1, h2⟩ := bA (show (decide (X.N[i]? = some x) && loc sc x) = true from h)
    obtain ⟨l1, l2⟩ := hl x h2
    have p := pg_name (X := X) (pos := pos) hn (of_decide_eq_true h1) l1 l2
    refine ⟨fun pins s σ H v u Q I r q => ?_⟩
    obtain ⟨G, d, sg, rd, _, q⟩ := q
    exact p.run pins s σ H v u Q I r (q _ (asgRel_nm rd))
  | .nil, .Tuple es k pos, h => by
    refine ⟨fun pins s σ H v u Q I r q => ?_⟩
    obtain ⟨G, d, sg, rd, ⟨s0, s0', ha⟩, q⟩ := q
    cases rd <;> first | (cases ha; done) | skip
    rename_i a vs ds hg hr
    obtain ⟨q1, q2, q3⟩ := tg_len (env := X.env) h ha
    have p := pg_tup (X := X) (k := k) (pos := pos) hc (sGs hc hn hl .nil es k pos h) (n := es.length) q2 q3
    exact p.run pins s σ H _ u Q I r ⟨a, vs, rfl, .of (sg _ _ hg), by rw [hr.length, q1], G, ds, sg, hr, ⟨s0, s0', ha⟩, fun σ' hσ => q σ' hσ⟩
  | .cons t ts, .Tuple es k pos, h => by
    refine ⟨fun pins s σ H v u Q I r q => ?_⟩
    obtain ⟨G, d, sg, rd, ⟨s0, s0', ha⟩, q⟩ := q
    cases rd <;> first | (cases ha; done) | skip
    rename_i a vs ds hg hr
    obtain ⟨q1, q2, q3⟩ := tg_len (env := X.env) h ha
    have p := pg_tup (X := X) (k := k) (pos := pos) hc (sGs hc hn hl (.cons t ts) es k pos h) (n := es.length) q2 q3
    exact p.run pins s σ H _ u Q I r ⟨a, vs, rfl, .of (sg _ _ hg), by rw [hr.length, q1], G, ds, sg, hr, ⟨s0, s0', ha⟩, fun σ' hσ => q σ' hσ⟩
theorem sGs (hc : X.calm = true) (hn : X.N.Nodup) {sc : Scope} (hl : LocAll X sc) : ∀ (t : Tg) (es : List Expr) (k : Nat) (pos : Pos), chkTg X.N sc t (.Tuple es k pos) = true → PGs X es (tTgs M X.K t)
  | .nm i, es, k, pos, h => by cases h
  | .nil, [], k, pos, h => by
    refine ⟨fun pins s σ H vs us Q I r q => ?_⟩
    obtain ⟨G, ds, sg, rd, ⟨s0, s0', ha⟩, q⟩ := q
    cases ds with
    | cons _ _ => cases ha
    | nil =>
      cases rd
      exact pgs_nil.run pins s σ H [] us Q I r ⟨rfl, q σ asgRel_nil⟩
  | .nil, _ :: _, k, pos, h => by cases h
  | .cons t ts, [], k, pos, h => by cases h
  | .cons t ts, e :: es, k, pos, h => by
    obtain ⟨h1, h2⟩ := bA (show (chkTg X.N sc t e && (plainX e && chkTg X.N sc ts (.Tuple es k pos))) = true from h)
    obtain ⟨h3, h4⟩ := bA h2
    have p1 := sG hc hn hl t e h1
    have p2 := sGs hc hn hl ts es k pos h4
    refine ⟨fun pins s σ H vs us Q I r q => ?_⟩
    obtain ⟨G, ds, sg, rd, ⟨s0, s0', ha⟩, q⟩ := q
    cases ds with
    | nil => cases ha
    | cons d ds =>
      cases rd with
      | cons r1 r2 =>
        obtain ⟨s1, e1, e2⟩ := asg_cons ha
        refine (pgs_cons p1 p2 (by rw [assign_plain h3]; rfl)).run pins s σ H _ us Q I r ⟨_, _, rfl, G, d, sg, r1, ⟨s0, s1, e1⟩, fun σ1 a1 => ?_⟩
        exact ⟨G, ds, sg, r2, ⟨s1, s0', e2⟩, fun σ2 a2 => q σ2 (asgRel_cons a1 a2)⟩
end
/-! ### walks -/
theorem PI.imp {tg e : Expr} {w w' : TI} (h : PI X tg e w) (i : ∀ σ H R, w' σ H R → w σ H (fun J H' => (∀ a vs, (SqL X.K H' a vs ∨ SqT X.K H' a vs) → vs.length ≤ sizeLine) → R J H')) : PI X tg e w' := by
  refine ⟨fun pins s σ H R I q => ?_⟩
  refine thn (h.run pins s σ H _ I (i σ H R q)) fun v s1 h1 => thn h1 fun itv s2 ⟨it, fp, tn, J, H', e, I', T, st, f, r⟩ => ?_
  refine ⟨it, fp, tn, J, H', e, I', T, st, f, r fun a vs hs => ?_⟩
  rcases hs with hs | hs
  · obtain ⟨_, _, _, z⟩ := I'.list hs; exact z
  · obtain ⟨_, _, _, z⟩ := I'.tuple hs; exact z
theorem LIM_eq : sizeLine = LIM := sizeLine_eq
theorem sSq_of {k : Bool} {G H : Hp} {v : V} {d : D} {ds : List D} (sg : Sub G H) (r : Rep M K G v d) (e : itemsD d = some ds) : ∃ a vs k, v = .ref a ∧ (∀ G' H', Sub G G' → Sub G' H' → sSq k K H' a vs) ∧ Reps M K G vs ds := by
  cases r <;> first | (cases e; done) | skip
  · rename_i a vs _ hg hr
    cases e
    exact ⟨a, vs, false, rfl, fun G' H' h1 h2 => .of (h2 _ _ (h1 _ _ hg)), hr⟩
  · rename_i a vs _ hg hr
    cases e
    exact ⟨a, vs, true, rfl, fun G' H' h1 h2 => .of (h2 _ _ (h1 _ _ hg)), hr⟩
  · rename_i a ns hg
    cases e
    exact ⟨a, _, true, rfl, fun G' H' h1 h2 => sub_l (h1.trans h2) hg, Reps.ints _⟩
theorem sSq_or {k : Bool} {H : Hp} {a : Addr} {vs : List V} (h : sSq k K H a vs) : SqL K H a vs ∨ SqT K H a vs := by
  cases k with
  | true => exact .inl h
  | false => exact .inr h
theorem jok_enum {k : Bool} {a : Addr} {vs : List V} {ds : List D} (hs : ∀ G' H', Sub G G' → Sub G' H' → sSq k K H' a vs) (r : Reps M K G vs ds) : JOk M K (IteG K k a) (ds.zipIdx.map fun p => .tup [.int p.2, p.1]) G where
  go := fun i H' G' h1 h2 hi => by
    have hi' : i < vs.length := by rw [r.length]; simpa using hi
    exact ⟨vs, vs[i], hs G' H' h1 h2, by simp [hi']⟩
  yld := fun i H' G' x H'' h1 h2 hi y => by
    obtain ⟨p, w, rfl, np, rfl, hx⟩ := y
    have hi' : i < ds.length := by simpa using hi
    have hw := hx vs (hs G' H' h1 h2)
    obtain ⟨d, hd, rd⟩ := r.getV hw
    refine ⟨upd G' p (.tup [.int (i : Nat), w]), .tup [.int (i : Nat), d], Grow.laid h2 np, ?_, .tup upd_same (.cons (.int _) (.cons (rd.mono (h1.trans (Grow.laid h2 np).sub)) .nil))⟩
    rw [List.getElem?_map, List.getElem?_zipIdx]
    simp [hd]
  stop := fun H' G' h1 h2 => ⟨vs, hs G' H' h1 h2, by rw [r.length]; simp⟩
theorem jok_zip {k1 k2 : Bool} {a b : Addr} {vs ws : List V} {ds es : List D} (hs : ∀ G' H', Sub G G' → Sub G' H' → sSq k1 K H' a vs) (hs2 : ∀ G' H', Sub G G' → Sub G' H' → sSq k2 K H' b ws) (r : Reps M K G vs ds) (r2 : Reps M K G ws es) :
    JOk M K (ItzG K k1 k2 a b) ((ds.zip es).map fun p => .tup [p.1, p.2]) G where
  go := fun i H' G' h1 h2 hi => by
    have hi' : i < ds.length ∧ i < es.length := by simp at hi; omega
    have h3 : i < vs.length := by rw [r.length]; exact hi'.1
    have h4 : i < ws.length := by rw [r2.length]; exact hi'.2
    exact ⟨vs, ws, vs[i], ws[i], hs G' H' h1 h2, hs2 G' H' h1 h2, by simp [h3], by simp [h4]⟩
  yld := fun i H' G' x H'' h1 h2 hi y => by
    obtain ⟨p, w, z, rfl, np, rfl, hx, hz⟩ := y
    have hw := hx vs (hs G' H' h1 h2)
    have hw2 := hz ws (hs2 G' H' h1 h2)
    obtain ⟨d, hd, rd⟩ := r.getV hw
    obtain ⟨d2, hd2, rd2⟩ := r2.getV hw2
    refine ⟨upd G' p (.tup [w, z]), .tup [d, d2], Grow.laid h2 np, ?_, .tup upd_same (.cons (rd.mono (h1.trans (Grow.laid h2 np).sub)) (.cons (rd2.mono (h1.trans (Grow.laid h2 np).sub)) .nil))⟩
    rw [List.getElem?_map, List.getElem?_zip_eq_some (z := (d, d2)) |>.mpr ⟨hd, hd2⟩]
    rfl
  stop := fun H' G' h1 h2 => ⟨vs, ws, hs G' H' h1 h2, hs2 G' H' h1 h2, by rw [r.length, r2.length]; simp⟩
theorem jok_list {a : Addr} {vs : List V} {ds : List D} (hs : ∀ G' H', Sub G G' → Sub G' H' → SqL K H' a vs) (r : Reps M K G vs ds) : JOk M K (Itl K a) ds G where
  go := fun i H' G' h1 h2 hi => by
    have hi' : i < vs.length := by rw [r.length]; exact hi
    exact ⟨vs, vs[i], hs G' H' h1 h2, by simp [hi']⟩
  yld := fun i H' G' x H'' h1 h2 hi y => by
    obtain ⟨rfl, hx⟩ := y
    obtain ⟨d, hd, rd⟩ := r.getV (hx vs (hs G' _ h1 h2))
    exact ⟨G', d, Grow.refl h2, hd, rd.mono h1⟩
  stop := fun H' G' h1 h2 => ⟨vs, hs G' H' h1 h2, by rw [r.length]; exact Nat.le_refl _⟩
theorem jok_tup {a : Addr} {vs : List V} {ds : List D} (hs : ∀ G' H', Sub G G' → Sub G' H' → SqT K H' a vs) (r : Reps M K G vs ds) : JOk M K (Itt K a) ds G where
  go := fun i H' G' h1 h2 hi => by
    have hi' : i < vs.length := by rw [r.length]; exact hi
    exact ⟨vs, vs[i], hs G' H' h1 h2, by simp [hi']⟩
  yld := fun i H' G' x H'' h1 h2 hi y => by
    obtain ⟨rfl, hx⟩ := y
    obtain ⟨d, hd, rd⟩ := r.getV (hx vs (hs G' _ h1 h2))
    exact ⟨G', d, Grow.refl h2, hd, rd.mono h1⟩
  stop := fun H' G' h1 h2 => ⟨vs, hs G' H' h1 h2, by rw [r.length]; exact Nat.le_refl _⟩
theorem jok_range {lo : Int} {k : Nat} : JOk M K (Itr lo k) ((List.range k).map fun (i : Nat) => .int (lo + i)) G where
  go := fun i H' G' _ _ hi => by show i < k; simpa using hi
  yld := fun i H' G' x H'' h1 h2 hi y => by
    obtain ⟨rfl, rfl⟩ := y
    have hi' : i < k := by simpa using hi
    exact ⟨G', .int (lo + i), Grow.refl h2, by simp [hi'], .int _⟩
  stop := fun H' G' _ _ => by show k ≤ _; simp
theorem jok_rev {a : Addr} {vs : List V} {ds : List D} (hs : ∀ G' H', Sub G G' → Sub G' H' → SqL K H' a vs) (r : Reps M K G vs ds) : JOk M K (Itv K a vs.length) ds.reverse G where
  go := fun i H' G' h1 h2 hi => by
    have hi' : i < vs.length := by rw [r.length]; simpa using hi
    exact ⟨hi', vs, vs[vs.length - 1 - i], hs G' H' h1 h2, by rw [List.getElem?_eq_getElem]⟩
  yld := fun i H' G' x H'' h1 h2 hi y => by
    obtain ⟨rfl, hx⟩ := y
    have hi' : i < ds.length := by simpa using hi
    obtain ⟨d, hd, rd⟩ := r.getV (hx vs (hs G' _ h1 h2))
    refine ⟨G', d, Grow.refl h2, ?_, rd.mono h1⟩
    rw [List.getElem?_reverse hi', ← r.length]; exact hd
  stop := fun H' G' h1 h2 => by show vs.length ≤ _; rw [r.length]; simp
theorem jok_revT {a : Addr} {vs : List V} {ds : List D} (hs : ∀ G' H', Sub G G' → Sub G' H' → SqT K H' a vs) (r : Reps M K G vs ds) : JOk M K (RT.ItvT K a vs.length) ds.reverse G where
  go := fun i H' G' h1 h2 hi => by
    have hi' : i < vs.length := by rw [r.length]; simpa using hi
    exact ⟨hi', vs, vs[vs.length - 1 - i], hs G' H' h1 h2, by rw [List.getElem?_eq_getElem]⟩
  yld := fun i H' G' x H'' h1 h2 hi y => by
    obtain ⟨rfl, hx⟩ := y
    have hi' : i < ds.length := by simpa using hi
    obtain ⟨d, hd, rd⟩ := r.getV (hx vs (hs G' _ h1 h2))
    refine ⟨G', d, Grow.refl h2, ?_, rd.mono h1⟩
    rw [List.getElem?_reverse hi', ← r.length]; exact hd
  stop := fun H' G' h1 h2 => by show vs.length ≤ _; rw [r.length]; simp
end
end Fc

set_option Elab.async false
set_option linter.all false
set_option maxRecDepth 100000
set_option maxHeartbeats 4000000
namespace Fc
open PySem PySem.Spec PyProof.Rows L2
theorem wipe_in {α : Type} {f : List (Option α) → List Nat → List (Option α)} (h0 : ∀ s, f s [] = s) (h1 : ∀ s v vs, f s (v :: vs) = (f s vs).set v none) (s : List (Option α)) :
    ∀ vs : List Nat, (f s vs).length = s.length ∧ ∀ i : Nat, (f s vs)[i]? = if i ∈ vs then (if i < s.length then some none else none) else s[i]?
  | [] => by rw [h0]; exact ⟨rfl, fun i => by simp⟩
  | v :: vs => by
    obtain ⟨l, g⟩ := wipe_in h0 h1 s vs
    rw [h1]
    refine ⟨by rw [List.length_set, l], fun i => ?_⟩
    by_cases hi : v = i
    · subst hi
      by_cases hl : v < s.length
      · rw [List.getElem?_set_self (by rw [l]; exact hl)]; simp [hl]
      · rw [List.getElem?_eq_none (by rw [List.length_set, l]; omega)]; simp [hl]
    · rw [List.getElem?_set_ne hi, g i]
      have : (i ∈ v :: vs) ↔ i ∈ vs := by simp [Ne.symm hi]
      by_cases hv : i ∈ vs
      · rw [if_pos hv, if_pos (this.mpr hv)]
      · rw [if_neg hv, if_neg (fun z => hv (this.mp z))]
theorem wipe_get (σ : L2.St) (vs : List Nat) (i : Nat) : (wipe σ vs)[i]? = if i ∈ vs then (if i < σ.length then some none else none) else σ[i]? :=
  (wipe_in (f := wipe) (fun _ => rfl) (fun _ _ _ => rfl) σ vs).2 i
theorem wp_get (s : Env) (vs : List Nat) (i : Nat) : (wp vs s)[i]? = if i ∈ vs then (if i < s.length then some none else none) else s[i]? :=
  (wipe_in (f := fun s vs => wp vs s) (fun _ => rfl) (fun _ _ _ => rfl) s vs).2 i
theorem wp_length (s : Env) (vs : List Nat) : (wp vs s).length = s.length :=
  (wipe_in (f := fun s vs => wp vs s) (fun _ => rfl) (fun _ _ _ => rfl) s vs).1
section
variable {T : Tab} {M : Nm} {n : Nat} {W : XK} {X : Cx} {K : PySem.W.Frag} {H G : Hp} {F : Nat → List D → R D}
theorem Vw.wipe {ms vs : List Nat} {σ : L2.St} {s : Env} (h : Vw M K ms G σ s) : Vw M K ms G (L2.wipe σ vs) (wp vs s) := by
  refine ⟨by rw [wp_length, wipe_length, h.len], fun i hi d hd => ?_⟩
  rw [wp_get] at hd
  rw [wipe_get]
  split at hd
  · split at hd <;> cases hd
  · rename_i hv
    rw [if_neg hv]
    exact h.at_ i hi d hd
theorem wipe_same {t : Tg} {d : D} {σ σ' : L2.St} {vs : List Nat} (ht : ∀ i ∈ tgS t, i ∈ vs) (a : AsgRel M K t d G (L2.wipe σ vs) σ') : L2.wipe σ' vs = L2.wipe σ vs := by
  apply List.ext_getElem?
  intro i
  rw [wipe_get, wipe_get, a.len, wipe_length]
  by_cases hv : i ∈ vs
  · rw [if_pos hv, if_pos hv]
  · rw [if_neg hv, if_neg hv, a.out i fun z => hv (ht i z), wipe_get, if_neg hv]
abbrev Wf : XK := fun _ _ _ => False
def tC (T : Tab) (F : Nat → List D → R D) (M : Nm) (K : PySem.W.Frag) : Eo → TT
  | .none => tYes
  | .some c => tT T F M K Wf c
theorem tC_ok {c : Eo} {σ : L2.St} {s : Env} {b : Bool} {Q : Bool → Hp → Prop} (sg : Sub G H) (hv : Vw M K (mnO c) G σ s) (h : evC T F c s = .ok b) (q : ∀ H' G', Grow H G H' G' → Q b H') : tC T F M K c σ H Q := by
  cases c with
  | none =>
    cases h
    exact q H G (Grow.refl sg)
  | some c =>
    refine ⟨G, s, sg, hv, ?_⟩
    unfold evC at h
    cases e : evE T F c s with
    | ok d =>
      rw [e] at h
      cases d <;> first | (cases h; done) | skip
      rename_i b'
      cases h
      exact fun H' G' g => q H' G' g
    | ex _ _ => rw [e] at h; cases h
    | no => rw [e] at h; cases h
theorem mapR_cons {f : D → R (Option D)} {x : D} {xs ys : List D} (h : mapR f (x :: xs) = .ok ys) : ∃ o zs, f x = .ok o ∧ mapR f xs = .ok zs ∧ ys = o.toList ++ zs := by
  unfold mapR at h
  cases e : f x with
  | ok o =>
    rw [e] at h
    cases e2 : mapR f xs with
    | ok zs =>
      rw [e2] at h
      cases h
      cases o <;> exact ⟨_, zs, rfl, rfl, rfl⟩
    | ex _ _ => rw [e2] at h; cases h
    | no => rw [e2] at h; cases h
  | ex _ _ => rw [e] at h; cases h
  | no => rw [e] at h; cases h
theorem mapR_not_ex {f : D → R (Option D)} {c : Nat} {ds : List D} : ∀ {xs : List D}, mapR f xs ≠ .ex c ds
  | [], h => by cases h
  | x :: xs, h => by
    unfold mapR at h
    cases e : f x with
    | ok o =>
      rw [e] at h
      cases e2 : mapR f xs with
      | ok zs => rw [e2] at h; cases h
      | ex _ _ => exact mapR_not_ex e2
      | no => rw [e2] at h; cases h
    | ex _ _ => rw [e] at h; cases h
    | no => rw [e] at h; cases h
/-- the state of a comprehension's loop -/
structure LcS (M : Nm) (K : PySem.W.Frag) (H1 G1 : Hp) (D0 : Addr) (i : Nat) (Hc Gc : Hp) (acc : List V) (ds : List D) : Prop where
  ext : Sub H1 Hc
  sub : Sub G1 Gc
  into : Sub Gc Hc
  new : ∀ a o, H1 a = some o → Gc a = G1 a
  nd : Gc D0 = none
  at_ : Hc D0 = some (.lst acc)
  reps : Reps M K Gc acc ds
  len : acc.length ≤ i
theorem LcS.start {H1 G1 : Hp} {D0 : Addr} (s : Sub G1 H1) (hD : H1 D0 = none) : LcS M K H1 G1 D0 0 (upd H1 D0 (.lst [])) G1 [] [] where
  ext := fun a u e => by rw [upd_ne (ne_of_none e hD)]; exact e
  sub := Sub.refl _
  into := fun a u e => by rw [upd_ne (ne_of_none (s _ _ e) hD)]; exact s _ _ e
  new := fun _ _ _ => rfl
  nd := by
    cases q : G1 D0 with
    | none => rfl
    | some u => have := s _ _ q; rw [hD] at this; cases this
  at_ := upd_same
  reps := .nil
  len := Nat.le_refl _
theorem LcS.grow {H1 G1 Hc Gc H2 G2 : Hp} {D0 : Addr} {i j : Nat} {acc : List V} {ds : List D} (l : LcS M K H1 G1 D0 i Hc Gc acc ds) (g : Grow Hc Gc H2 G2) (hj : i ≤ j) : LcS M K H1 G1 D0 j H2 G2 acc ds where
  ext := l.ext.trans g.ext
  sub := l.sub.trans g.sub
  into := g.into
  new := fun a o h => (g.new a o (l.ext a o h)).trans (l.new a o h)
  nd := (g.new _ _ l.at_).trans l.nd
  at_ := g.ext _ _ l.at_
  reps := l.reps.mono g.sub
  len := Nat.le_trans l.len hj
theorem LcS.put {H1 G1 Hc Gc : Hp} {D0 : Addr} {i : Nat} {acc : List V} {ds : List D} {v : V} {d : D} (l : LcS M K H1 G1 D0 i Hc Gc acc ds) (hD : H1 D0 = none) (r : Rep M K Gc v d) : LcS M K H1 G1 D0 (i + 1) (upd Hc D0 (.lst (acc ++ [v]))) Gc (acc ++ [v]) (ds ++ [d]) where
  ext := fun a u e => by rw [upd_ne (ne_of_none e hD)]; exact l.ext _ _ e
  sub := l.sub
  into := fun a u e => by rw [upd_ne (ne_of_none e l.nd)]; exact l.into _ _ e
  new := l.new
  nd := l.nd
  at_ := upd_same
  reps := l.reps.append (.cons r .nil)
  len := by rw [List.length_append]; have := l.len; simp; omega
theorem LcS.own {H1 G1 Hc Gc : Hp} {D0 : Addr} {i : Nat} {acc : List V} {ds : List D} (l : LcS M K H1 G1 D0 i Hc Gc acc ds) : Grow H1 G1 Hc Gc ∧ OwnR M K Hc Gc 1 [D0] (.ref D0) (.lst ds) :=
  ⟨⟨l.ext, l.sub, l.into, l.new⟩, D0, acc, ds, rfl, rfl, rfl, l.at_, l.nd, l.reps⟩
/-- what is asked of [e for t in it if c] -/
theorem lc_reading {vs : List Nat} {t : Tg} {it : It} {c : Eo} {e : E} {σ : L2.St} {Q : VK} {s : Env} (ht : ∀ i ∈ tgS t, i ∈ vs) (sg : Sub G H) (hv : Vw M K (mnE (.lc vs t it c e)) G σ s) (ho : OutK M K W 1 H G Q (evE T F (.lc vs t it c e) s)) :
    tLc (tI T F M K W it) (tTg M K t) (tC T F M K c) (tE T F M K Wf e) vs σ H Q := by
  have hv1 : Vw M K (mnI it) G σ s := hv.mono (Sub.refl _) fun i hi => List.mem_append_left _ hi
  have hv2 : Vw M K (mnO c ++ mnE e) G σ s := hv.mono (Sub.refl _) fun i hi => List.mem_append_right _ hi
  refine ⟨G, s, sg, hv1, ?_⟩
  unfold evE at ho
  cases e0 : evI T F it s with
  | no => rw [e0] at ho; exact ho
  | ex c' ds => rw [e0] at ho; exact ho
  | ok xs =>
    rw [e0] at ho
    simp only [bind_ok] at ho
    generalize hf : (fun x => (do
      let s' ← asg t x (wp vs s)
      match ← evC T F c s' with
        | true => do .ok (some (← evE T F e s'))
        | false => .ok none : R (Option D))) = f at ho
    cases e1 : mapR f xs with
    | no => rw [e1] at ho; exact False.elim ho
    | ex c' ds => exact absurd e1 mapR_not_ex
    | ok ys =>
      rw [e1] at ho
      simp only [bind_ok] at ho
      intro J H1 G1 g1 jok hlen D0 hD
      refine ⟨fun i m Hc => m = xs.length - i ∧ i ≤ xs.length ∧ ∃ Gc acc ds rest, LcS M K H1 G1 D0 i Hc Gc acc ds ∧ mapR f (xs.drop i) = .ok rest ∧ ys = ds ++ rest,
        ⟨xs.length, by simp, Nat.zero_le _, G1, [], [], ys, LcS.start g1.into hD, by simpa using e1, rfl⟩, ?_⟩
      rintro i m Hc ⟨rfl, hi, Gc, acc, ds, rest, l, hr, hy⟩
      by_cases hlt : i < xs.length
      · refine .inr ⟨jok.go i Hc Gc l.sub l.into hlt, fun H' => xs.length - (i + 1) = xs.length - (i + 1) ∧ i + 1 ≤ xs.length ∧ ∃ Gc acc ds rest, LcS M K H1 G1 D0 (i + 1) H' Gc acc ds ∧ mapR f (xs.drop (i + 1)) = .ok rest ∧ ys = ds ++ rest,
          fun H' h => ⟨xs.length - (i + 1), by omega, h⟩, fun x H' y => ?_⟩
        obtain ⟨G2, d, g2, hd, rd⟩ := jok.yld i Hc Gc x H' l.sub l.into hlt y
        have ex : xs[i] = d := by rw [List.getElem?_eq_getElem hlt] at hd; exact Option.some.inj hd
        have edrop : xs.drop i = d :: xs.drop (i + 1) := by rw [List.drop_eq_getElem_cons hlt, ex]
        rw [edrop] at hr
        obtain ⟨o, zs, fo, fz, rfl⟩ := mapR_cons hr
        rw [← hf] at fo
        simp only at fo
        cases ea : asg t d (wp vs s) with
        | no => rw [ea] at fo; cases fo
        | ex _ _ => rw [ea] at fo; cases fo
        | ok s' =>
          rw [ea] at fo
          simp only [bind_ok] at fo
          refine ⟨G2, d, g2.into, rd, ⟨_, s', ea⟩, fun σ' ar => ⟨wipe_same ht ar, ?_⟩⟩
          have l2 := l.grow g2 (Nat.le_refl i)
          have hw : Vw M K ((mnO c ++ mnE e) ++ tgS t) G2 σ' s' := ar.vw _ _ _ ea ((hv2.mono ((g1.sub.trans l.sub).trans g2.sub) fun i hi => hi).wipe)
          cases ec : evC T F c s' with
          | no => rw [ec] at fo; cases fo
          | ex _ _ => rw [ec] at fo; cases fo
          | ok b =>
            rw [ec] at fo
            simp only [bind_ok] at fo
            refine tC_ok g2.into (hw.mono (Sub.refl _) fun i hi => List.mem_append_left _ (List.mem_append_left _ hi)) ec fun H3 G3 g3 => ?_
            have l3 := l2.grow g3 (Nat.le_refl i)
            cases b with
            | false =>
              rw [if_neg Bool.false_ne_true]
              cases fo
              exact ⟨rfl, hlt, G3, acc, ds, zs, l3.grow (Grow.refl g3.into) (Nat.le_succ i), fz, by simpa using hy⟩
            | true =>
              rw [if_pos rfl]
              simp only at fo
              cases ee : evE T F e s' with
              | no => rw [ee] at fo; cases fo
              | ex _ _ => rw [ee] at fo; cases fo
              | ok dy =>
                rw [ee] at fo
                cases fo
                refine ⟨G3, s', g3.into, hw.mono g3.sub fun i hi => List.mem_append_left _ (List.mem_append_right _ hi), ?_⟩
                rw [ee]
                intro v H4 G4 g4 r4
                have l4 := l3.grow g4 (Nat.le_refl i)
                refine ⟨acc, l4.at_, ?_, rfl, hlt, G4, acc ++ [v], ds ++ [dy], zs, l4.put hD r4, fz, by simpa using hy⟩
                have := l4.len
                rw [LIM_eq]; omega
      · have ei : i = xs.length := by omega
        refine .inl ⟨by rw [ei]; exact jok.stop Hc Gc l.sub l.into, ?_⟩
        rw [ei, List.drop_length] at hr
        cases hr
        rw [List.append_nil] at hy
        subst hy
        obtain ⟨g, o⟩ := l.own
        exact ho (.ref D0) Hc Gc [D0] (g1.trans g) (fun p hp => by
          have : p = D0 := by simpa using hp
          rw [this]
          cases q : H D0 with
          | none => rfl
          | some u => have := g1.ext _ _ q; rw [hD] at this; cases this) o
end
end Fc

set_option Elab.async false
set_option linter.all false
set_option maxRecDepth 100000
set_option maxHeartbeats 4000000
namespace Fc
open PySem PySem.Spec PyProof.Rows L2
section
variable {T : Tab} {M : Nm} {n : Nat} {W : XK} {X : Cx} {K : PySem.W.Frag} {H G : Hp} {F : Nat → List D → R D}
theorem flatL_cons {d : D} {r l : List D} (h : evE.flatL (d :: r) = some l) : ∃ ds l', d = .lst ds ∧ evE.flatL r = some l' ∧ l = ds ++ l' := by
  cases d <;> first | (simp [evE.flatL] at h; done) | skip
  rename_i ds
  unfold evE.flatL at h
  cases q : evE.flatL r with
  | none => rw [q] at h; cases h
  | some l' => rw [q] at h; cases h; exact ⟨ds, l', rfl, rfl, rfl⟩
theorem LcS.re {H1 G1 Hc Gc : Hp} {D0 : Addr} {i : Nat} {acc : List V} {ds : List D} (l : LcS M K H1 G1 D0 i Hc Gc acc ds) : LcS M K H1 G1 D0 acc.length Hc Gc acc ds := { l with len := Nat.le_refl _ }
theorem OutJ.ofR {Q : L2.It → Hp → Prop} {r : R (List D)} {xs : List D} (e : r = .ok xs) (h : ∀ J H' G', Grow H G H' G' → JOk M K J xs G' → xs.length ≤ LIM → Q J H') : OutJ M K W H G Q r := by subst e; exact h
theorem tYes_of {σ : L2.St} {H : Hp} {Q : Bool → Hp → Prop} (h : Q true H) : tYes σ H Q := h
/-- what is asked of [e for t in it for t1 in it1] -/
theorem lc2_reading {vs vs1 : List Nat} {t t1 : Tg} {it it1 : It} {e : E} {σ : L2.St} {Q : VK} {s : Env} (ht : ∀ i ∈ tgS t, i ∈ vs) (ht1 : ∀ i ∈ tgS t1, i ∈ vs1) (sg : Sub G H) (hv : Vw M K (mnE (.lc2 vs vs1 t it t1 it1 e)) G σ s) (ho : OutK M K W 1 H G Q (evE T F (.lc2 vs vs1 t it t1 it1 e) s)) :
    tLc2 (tI T F M K W it) (tTg M K t) tYes (tI T F M K Wf it1) (tTg M K t1) tYes (tE T F M K Wf e) vs vs1 σ H Q := by
  have hv1 : Vw M K (mnI it) G σ s := hv.mono (Sub.refl _) fun i hi => List.mem_append_left _ hi
  have hv2 : Vw M K (mnI it1 ++ mnE e) G σ s := hv.mono (Sub.refl _) fun i hi => List.mem_append_right _ hi
  refine ⟨G, s, sg, hv1, ?_⟩
  unfold evE at ho
  cases e0 : evI T F it s with
  | no => rw [e0] at ho; exact ho
  | ex c' ds => rw [e0] at ho; exact ho
  | ok xs =>
    rw [e0] at ho
    simp only [bind_ok] at ho
    generalize hf : (fun x => (do
      let s' ← asg t x (wp vs s)
      let zs ← evI T F it1 s'
      let ws ← mapR (fun z => do
        let s2 ← asg t1 z (wp vs1 s')
        .ok (some (← evE T F e s2))) zs
      .ok (some (.lst ws)) : R (Option D))) = f at ho
    cases e1 : mapR f xs with
    | no => rw [e1] at ho; exact False.elim ho
    | ex c' ds => exact absurd e1 mapR_not_ex
    | ok ys =>
      rw [e1] at ho
      simp only [bind_ok] at ho
      cases e2 : evE.flatL ys with
      | none => rw [e2] at ho; exact False.elim ho
      | some L =>
        rw [e2] at ho
        simp only at ho
        split at ho
        case isFalse => exact False.elim ho
        rename_i hL
        intro J H1 G1 g1 jok hlen D0 hD
        refine ⟨fun i m Hc => m = xs.length - i ∧ i ≤ xs.length ∧ ∃ Gc acc ds rest fl, LcS M K H1 G1 D0 acc.length Hc Gc acc ds ∧ mapR f (xs.drop i) = .ok rest ∧ evE.flatL rest = some fl ∧ L = ds ++ fl,
          ⟨xs.length, by simp, Nat.zero_le _, G1, [], [], ys, L, (LcS.start g1.into hD), by simpa using e1, e2, rfl⟩, ?_⟩
        rintro i m Hc ⟨rfl, hi, Gc, acc, ds, rest, fl, l, hr, hfl, hy⟩
        by_cases hlt : i < xs.length
        · refine .inr ⟨jok.go i Hc Gc l.sub l.into hlt, fun H' => xs.length - (i + 1) = xs.length - (i + 1) ∧ i + 1 ≤ xs.length ∧ ∃ Gc acc ds rest fl, LcS M K H1 G1 D0 acc.length H' Gc acc ds ∧ mapR f (xs.drop (i + 1)) = .ok rest ∧ evE.flatL rest = some fl ∧ L = ds ++ fl,
            fun H' h => ⟨xs.length - (i + 1), by omega, h⟩, fun x H' y => ?_⟩
          obtain ⟨G2, d, g2, hd, rd⟩ := jok.yld i Hc Gc x H' l.sub l.into hlt y
          have ex : xs[i] = d := by rw [List.getElem?_eq_getElem hlt] at hd; exact Option.some.inj hd
          have edrop : xs.drop i = d :: xs.drop (i + 1) := by rw [List.drop_eq_getElem_cons hlt, ex]
          rw [edrop] at hr
          obtain ⟨o, zr, fo, fz, rfl⟩ := mapR_cons hr
          rw [← hf] at fo
          simp only at fo
          cases ea : asg t d (wp vs s) with
          | no => rw [ea] at fo; cases fo
          | ex _ _ => rw [ea] at fo; cases fo
          | ok s' =>
            rw [ea] at fo
            simp only [bind_ok] at fo
            refine ⟨G2, d, g2.into, rd, ⟨_, s', ea⟩, fun σ' ar => ⟨wipe_same ht ar, ?_⟩⟩
            have l2 := l.grow g2 (Nat.le_refl _)
            have hw : Vw M K ((mnI it1 ++ mnE e) ++ tgS t) G2 σ' s' := ar.vw _ _ _ ea ((hv2.mono ((g1.sub.trans l.sub).trans g2.sub) fun i hi => hi).wipe)
            refine tYes_of ?_
            dsimp only
            rw [if_pos rfl]
            refine ⟨G2, s', g2.into, hw.mono (Sub.refl _) fun i hi => List.mem_append_left _ (List.mem_append_left _ hi), ?_⟩
            cases ec : evI T F it1 s' with
            | no => rw [ec] at fo; cases fo
            | ex _ _ => rw [ec] at fo; cases fo
            | ok zs =>
              rw [ec] at fo
              simp only [bind_ok] at fo
              generalize hg : (fun z => (do
                let s2 ← asg t1 z (wp vs1 s')
                .ok (some (← evE T F e s2)) : R (Option D))) = g at fo
              cases e3 : mapR g zs with
              | no => rw [e3] at fo; cases fo
              | ex c' ds => exact absurd e3 mapR_not_ex
              | ok ws =>
                rw [e3] at fo
                simp only [bind_ok] at fo
                cases fo
                obtain ⟨ds', fl', ed', hfl', rfl⟩ := flatL_cons (show evE.flatL (.lst ws :: zr) = some fl from hfl)
                cases ed'
                intro J1 H4 G4 g4 jok1 hlen1
                have l4 := l2.grow g4 (Nat.le_refl _)
                refine ⟨fun j k Hd => k = zs.length - j ∧ j ≤ zs.length ∧ ∃ Gd acc' ds' rest', LcS M K H1 G1 D0 acc'.length Hd Gd acc' ds' ∧ Sub G4 Gd ∧ mapR g (zs.drop j) = .ok rest' ∧ L = ds' ++ (rest' ++ fl'),
                  ⟨zs.length, by simp, Nat.zero_le _, G4, acc, ds, ws, l4, Sub.refl _, by simpa using e3, hy⟩, ?_⟩
                rintro j k Hd ⟨rfl, hj, Gd, acc', ds', rest', ld, sd, hrd, hyd⟩
                by_cases hlt1 : j < zs.length
                · refine .inr ⟨jok1.go j Hd Gd sd ld.into hlt1, fun H' => zs.length - (j + 1) = zs.length - (j + 1) ∧ j + 1 ≤ zs.length ∧ ∃ Gd acc' ds' rest', LcS M K H1 G1 D0 acc'.length H' Gd acc' ds' ∧ Sub G4 Gd ∧ mapR g (zs.drop (j + 1)) = .ok rest' ∧ L = ds' ++ (rest' ++ fl'),
                    fun H' h => ⟨zs.length - (j + 1), by omega, h⟩, fun x1 H5 y1 => ?_⟩
                  obtain ⟨G5, d1, g5, hd1, rd1⟩ := jok1.yld j Hd Gd x1 H5 sd ld.into hlt1 y1
                  have ex1 : zs[j] = d1 := by rw [List.getElem?_eq_getElem hlt1] at hd1; exact Option.some.inj hd1
                  have edrop1 : zs.drop j = d1 :: zs.drop (j + 1) := by rw [List.drop_eq_getElem_cons hlt1, ex1]
                  rw [edrop1] at hrd
                  obtain ⟨o1, zr1, fo1, fz1, rfl⟩ := mapR_cons hrd
                  rw [← hg] at fo1
                  simp only at fo1
                  cases ea1 : asg t1 d1 (wp vs1 s') with
                  | no => rw [ea1] at fo1; cases fo1
                  | ex _ _ => rw [ea1] at fo1; cases fo1
                  | ok s2 =>
                    rw [ea1] at fo1
                    simp only [bind_ok] at fo1
                    refine ⟨G5, d1, g5.into, rd1, ⟨_, s2, ea1⟩, fun σ3 ar1 => ⟨wipe_same ht1 ar1, ?_⟩⟩
                    have l5 := ld.grow g5 (Nat.le_refl _)
                    have hw5 : Vw M K (((mnI it1 ++ mnE e) ++ tgS t) ++ tgS t1) G5 σ3 s2 := ar1.vw _ _ _ ea1 ((hw.mono ((g4.sub.trans sd).trans g5.sub) fun i hi => hi).wipe)
                    refine tYes_of ?_
                    dsimp only
                    rw [if_pos rfl]
                    cases ee : evE T F e s2 with
                    | no => rw [ee] at fo1; cases fo1
                    | ex _ _ => rw [ee] at fo1; cases fo1
                    | ok dy =>
                      rw [ee] at fo1
                      cases fo1
                      refine ⟨G5, s2, g5.into, hw5.mono (Sub.refl _) fun i hi => List.mem_append_left _ (List.mem_append_left _ (List.mem_append_right _ hi)), ?_⟩
                      rw [ee]
                      intro v H6 G6 g6 r6
                      have l6 := l5.grow g6 (Nat.le_refl _)
                      refine ⟨acc', l6.at_, ?_, rfl, hlt1, G6, acc' ++ [v], ds' ++ [dy], zr1, (l6.put hD r6).re, (sd.trans g5.sub).trans g6.sub, fz1, by simpa using hyd⟩
                      rw [LIM_eq, l6.reps.length]
                      rw [hyd] at hL
                      simp at hL
                      omega
                · have ej : j = zs.length := by omega
                  refine .inl ⟨by rw [ej]; exact jok1.stop Hd Gd sd ld.into, rfl, hlt, Gd, acc', ds', zr, fl', ld, fz, hfl', ?_⟩
                  rw [ej, List.drop_length] at hrd
                  cases hrd
                  simpa using hyd
        · have ei : i = xs.length := by omega
          refine .inl ⟨by rw [ei]; exact jok.stop Hc Gc l.sub l.into, ?_⟩
          rw [ei, List.drop_length] at hr
          cases hr
          cases hfl
          rw [List.append_nil] at hy
          subst hy
          obtain ⟨g, o⟩ := l.own
          exact ho (.ref D0) Hc Gc [D0] (g1.trans g) (fun p hp => by
            have : p = D0 := by simpa using hp
            rw [this]
            cases q : H D0 with
            | none => rfl
            | some u => have := g1.ext _ _ q; rw [hD] at this; cases this) o
end
end Fc

set_option Elab.async false
set_option linter.all false
set_option maxRecDepth 100000
set_option maxHeartbeats 4000000
namespace Fc
open PySem PySem.Spec PyProof.Rows L2
section
variable {T : Tab} {M : Nm} {n : Nat} {W : XK} {X : Cx} {K : PySem.W.Frag} {H G : Hp} {F : Nat → List D → R D}
/-! ### steps -/
theorem Vw.l {a b : List Nat} {σ : L2.St} {s : Env} (h : Vw M K (a ++ b) G σ s) : Vw M K a G σ s := h.mono (Sub.refl _) fun _ hi => List.mem_append_left _ hi
theorem Vw.r {a b : List Nat} {σ : L2.St} {s : Env} (h : Vw M K (a ++ b) G σ s) : Vw M K b G σ s := h.mono (Sub.refl _) fun _ hi => List.mem_append_right _ hi
theorem Vw.up {a : List Nat} {G' : Hp} {σ : L2.St} {s : Env} (h : Vw M K a G σ s) (e : Sub G G') : Vw M K a G' σ s := h.mono e fun _ hi => hi
theorem Out.step {Q Q' : VK} {r : R D} {f : D → R D} (h : Out M K W H G Q (r >>= f)) (i : ∀ v H1 G1 d, Grow H G H1 G1 → Rep M K G1 v d → Out M K W H1 G1 Q (f d) → Q' v H1) : Out M K W H G Q' r := by
  cases r with
  | ok d => exact fun v H' G' g' r' => i v H' G' d g' r' (Out.grow h g')
  | ex c ds => exact h
  | no => exact h
theorem Out.stepL {Q : VK} {Q' : List V → Hp → Prop} {r : R (List D)} {f : List D → R D} (h : Out M K W H G Q (r >>= f)) (i : ∀ v H1 G1 d, Grow H G H1 G1 → Reps M K G1 v d → Out M K W H1 G1 Q (f d) → Q' v H1) : OutL M K W H G Q' r := by
  cases r with
  | ok d => exact fun v H' G' g' r' => i v H' G' d g' r' (Out.grow h g')
  | ex c ds => exact h
  | no => exact h
theorem OutL.grow {Q : List V → Hp → Prop} {H1 G1 : Hp} {r : R (List D)} (h : OutL M K W H G Q r) (g : Grow H G H1 G1) : OutL M K W H1 G1 Q r := by
  cases r with
  | ok d => exact fun v H' G' g' r' => h v H' G' (g.trans g') r'
  | ex c ds => exact fun cls d H' G' g' r' => h cls d H' G' (g.trans g') r'
  | no => exact h
theorem OutL.step {Q : List V → Hp → Prop} {Q' : VK} {r : R D} {f : D → R (List D)} (h : OutL M K W H G Q (r >>= f)) (i : ∀ v H1 G1 d, Grow H G H1 G1 → Rep M K G1 v d → OutL M K W H1 G1 Q (f d) → Q' v H1) : Out M K W H G Q' r := by
  cases r with
  | ok d => exact fun v H' G' g' r' => i v H' G' d g' r' (OutL.grow h g')
  | ex c ds => exact h
  | no => exact h
theorem OutL.stepL {Q Q' : List V → Hp → Prop} {r : R (List D)} {f : List D → R (List D)} (h : OutL M K W H G Q (r >>= f)) (i : ∀ v H1 G1 d, Grow H G H1 G1 → Reps M K G1 v d → OutL M K W H1 G1 Q (f d) → Q' v H1) : OutL M K W H G Q' r := by
  cases r with
  | ok d => exact fun v H' G' g' r' => i v H' G' d g' r' (OutL.grow h g')
  | ex c ds => exact h
  | no => exact h
theorem OutB.grow {Q : Bool → Hp → Prop} {H1 G1 : Hp} {r : R D} (h : OutB M K W H G Q r) (g : Grow H G H1 G1) : OutB M K W H1 G1 Q r := by
  cases r with
  | ok d =>
    cases d with
    | bl b => exact fun H' G' g' => h H' G' (g.trans g')
    | _ => exact False.elim h
  | ex c ds => exact fun cls d H' G' g' r' => h cls d H' G' (g.trans g') r'
  | no => exact h
theorem OutB.step {Q : Bool → Hp → Prop} {Q' : VK} {r : R D} {f : D → R D} (h : OutB M K W H G Q (r >>= f)) (i : ∀ v H1 G1 d, Grow H G H1 G1 → Rep M K G1 v d → OutB M K W H1 G1 Q (f d) → Q' v H1) : Out M K W H G Q' r := by
  cases r with
  | ok d => exact fun v H' G' g' r' => i v H' G' d g' r' (OutB.grow h g')
  | ex c ds => exact h
  | no => exact h
/-- a test, then more -/
theorem Out.stepB {Q : VK} {Q' : Bool → Hp → Prop} {r : R D} {f : D → R D} (hf : ∀ d, (∀ b, d ≠ .bl b) → f d = .no) (h : Out M K W H G Q (r >>= f)) (i : ∀ b H1 G1, Grow H G H1 G1 → Out M K W H1 G1 Q (f (.bl b)) → Q' b H1) : OutB M K W H G Q' r := by
  cases r with
  | ok d =>
    have h' : Out M K W H G Q (f d) := h
    cases d with
    | bl b => exact fun H' G' g' => i b H' G' g' (Out.grow h' g')
    | _ => rw [hf _ (by intro b z; cases z)] at h'; exact False.elim h'
  | ex c ds => exact h
  | no => exact h
theorem OutB.stepB {Q : Bool → Hp → Prop} {Q' : Bool → Hp → Prop} {r : R D} {f : D → R D} (hf : ∀ d, (∀ b, d ≠ .bl b) → f d = .no) (h : OutB M K W H G Q (r >>= f)) (i : ∀ b H1 G1, Grow H G H1 G1 → OutB M K W H1 G1 Q (f (.bl b)) → Q' b H1) : OutB M K W H G Q' r := by
  cases r with
  | ok d =>
    have h' : OutB M K W H G Q (f d) := h
    cases d with
    | bl b => exact fun H' G' g' => i b H' G' g' (OutB.grow h' g')
    | _ => rw [hf _ (by intro b z; cases z)] at h'; exact False.elim h'
  | ex c ds => exact h
  | no => exact h
theorem tT_tB {a : E} {σ : L2.St} {Q : Bool → Hp → Prop} (h : tT T F M K W a σ H Q) : tE T F M K W a σ H (fun x H1 => ∃ c, x = .bl c ∧ Q c H1) :=
  let ⟨G, s, sg, hv, ho⟩ := h
  ⟨G, s, sg, hv, ho.of⟩
theorem tE_bin {a b c : E} {f : D → D → R D} (hm : mnE c = mnE a ++ mnE b) (he : ∀ s, evE T F c s = (do f (← evE T F a s) (← evE T F b s))) {σ : L2.St} {Q : VK} (h : tE T F M K W c σ H Q) :
    tE T F M K W a σ H fun x H1 => tE T F M K W b σ H1 fun y H2 => rB2 T M W K f x y H2 Q := by
  obtain ⟨G, s, sg, hv, ho⟩ := h
  rw [hm] at hv
  rw [he] at ho
  refine ⟨G, s, sg, hv.l, ho.step fun v H1 G1 d g r ho => ?_⟩
  refine ⟨G1, s, g.into, hv.r.up g.sub, ho.step fun w H2 G2 d2 g2 r2 ho => ?_⟩
  exact ⟨G2, d, d2, g2.into, r.mono g2.sub, r2, ho⟩
/-! ### a test with if -/
theorem pt_ifExp {c a b : Expr} {pos : Pos} {tA t1 t2 : TT} (hc : PT X c tA) (ha : PT X a t1) (hb : PT X b t2) : PT X (.IfExp c a b pos) (fun σ H Q => tA σ H fun d H1 => if d = true then t1 σ H1 Q else t2 σ H1 Q) := by
  refine ⟨fun pins s σ H Q I h => ?_⟩
  refine isTrue_IfExp (thn (hc.run pins s σ H _ I h) fun d s1 ⟨H1, I1, q1⟩ => ?_)
  cases d with
  | true => exact ha.run pins s1 σ H1 Q I1 q1
  | false => exact hb.run pins s1 σ H1 Q I1 q1
def valX : Expr → Bool
  | .UnaryOp .Not _ _ => false
  | .BoolOp .. => false
  | .IfExp .. => false
  | .Compare .. => false
  | _ => true
theorem val_ok {e : Expr} {env : PySem.Env} (h : valX e = true) : ∀ whole, isTrue e env whole = (do let v ← whole; standAt e.pos; holding [v] (truthy v)) := by
  intro whole
  cases e <;> first
    | rfl
    | (cases h; done)
    | skip
  rename_i o a p
  cases o <;> first
    | rfl
    | (cases h; done)
/-! ### argument lists -/
theorem plainEs {sc : Scope} : ∀ {a : Es} {es : List Expr}, chkEs M X.N sc a es = true → ∀ e ∈ es, plainX e = true
  | .nil, [], _, e, he => by cases he
  | .nil, _ :: _, h, e, he => by cases h
  | .cons _ _, [], h, e, he => by cases h
  | .cons a as, e' :: es, h, e, he => by
    obtain ⟨h1, h2⟩ := bA (show (chkE M X.N sc a e' && chkEs M X.N sc as es) = true from h)
    rcases List.mem_cons.mp he with z | z
    · rw [z]; exact chkE_plain h1
    · exact plainEs h2 e z
theorem back_plain {pos : Pos} {env : PySem.Env} : ∀ {es : List Expr}, (∀ e ∈ es, plainX e = true) → (backTo pos (starEach es env)).any (·.1) = false
  | [], _ => rfl
  | e :: es, h => by
    rw [star_plain (h e (by simp))]
    show (false || (backTo pos (starEach es env)).any (·.1)) = false
    rw [back_plain fun e' he => h e' (List.mem_cons_of_mem _ he)]
    rfl
theorem back_plain2 {pos : Pos} {env : PySem.Env} : ∀ {es : List Expr}, (∀ e ∈ es, plainX e = true) → (backTo pos (starEach es env)).all (!·.1) = true
  | [], _ => rfl
  | e :: es, h => by
    rw [star_plain (h e (by simp))]
    show (true && (backTo pos (starEach es env)).all (!·.1)) = true
    rw [back_plain2 fun e' he => h e' (List.mem_cons_of_mem _ he)]
    rfl
theorem meth_ht {o : Expr} {m : Str} {apos pos : Pos} {env : PySem.Env} {es : List Expr} (hb : baseX o = true) (hl : apos.endLine = pos.line) (hlen : es.length < 20) (hp : ∀ e ∈ es, plainX e = true) :
    eval (.Call (.Attribute o m apos) es [] pos) env = (do
      let ov ← eval o env
      standAt apos.atName
      let (f, first) ← holding [ov] (getMethod ov m (plainOf o env))
      callWith pos f first (backTo pos (starEach es env)) (backToKw pos (keywordEach [] env))) := by
  have e : ∀ ov, methodCall o m apos pos env ov (es.length + ([] : List Keyword).length) (backTo pos (starEach es env)) (backToKw pos (keywordEach [] env)) = (do
      let (f, first) ← holding [ov] (getMethod ov m (plainOf o env))
      callWith pos f first (backTo pos (starEach es env)) (backToKw pos (keywordEach [] env))) := fun ov => mcall_line (by
        unfold methodCallForm
        rw [back_plain2 hp]
        show (true && true && decide (es.length + 0 + 0 < 30)) = true
        rw [decide_eq_true (by omega)]; rfl) (by rw [hl]; exact beq_self_eq_true _)
  rw [arm_eval_Call, base_plain hb]
  simp only [e]
/-! ### calls -/
theorem sp_of {f : Nat} {d : Def} {vs : List V} {ds : List D} {Q : VK} (g : Good T M n W X) (hd : T.fn f = some d) (hi : d.init = false) (sg : Sub G H) (hv : Reps M X.K G vs ds) (ho : Out M X.K W H G Q (call T n f ds)) : spF T M X.K n f d vs H Q W := by
  obtain ⟨hl, _⟩ := g.lv.fns f d hd
  obtain ⟨d', hd', hn⟩ := call_some ho.ne
  rw [hd] at hd'; cases hd'
  unfold spF
  rw [hi]
  exact ⟨G, ds, by rw [hv.length, hn, hl], sg, hv, ho.toK⟩
theorem mk_sp {f c : Nat} {d : Def} {vs : List V} {ds : List D} {Q : VK} {x dx : Addr} (g : Good T M n W X) (hd : T.fn f = some d) (hi : d.init = true) (sg : Sub G H) (hv : Reps M X.K G vs ds) (hx : H x = none) (hdx : H dx = none) (hne : dx ≠ x)
    (ho : Out M X.K W H G Q (call T n f (.obj c [] [] :: ds))) : spF T M X.K n f d (.ref x :: vs) (upd (upd H dx (.own x)) x (.ins (M.C X.K c) dx [])) (fun v H2 => v = .non ∧ Q (.ref x) H2) W := by
  obtain ⟨hl, _⟩ := g.lv.fns f d hd
  obtain ⟨d', hd', hn⟩ := call_some ho.ne
  rw [hd] at hd'; cases hd'
  have keep : ∀ b o, H b = some o → (upd (upd H dx (.own x)) x (.ins (M.C X.K c) dx [])) b = some o := fun b o e => by
    rw [upd_ne (ne_of_none e hx), upd_ne (ne_of_none e hdx)]; exact e
  have gn : G x = none := by
    cases q : G x with
    | none => rfl
    | some u => have := sg _ _ q; rw [hx] at this; cases this
  unfold spF
  rw [hi]
  refine ⟨G, ds, x, dx, c, vs, rfl, ?_, upd_same, gn, fun a o e => keep a o (sg a o e), hv, ?_⟩
  · rw [List.length_cons, hv.length, hl, ← hn]; rfl
  · cases e : call T n f (.obj c [] [] :: ds) with
    | ok d' =>
      rw [e] at ho
      intro H2 G2 h1 h2 h3 h4 r
      refine ⟨rfl, ho _ _ _ ⟨fun b o q => h1 b o (ne_of_none q hx) (keep b o q), h2, h3, fun b o q => h4 b o (ne_of_none q hx) (keep b o q)⟩ r⟩
    | ex c' ds' =>
      rw [e] at ho
      intro cls dd H2 G2 h1 h2 h3 h4 r
      exact ho _ _ _ _ ⟨fun b o q => h1 b o (ne_of_none q hx) (keep b o q), h2, h3, fun b o q => h4 b o (ne_of_none q hx) (keep b o q)⟩ r
    | no => rw [e] at ho; exact ho
end
end Fc

set_option Elab.async false
set_option linter.all false
set_option maxRecDepth 100000
set_option maxHeartbeats 4000000
namespace Fc
open PySem PySem.Spec PyProof.Rows L2
section
variable {T : Tab} {M : Nm} {n : Nat} {W : XK} {X : Cx} {K : PySem.W.Frag} {H G : Hp}
theorem gl_of {x : Str} (h : glo X.env.scope x = true) : Gl X x := glo_ok h
theorem es_nil {sc : Scope} {N : List Str} {es : Es} (h : chkEs M N sc es [] = true) : es = .nil := by
  cases es with
  | nil => rfl
  | cons a as => cases h
theorem mc_run {pins : List (Addr × Obj)} {σ : L2.St} {Q : VK} {s : Shared} {us : List Value} {vs : List V} {ds : List D} {f : Nat} {d : Def} (g : Good T M n W X) (hd : T.fn f = some d) (hi : d.init = false)
    (I : Inv X pins σ H s) (r : Vals vs us) (sg : Sub G H) (hv : Reps M X.K G vs ds) (ho : Out M X.K W H G Q (call T n f ds)) : wpAny (model X.prog X.w) X.A (PySem.call (.ref (He.fAd X.K (M.at_ f))) us) (EP X pins σ Q) X.xe s :=
  fn_call g hd hi fr_refl (g.room.mono (by omega)) I r sg hv ho
/-! ### f(..) -/
theorem c_call (g : Good T M n W X) {f : Nat} {es : Es} {x : Str} {p pos : Pos} {es' : List Expr} (hat : M.at_ f = (x, none)) (hg : glo X.env.scope x = true) (hn : nmOk x = true) (hes : chkEs M X.N X.env.scope es es' = true)
    (pa : PA X es' (tEs T (call T n) M X.K W es)) : PE X (.Call (.Name x p) es' [] pos) (tE T (call T n) M X.K W (.call f es)) := by
  refine ⟨fun pins s σ H Q I ⟨G, st, sg, hv, ho⟩ => ?_⟩
  cases hT : T.fn f with
  | none =>
    have : evE T (call T n) (.call f es) st = .no := by unfold evE; rw [hT]
    rw [this] at ho; exact ho.elim
  | some d =>
    have e0 : evE T (call T n) (.call f es) st = (evEs T (call T n) es st >>= fun xs => call T n f xs) := by unfold evE; rw [hT]
    rw [e0] at ho
    have hi := g.ev.ini f d x hT hat
    have hm := g.ev.glo f d x hT hat
    have hk := g.ev.kp f d hT
    obtain ⟨hl, fd, F, hb, _⟩ := g.lv.fns f d hT
    rw [hat] at F hk
    have hr : Room (2 * n + 40) X.A := g.room.mono (by omega)
    have hp := plainEs hes
    cases es' with
    | nil =>
      have e1 := es_nil hes
      subst e1
      exact (pe_call0 F hr (gl_of hg) hm hk ((hb hi).none rfl) .nil (passG g) (nm_ok hn).1).run pins s σ H Q I (sp_of g hT hi sg .nil ho)
    | cons e1 es1 =>
      refine (pe_call F hr (gl_of hg) hm hk ((hb hi).none rfl) .nil (passG g) pa (nm_ok hn).1 (star_plain (hp _ (by simp))) (back_plain fun e he => hp e (List.mem_cons_of_mem _ he))).run pins s σ H Q I ?_
      refine ⟨G, st, sg, hv, ho.stepL fun v H1 G1 ds gr r ho => ?_⟩
      rw [List.append_nil]
      exact sp_of g hT hi gr.into r ho
/-! ### C(..) -/
theorem c_mk (g : Good T M n W X) {c : Nat} {es : Es} {kw : Eo} {x : Str} {p pos : Pos} {e1 : Expr} {es' : List Expr} {ks : List Keyword} (hx : x = M.cl c) (hg : glo X.env.scope x = true) (hn : nmOk x = true) (hes : chkEs M X.N X.env.scope es (e1 :: es') = true)
    (pa : PA X (e1 :: es') (tEs T (call T n) M X.K W es)) (hk : (kw = .none ∧ ks = []) ∨ ∃ a v kp, kw = .some a ∧ ks = [⟨some (M.kw c), v, kp⟩] ∧ PE X v (tE T (call T n) M X.K W a)) :
    PE X (.Call (.Name x p) (e1 :: es') ks pos) (tE T (call T n) M X.K W (.mk c es kw)) := by
  refine ⟨fun pins s σ H Q I ⟨G, st, sg, hv, ho⟩ => ?_⟩
  have hp := plainEs hes
  have hst := star_plain (es := es') (env := X.env) (hp e1 (by simp))
  have hpl : (backTo pos (starEach es' X.env)).any (·.1) = false := back_plain fun e he => hp e (List.mem_cons_of_mem _ he)
  cases hT : T.init c with
  | none =>
    have : evE T (call T n) (.mk c es kw) st = .no := by unfold evE; rw [hT]
    rw [this] at ho; exact ho.elim
  | some q =>
    obtain ⟨f, dd⟩ := q
    obtain ⟨hC, hM, hm, d, hd, hi⟩ := g.ev.cls c f dd hT
    obtain ⟨hl, fd, F, _, hb⟩ := g.lv.fns f d hd
    have hb := hb c dd hT
    have hr : Room (2 * n + 40 + 1) X.A := g.room.mono (by omega)
    rw [← hx] at hm
    have hv1 : Vw M X.K (mnEs es) G σ st := hv.l
    cases dd with
    | none =>
      rcases hk with ⟨rfl, rfl⟩ | ⟨a, v, kp, rfl, rfl, pv⟩
      · have e0 : evE T (call T n) (.mk c es .none) st = (evEs T (call T n) es st >>= fun xs => call T n f (.obj c [] [] :: xs)) := by unfold evE; rw [hT]
        rw [e0] at ho
        refine (pe_make hM F hr (gl_of hg) hm (hb.none rfl) .nil (passG g) pa (nm_ok hn).1 hst hpl).run pins s σ H Q I ?_
        refine ⟨G, st, sg, hv1, ho.stepL fun v H1 G1 ds gr r ho x dx h1 h2 h3 => ?_⟩
        rw [List.append_nil]
        exact mk_sp g hd hi gr.into r h1 h2 h3 ho
      · have : evE T (call T n) (.mk c es (.some a)) st = .no := by unfold evE; rw [hT]
        rw [this] at ho; exact ho.elim
    | some d0 =>
      obtain ⟨⟨v0, us0, hv0, hr0, hbn⟩, hkb⟩ := hb.some (M.kw c) d0 rfl
      have e0 : evE T (call T n) (.mk c es kw) st = (evEs T (call T n) es st >>= fun xs => evOd T (call T n) kw st >>= fun k => call T n f (.obj c [] [] :: (xs ++ [k.getD d0]))) := by unfold evE; rw [hT]
      rw [e0] at ho
      rcases hk with ⟨rfl, rfl⟩ | ⟨a, v, kp, rfl, rfl, pv⟩
      · refine (pe_make hM F hr (gl_of hg) hm hbn hv0 (passG g) pa (nm_ok hn).1 hst hpl).run pins s σ H Q I ?_
        refine ⟨G, st, sg, hv1, ho.stepL fun v H1 G1 ds gr r ho x dx h1 h2 h3 => ?_⟩
        exact mk_sp g hd hi gr.into (r.append (.cons (hr0 G1) .nil)) h1 h2 h3 ho
      · have h2 : (M.ps f).length - 1 = ((M.ps f).length - 2) + 1 := by have := g.ev.kwl c f d0 hT; omega
        rw [h2] at hkb
        refine (pe_makeK hM F hr (gl_of hg) hm hkb (passG g) pa (pk_cons pv pk_nil) rfl rfl (nm_ok hn).1 hst (by
          rw [hst]
          show ((false || (backTo pos (starEach es' X.env)).any (·.1)) || (false || false)) = false
          rw [hpl]; rfl)).run pins s σ H Q I ?_
        refine ⟨G, st, sg, hv1, ho.stepL fun v H1 G1 ds gr r ho => ?_⟩
        have hv2 : Vw M X.K (mnE a) G1 σ st := hv.r.up gr.sub
        have e2 : evOd T (call T n) (.some a) st = (evE T (call T n) a st >>= fun d => R.ok (some d)) := rfl
        rw [e2] at ho
        have ho' : Out M X.K W H1 G1 Q (evE T (call T n) a st >>= fun d => call T n f (.obj c [] [] :: (ds ++ [d]))) := by
          cases q : evE T (call T n) a st <;> (rw [q] at ho; exact ho)
        refine ⟨G1, st, gr.into, hv2, ho'.step fun v2 H2 G2 d2 g2 r2 ho => ⟨?_, rfl, fun x dx h1 h2 h3 => ?_⟩⟩
        · obtain ⟨d', hd', hn'⟩ := call_some ho.ne
          rw [hd] at hd'; cases hd'
          rw [List.length_cons, List.length_append] at hn'
          rw [r.length, hl, ← hn']
          simp
        · exact mk_sp g hd hi g2.into ((r.mono g2.sub).append (.cons r2 .nil)) h1 h2 h3 ho
/-! ### o.m(..) -/
theorem lk_none {m : Str} : ∀ {fs : List (Str × V)} {ks : List Nat}, M.Nms fs ks → (∀ k, k < M.nf → m ≠ M.fd k) → fs.lookup m = none
  | [], _, _, _ => rfl
  | (y, v) :: fs, [], e, _ => by have := e.1; simp at this
  | (y, v) :: fs, k :: ks, e, h => by
    obtain ⟨e, hb⟩ := e
    simp at e
    have hne : (m == y) = false := beq_eq_false_iff_ne.mpr (by rw [e.1]; exact h k (hb k (by simp)))
    rw [List.lookup_cons, hne]
    exact lk_none ⟨e.2, fun k hk => hb k (List.mem_cons_of_mem _ hk)⟩ h
theorem c_meth (g : Good T M n W X) {m : Nat} {a : E} {es : Es} {o : Expr} {x : Str} {apos pos : Pos} {es' : List Expr} (hx : x = M.mt m) (hm9 : m < M.nm) (hb : baseX o = true) (hl : apos.endLine = pos.line) (hlen : es'.length < 20) (hes : chkEs M X.N X.env.scope es es' = true)
    (pa : PE X o (tE T (call T n) M X.K W a)) (ps : PA X es' (tEs T (call T n) M X.K W es)) : PE X (.Call (.Attribute o x apos) es' [] pos) (tE T (call T n) M X.K W (.meth a m es)) := by
  refine ⟨fun pins s σ H Q I ⟨G, st, sg, hv, ho⟩ => ?_⟩
  have hp := plainEs hes
  subst hx
  have e0 : evE T (call T n) (.meth a m es) st = (evE T (call T n) a st >>= fun x => mtD T m x >>= fun f => evEs T (call T n) es st >>= fun xs => call T n f (x :: xs)) := rfl
  rw [e0] at ho
  have hv1 : Vw M X.K (mnE a) G σ st := hv.l
  have hv2 : Vw M X.K (mnEs es) G σ st := hv.r
  refine PySem.W.methodCall_KW (pl := plainOf o X.env) (thn (pa.run pins s σ H _ I ⟨G, st, sg, hv1, ho.step fun v H1 G1 d gr r ho => (⟨G1, d, gr, r, ho⟩ : ∃ G1 d, Grow H G H1 G1 ∧ Rep M X.K G1 v d ∧ Out M X.K W H1 G1 Q (mtD T m d >>= fun f => evEs T (call T n) es st >>= fun xs => call T n f (d :: xs)))⟩) fun u s1 ⟨v, H1, I1, rx, G1, d, gr, r, ho⟩ => ?_) (meth_ht hb hl hlen hp)
  cases d <;> first | exact ho.elim | skip
  rename_i c ks ds
  cases hm : T.mt c m with
  | none =>
    have : mtD T m (.obj c ks ds) = .no := by unfold mtD; simp only [hm]; rfl
    rw [this] at ho; exact ho.elim
  | some f =>
    have : mtD T m (.obj c ks ds) = .ok f := by unfold mtD; simp only [hm]; rfl
    rw [this] at ho
    have ho : Out M X.K W H1 G1 Q (evEs T (call T n) es st >>= fun xs => call T n f (.obj c ks ds :: xs)) := ho
    obtain ⟨a', dx, fs, rfl, ha, hf⟩ := obj_at gr.into r
    obtain rfl : u = Value.ref a' := rx
    obtain ⟨q, hq⟩ := g.ev.mtc c m f hm
    obtain ⟨hC, _⟩ := g.ev.cls c q.1 q.2 hq
    obtain ⟨Mt, d, hd, hi⟩ := g.ev.mth c m f hm
    refine getmeth_ok I1 ha hC Mt (lk_none hf fun k hk => g.ev.mfd m k hm9 hk) ?_
    cases es' with
    | nil =>
      have e1 := es_nil hes
      subst e1
      exact PySem.W.callWith_K0 (first := [.ref a']) I1.kIn Mt.kp (mc_run (us := [.ref a']) (vs := [.ref a']) g hd hi I1 (.cons rfl .nil) gr.into (.cons r .nil) ho)
    | cons e1 es1 =>
      refine PySem.W.callWith_K (first := [.ref a']) (h₀ := X.base) I1.ok.mod.kin Mt.kp (thn (ps.run pos pins s1 σ H1 _ I1 ⟨G1, st, gr.into, hv2.up gr.sub, ho.stepL fun v H2 G2 ds2 g2 r2 ho => (⟨G2, ds2, g2, r2, ho⟩ : ∃ G2 ds2, Grow H1 G1 H2 G2 ∧ Reps M X.K G2 v ds2 ∧ Out M X.K W H2 G2 Q (call T n f (.obj c ks ds :: ds2)))⟩) fun us s2 ⟨vs, H2, I2, r2, G2, ds2, g2, rr, ho⟩ => ⟨I2.kIn, ?_⟩) (star_plain (hp _ (by simp))) (back_plain fun e he => hp e (List.mem_cons_of_mem _ he))
      exact mc_run (us := .ref a' :: us) (vs := .ref a' :: vs) g hd hi I2 (.cons rfl r2) g2.into (.cons (r.mono g2.sub) rr) ho
/-! ### o.k -/
theorem lk_fd (hj : ∀ i j, i < M.nf → j < M.nf → M.fd i = M.fd j → i = j) : ∀ {fs : List (Str × V)} {ks : List Nat} {ds : List D} {k : Nat} {d : D}, M.Nms fs ks → k < M.nf → Reps M K G (fs.map (·.2)) ds → getF ks ds k = some d → ∃ v, fs.lookup (M.fd k) = some v ∧ Rep M K G v d
  | [], [], _, _, _, _, _, _, h => by simp [getF] at h
  | [], _ :: _, _, _, _, e, _, _, _ => by have := e.1; simp at this
  | (y, v) :: fs, [], _, _, _, e, _, _, _ => by have := e.1; simp at this
  | (y, v) :: fs, k' :: ks, ds, k, d, e, hk9, r, h => by
    obtain ⟨e, hb⟩ := e
    simp at e
    cases r with
    | cons r1 r2 =>
      unfold getF at h
      by_cases hk : k' = k
      · rw [if_pos hk] at h
        cases h
        refine ⟨v, ?_, r1⟩
        rw [List.lookup_cons, e.1, hk, beq_self_eq_true]
      · rw [if_neg hk] at h
        obtain ⟨w, h1, h2⟩ := lk_fd hj ⟨e.2, fun k hk => hb k (List.mem_cons_of_mem _ hk)⟩ hk9 r2 h
        refine ⟨w, ?_, h2⟩
        have hne : (M.fd k == y) = false := beq_eq_false_iff_ne.mpr fun z => hk (hj _ _ hk9 (hb k' (by simp)) (z.trans e.1)).symm
        rw [List.lookup_cons, hne]
        exact h1
theorem c_fld (g : Good T M n W X) {k : Nat} {a : E} {o : Expr} {x : Str} {pos : Pos} (hx : x = M.fd k) (hk9 : k < M.nf) (hb : baseX o = true) (pa : PE X o (tE T (call T n) M X.K W a)) : PE X (.Attribute o x pos) (tE T (call T n) M X.K W (.fld a k)) := by
  subst hx
  refine PE.imp (pe_fld pa (base_plain hb)) fun σ H Q ⟨G, st, sg, hv, ho⟩ => ?_
  have e0 : evE T (call T n) (.fld a k) st = (evE T (call T n) a st >>= fun x => fldD T x k) := rfl
  rw [e0] at ho
  refine ⟨G, st, sg, hv, ho.step fun v H1 G1 d gr r ho => ?_⟩
  cases d <;> first | exact ho.elim | skip
  rename_i c ks ds
  cases hT : T.init c with
  | none =>
    have : fldD T (.obj c ks ds) k = .no := by unfold fldD; simp only [hT]; rfl
    rw [this] at ho; exact ho.elim
  | some q =>
    have e1 : fldD T (.obj c ks ds) k = ofO (getF ks ds k) := by unfold fldD; simp only [hT]; rfl
    rw [e1] at ho
    cases hf : getF ks ds k with
    | none => rw [hf] at ho; exact ho.elim
    | some d =>
      rw [hf] at ho
      obtain ⟨hC, _⟩ := g.ev.cls c q.1 q.2 hT
      cases r with
      | obj h1 h2 h3 =>
        obtain ⟨w, hw, rw_⟩ := lk_fd g.ev.fdi h2 hk9 h3 hf
        exact ⟨_, _, _, _, w, rfl, gr.into _ _ h1, hC, g.ev.noat c q k hT hk9, hw, Out.now ho gr.into rw_⟩
/-! ### built-in functions -/
theorem c_bi (g : Good T M n W X) {b : Bf} {es : Es} {x : Str} {p pos : Pos} {e1 : Expr} {es' : List Expr} (hb : (match b with
        | .gcd => true
        | .lcm => false
        | .maxL => false
        | _ => decide (x ∈ M.frees)) = true) (hx : x = bname b) (hg : glo X.env.scope x = true) (hes : chkEs M X.N X.env.scope es (e1 :: es') = true) (pa : PA X (e1 :: es') (tEs T (call T n) M X.K W es)) :
    PE X (.Call (.Name x p) (e1 :: es') [] pos) (tE T (call T n) M X.K W (.bi b es)) := by
  have hp := plainEs hes
  have hst := star_plain (es := es') (env := X.env) (hp e1 (by simp))
  have hpl : (backTo pos (starEach es' X.env)).any (·.1) = false := back_plain fun e he => hp e (List.mem_cons_of_mem _ he)
  have rd : ∀ σ H Q, tE T (call T n) M X.K W (.bi b es) σ H Q → tCB (rLs T M W X.K (bfD T (call T n) b)) (tEs T (call T n) M X.K W es) σ H Q := fun σ H Q ⟨G, st, sg, hv, ho⟩ => by
    have e0 : evE T (call T n) (.bi b es) st = (evEs T (call T n) es st >>= fun xs => bfD T (call T n) b xs) := rfl
    rw [e0] at ho
    exact ⟨G, st, sg, hv, ho.stepL fun v H1 G1 d gr r ho => ⟨G1, d, gr.into, r, ho⟩⟩
  have fr : ∀ {y : Str}, decide (y ∈ M.frees) = true → X.mg y = none := fun h => g.ev.free _ (of_decide_eq_true h)
  subst hx
  cases b <;> first | (cases hb; done) | skip
  · exact PE.imp (pe_callB (len_any g) (gl_of hg) (fr hb) (by decide +kernel) pa (by decide) (by decide) hst hpl) rd
  · exact PE.imp (pe_callBfun (bi_any g .gcd (by decide) (by decide)) (gl_of hg) g.ev.gcd pa (by decide) hst hpl) rd
  · exact PE.imp (pe_callB (bi_any g .abs (by decide) (by decide)) (gl_of hg) (fr hb) (by decide +kernel) pa (by decide) (by decide) hst hpl) rd
  · exact PE.imp (pe_callTy (bi_any g .int (by decide) (by decide)) (gl_of hg) (fr hb) (by decide +kernel) pa (by decide) (by decide) hst hpl) rd
  · exact PE.imp (pe_callB (bi_any g .sum (by decide) (by decide)) (gl_of hg) (fr hb) (by decide +kernel) pa (by decide) (by decide) hst hpl) rd
  · exact PE.imp (pe_callB (bi_any g .all (by decide) (by decide)) (gl_of hg) (fr hb) (by decide +kernel) pa (by decide) (by decide) hst hpl) rd
  · exact PE.imp (pe_callB (bi_any g .any (by decide) (by decide)) (gl_of hg) (fr hb) (by decide +kernel) pa (by decide) (by decide) hst hpl) rd
  · exact PE.imp (pe_callTy (bi_any g .tuple (by decide) (by decide)) (gl_of hg) (fr hb) (by decide +kernel) pa (by decide) (by decide) hst hpl) rd
  · exact PE.imp (pe_callTy (bi_any g .list (by decide) (by decide)) (gl_of hg) (fr hb) (by decide +kernel) pa (by decide) (by decide) hst hpl) rd
  · exact PE.imp (pe_callB (bi_any g .min2 (by decide) (by decide)) (gl_of hg) (fr hb) (by decide +kernel) pa (by decide) (by decide) hst hpl) rd
  · exact PE.imp (pe_callB (bi_any g .max2 (by decide) (by decide)) (gl_of hg) (fr hb) (by decide +kernel) pa (by decide) (by decide) hst hpl) rd
  · exact PE.imp (pe_callB (bi_any g .sorted (by decide) (by decide)) (gl_of hg) (fr hb) (by decide +kernel) pa (by decide) (by decide) hst hpl) rd
/-! ### isinstance -/
def tyV (M : Nm) (K : PySem.W.Frag) : Ty → V
  | .int => .ty "int" | .bool => .ty "bool" | .list => .ty "list" | .tuple => .ty "tuple" | .cls c => .ref (M.C K c)
def tyU (M : Nm) (K : PySem.W.Frag) : Ty → Value
  | .int => .type "int" | .bool => .type "bool" | .list => .type "list" | .tuple => .type "tuple" | .cls c => .ref (M.C K c)
theorem ty_cls (t : Ty) : ClsV (tyV M K t) (tyU M K t) := by cases t <;> first | exact .ty _ | exact .own _
theorem pe_ty (g : Good T M n W X) {t : Ty} {e : Expr} (hk : knT T t = true) (h : tyOk M X.env.scope t e = true) : PE X e (L2.tC (tyV M X.K t)) := by
  cases e <;> first | (cases h; done) | skip
  rename_i x p
  have key : x = tyName M t ∧ glo X.env.scope x = true ∧ nmOk x = true ∧ ((∀ c, t ≠ .cls c) → x ∈ M.frees) := by
    cases t <;> refine ⟨of_decide_eq_true (bA h).1, (bA (bA h).2).1, (bA (bA (bA h).2).2).1, fun hc => ?_⟩ <;> first | exact of_decide_eq_true (bA (bA (bA h).2).2).2 | exact absurd rfl (hc _)
  obtain ⟨h1, h3, h5, h6⟩ := key
  subst h1
  cases t
  · exact pe_bltn (gl_of h3) (g.ev.free _ (h6 fun c z => by cases z)) (by show bootBuiltins "int" = some (.type "int"); decide +kernel) rfl (by show ("int" : Str) ≠ "__name__"; decide) (nm_ok h5).1
  · exact pe_bltn (gl_of h3) (g.ev.free _ (h6 fun c z => by cases z)) (by show bootBuiltins "bool" = some (.type "bool"); decide +kernel) rfl (by show ("bool" : Str) ≠ "__name__"; decide) (nm_ok h5).1
  · exact pe_bltn (gl_of h3) (g.ev.free _ (h6 fun c z => by cases z)) (by show bootBuiltins "list" = some (.type "list"); decide +kernel) rfl (by show ("list" : Str) ≠ "__name__"; decide) (nm_ok h5).1
  · exact pe_bltn (gl_of h3) (g.ev.free _ (h6 fun c z => by cases z)) (by show bootBuiltins "tuple" = some (.type "tuple"); decide +kernel) rfl (by show ("tuple" : Str) ≠ "__name__"; decide) (nm_ok h5).1
  · rename_i c
    cases hT : T.init c with
    | none => simp [knT, hT] at hk
    | some q =>
      obtain ⟨_, _, hm, _⟩ := g.ev.cls c q.1 q.2 hT
      exact pe_glob (gl_of h3) hm rfl (nm_ok h5).1
theorem ty_of {mg : Str → Option Value} (ev : Env1 T M K mg) {v : V} {d : D} (r : Rep M K G v d) (hk : knD T d = true) : (∃ tx, (∀ H, Sub G H → TyX K H v tx) ∧ ∀ t b, knT T t = true → isTy d t = some b → PySem.W.kitOne K tx (tyU M K t) = some b) ∨ ∀ t, isTy d t = none := by
  have kb : ∀ (a : String) (c : Nat) (b : Bool), a ∈ ["int", "bool", "list", "tuple", "NoneType"] → (T.init c).isSome = true → b = false → PySem.W.kitOne K (.type a) (.ref (M.C K c)) = some b := fun a c b ha hc hb => by
    obtain ⟨q, hq⟩ := Option.isSome_iff_exists.mp hc
    rw [hb]; exact ev.kitB c q a hq ha
  cases r
  · refine .inl ⟨_, fun H sg => .base .non, fun t b kt e => ?_⟩
    cases t <;> first | (cases e; exact kit_ty (by decide +kernel)) | (cases e; exact kb _ _ _ (by decide) kt rfl)
  · refine .inl ⟨_, fun H sg => .base (.bl _), fun t b kt e => ?_⟩
    cases t <;> first | (cases e; exact kit_ty (by decide +kernel)) | (cases e; exact kb _ _ _ (by decide) kt rfl)
  · refine .inl ⟨_, fun H sg => .base (.int _), fun t b kt e => ?_⟩
    cases t <;> first | (cases e; exact kit_ty (by decide +kernel)) | (cases e; exact kb _ _ _ (by decide) kt rfl)
  · refine .inr fun t => ?_
    cases t <;> rfl
  · rename_i h
    refine .inl ⟨_, fun H sg => .base (.tup (sg _ _ (by assumption))), fun t b kt e => ?_⟩
    cases t <;> first | (cases e; exact kit_ty (by decide +kernel)) | (cases e; exact kb _ _ _ (by decide) kt rfl)
  · refine .inl ⟨_, fun H sg => .base (.lst (sg _ _ (by assumption))), fun t b kt e => ?_⟩
    cases t <;> first | (cases e; exact kit_ty (by decide +kernel)) | (cases e; exact kb _ _ _ (by decide) kt rfl)
  · rename_i a ns hq
    have ht : ∀ H, Sub G H → TyX K H (.ref a) (.type "list") := fun H sg => by
      rcases sub_l sg hq with h | ⟨o, its, nn, h1, h2, _⟩
      · rcases h with h | ⟨o, h⟩
        · exact .base (.lst h)
        · exact .base (.frz h)
      · exact .kList h1 h2
    refine .inl ⟨_, ht, fun t b kt e => ?_⟩
    cases t <;> first | (cases e; done) | (cases e; exact kit_ty (by decide +kernel)) | (cases e; exact kb _ _ _ (by decide) kt rfl)
  · rename_i a dx fs c ks ds h1 h2 h3
    have hc : (T.init c).isSome = true := hk
    obtain ⟨q, hq⟩ := Option.isSome_iff_exists.mp hc
    obtain ⟨hC, _⟩ := ev.cls c q.1 q.2 hq
    refine .inl ⟨_, fun H sg => .base (.ins (sg _ _ (by assumption)) hC (ev.clsX c q hq) ev.clsY.1 ev.clsY.2 (ev.mro c q hq)), fun t b kt e => ?_⟩
    cases t
    · cases e; exact ev.kit c q _ hq (by decide)
    · cases e; exact ev.kit c q _ hq (by decide)
    · cases e; exact ev.kit c q _ hq (by decide)
    · cases e; exact ev.kit c q _ hq (by decide)
    · rename_i c'
      obtain ⟨q', hq'⟩ := Option.isSome_iff_exists.mp (show (T.init c').isSome = true from kt)
      cases e
      exact ev.kitC c q c' q' hq hq'
theorem isTys_kit {d : D} {tx : Value} (h : ∀ t b, knT T t = true → isTy d t = some b → PySem.W.kitOne K tx (tyU M K t) = some b) : ∀ {ty : List Ty} {b : Bool}, ty.all (knT T) = true → isTys d ty = some b → PySem.W.kitAny K tx (ty.map (tyU M K)) = some b
  | [], b, _, e => by cases e; rfl
  | t :: ts, b, hk, e => by
    rw [List.all_cons, Bool.and_eq_true] at hk
    unfold isTys at e
    cases q : isTy d t with
    | none => rw [q] at e; cases e
    | some c =>
      rw [q] at e
      refine kitAny_cons (h t c hk.1 q) (fun hc => ?_) (fun hc => ?_)
      · subst hc; exact isTys_kit h hk.2 e
      · subst hc; cases e; rfl
theorem isTys_none {d : D} (h : ∀ t, isTy d t = none) : ∀ {ty : List Ty}, ty ≠ [] → isTys d ty = none
  | [], e => absurd rfl e
  | t :: ts, _ => by unfold isTys; rw [h t]
theorem pa_tys (g : Good T M n W X) : ∀ {ty : List Ty} {es : List Expr}, ty.all (knT T) = true → tysOk M X.env.scope ty es = true → PA X es (fun σ H Q => Q (ty.map (tyV M X.K)) H) ∧ es.length = ty.length
  | [], [], _, _ => ⟨pa_nil, rfl⟩
  | [], _ :: _, _, h => by cases h
  | _ :: _, [], _, h => by cases h
  | t :: ts, e :: es, hk, h => by
    rw [List.all_cons, Bool.and_eq_true] at hk
    obtain ⟨h1, h2⟩ := bA (show (tyOk M X.env.scope t e && tysOk M X.env.scope ts es) = true from h)
    obtain ⟨p, l⟩ := pa_tys g hk.2 h2
    have he : plainX e = true := by cases e <;> first | rfl | (cases h1; done)
    exact ⟨pa_cons (pe_ty g hk.1 h1) p (star_plain he), by simp [l]⟩
theorem paired_ty : ∀ ty : List Ty, Paired ClsV (ty.map (tyV M K)) (ty.map (tyU M K))
  | [] => .nil
  | t :: ts => .cons (ty_cls t) (paired_ty ts)
theorem c_isi (g : Good T M n W X) {a : E} {ty : List Ty} {x : Str} {p pos : Pos} {a' t' : Expr} (hx : x = "isinstance") (hg : glo X.env.scope x = true) (hf : x ∈ M.frees) (hpa : plainX a' = true) (pa : PE X a' (tE T (call T n) M X.K W a))
    (hl : ty.length ≤ 20) (hne : ty ≠ []) (ht : (match t' with
        | .Tuple ts _ _ => tysOk M X.env.scope ty ts
        | t' => tysOk M X.env.scope ty [t']) = true) : PE X (.Call (.Name x p) [a', t'] [] pos) (tE T (call T n) M X.K W (.isi a ty)) := by
  subst hx
  refine ⟨fun pins s σ H Q I ⟨G, st, sg, hv, ho⟩ => ?_⟩
  by_cases hk : ty.all (knT T) = true
  case neg =>
    have : evE T (call T n) (.isi a ty) st = .no := by unfold evE; rw [if_neg hk]
    rw [this] at ho; exact ho.elim
  have e0 : evE T (call T n) (.isi a ty) st = (evE T (call T n) a st >>= fun x => isiD T x ty) := if_pos hk
  rw [e0] at ho
  have fin : ∀ {H1 G1 : Hp} {v : V} {d : D}, Grow H G H1 G1 → Rep M X.K G1 v d → Out M X.K W H1 G1 Q (isiD T d ty) → ∃ tx b, (∀ H2, Sub G1 H2 → TyX X.K H2 v tx) ∧ PySem.W.kitAny X.K tx (ty.map (tyU M X.K)) = some b ∧ (∀ t, ty = [t] → PySem.W.kitOne X.K tx (tyU M X.K t) = some b) ∧ (∀ H2 G2, Grow H1 G1 H2 G2 → Q (.bl b) H2) := by
    intro H1 G1 v d gr r ho
    unfold isiD at ho
    by_cases hd : knD T d = true
    case neg => rw [if_neg hd] at ho; exact ho.elim
    rw [if_pos hd] at ho
    cases e : isTys d ty with
    | none => rw [e] at ho; exact ho.elim
    | some b =>
      rw [e] at ho
      rcases ty_of g.ev r hd with ⟨tx, h1, h2⟩ | h
      · refine ⟨tx, b, h1, isTys_kit h2 hk e, fun t et => ?_, fun H2 G2 g2 => ho _ _ _ g2 (.bl b)⟩
        subst et
        have kt : knT T t = true := by simpa using hk
        refine h2 t b kt ?_
        unfold isTys at e
        cases q : isTy d t with
        | none => rw [q] at e; cases e
        | some c => rw [q] at e; cases c <;> exact e
      · rw [isTys_none h hne] at e; cases e
  by_cases htup : ∃ ts k p, t' = .Tuple ts k p
  · obtain ⟨ts, k, p', rfl⟩ := htup
    obtain ⟨pt, _⟩ := pa_tys g hk ht
    refine (pe_callB call_isiT (gl_of hg) (g.ev.free _ hf) (by decide +kernel) (pa_cons pa (pa_cons (pe_tup pt) pa_nil) (star_plain hpa)) (by decide) (by decide) (star_plain hpa) rfl).run pins s σ H Q I ?_
    refine ⟨G, st, sg, hv, ho.step fun v H1 G1 d gr r ho => ?_⟩
    obtain ⟨tx, b, h1, h2, _, h3⟩ := fin gr r ho
    refine ⟨by rw [List.length_map, LIM_eq]; unfold LIM; omega, fun tp np => ?_⟩
    have g2 := Grow.laid (p := tp) (o := .tup (ty.map (tyV M X.K))) gr.into np
    exact ⟨v, tp, _, tx, _, b, rfl, upd_same, paired_ty ty, h1 _ (g2.sub.trans g2.into), h2, h3 _ _ g2⟩
  · have ht' : tysOk M X.env.scope ty [t'] = true := by
      cases t' <;> first | exact ht | exact absurd ⟨_, _, _, rfl⟩ htup
    obtain ⟨pt, hl1⟩ := pa_tys g hk ht'
    obtain ⟨t, rfl⟩ : ∃ t, ty = [t] := by
      cases ty with
      | nil => exact absurd rfl hne
      | cons t ts => cases ts with
        | nil => exact ⟨t, rfl⟩
        | cons _ _ => simp at hl1
    have kt : knT T t = true := by simpa using hk
    have htt : tyOk M X.env.scope t t' = true := (bA (show (tyOk M X.env.scope t t' && tysOk M X.env.scope [] []) = true from ht')).1
    have he : plainX t' = true := by cases t' <;> first | rfl | (cases htt; done)
    refine (pe_callB call_isi (gl_of hg) (g.ev.free _ hf) (by decide +kernel) (pa_cons pa (pa_cons (pe_ty g kt htt) pa_nil (star_plain he)) (star_plain hpa)) (by decide) (by decide) (star_plain hpa) (by rw [star_plain he]; rfl)).run pins s σ H Q I ?_
    refine ⟨G, st, sg, hv, ho.step fun v H1 G1 d gr r ho => ?_⟩
    obtain ⟨tx, b, h1, _, h2, h3⟩ := fin gr r ho
    exact ⟨v, _, tx, _, b, rfl, ty_cls t, h1 _ gr.into, h2 t rfl, h3 _ _ (Grow.refl gr.into)⟩
end
end Fc

set_option Elab.async false
set_option linter.all false
set_option maxRecDepth 100000
set_option maxHeartbeats 4000000
namespace Fc
open PySem PySem.Spec PyProof.Rows L2
section
variable {T : Tab} {M : Nm} {n : Nat} {W : XK} {X : Cx} {K : PySem.W.Frag} {H G : Hp}
theorem Good.blk (g : Good T M n W X) (s : Shared) (H : Hp) (scope : Scope) (cenv : PySem.Env) (fp : List Addr) : Good T M n Wf (X.blk s H scope cenv fp) where
  calm := g.calm
  room := g.room
  nd := g.nd
  tk := fun u s' ⟨a, B, sI, pins, σ, H, cls, d, e, I, nb, up, sky, na, os, ag, w⟩ => w.elim
  ev := g.ev
  lv := g.lv
structure SE (T : Tab) (M : Nm) (n : Nat) (W : XK) (X : Cx) (a : E) (e : Expr) : Prop where
  pe : PE X e (tE T (call T n) M X.K W a)
  pt : PT X e (tT T (call T n) M X.K W a)
  pw : ∀ op vs p, e = .BoolOp op vs p → PW X e (tT T (call T n) M X.K W a)
theorem se_val {a : E} {e : Expr} (pe : PE X e (tE T (call T n) M X.K W a)) (hv : valX e = true) : SE T M n W X a e :=
  ⟨pe, PT.imp (pt_val pe (val_ok hv)) fun σ H Q h => tT_tB h, fun op vs p z => by subst z; cases hv⟩
/-! ### what the forms give -/
theorem chk_lc {N : List Str} {sc : Scope} {vs : List Nat} {t : Tg} {it : It} {c : Eo} {el : E} {e : Expr} (h : chkE M N sc (.lc vs t it c el) e = true) :
    ∃ el' t' it' ifs scope p, e = .ListComp el' [⟨t', it', ifs, 0⟩] scope p ∧ blkC N sc scope (ownOf N vs) = true ∧ (ownOf N vs).map (·.2) = vs ∧ tupI it t' = true ∧ chkI M N sc it it' = true ∧ chkTg N scope t t' = true ∧ (∀ i ∈ tgS t, i ∈ vs) ∧
      ((ifs = [] ∧ c = .none) ∨ ∃ x a, ifs = [x] ∧ c = .some a ∧ chkO M N (relS scope sc) c (some x) = true) ∧ chkE M N (relS scope sc) el el' = true := by
  cases e <;> first | (cases h; done) | skip
  rename_i el' gens scope p
  cases gens with
  | nil => cases h
  | cons g1 gs => cases gs with
    | cons _ _ => obtain ⟨t', it', ifs, as⟩ := g1; cases h
    | nil =>
      obtain ⟨t', it', ifs, as⟩ := g1
      obtain ⟨h1, z0⟩ := bA h
      obtain ⟨h2, z1⟩ := bA z0
      obtain ⟨h3, z2⟩ := bA z1
      obtain ⟨h4, z3⟩ := bA z2
      obtain ⟨h5, z4⟩ := bA z3
      obtain ⟨h6, z5⟩ := bA z4
      obtain ⟨h7, z6⟩ := bA z5
      obtain ⟨h8, z7⟩ := bA z6
      have e1 := of_decide_eq_true h1
      subst e1
      refine ⟨el', t', it', ifs, scope, p, rfl, h2, of_decide_eq_true h3, h4, h5, h6, fun i hi => of_decide_eq_true (List.all_eq_true.mp h7 i hi), ?_, z7⟩
      cases ifs with
      | nil => cases c with
        | none => exact .inl ⟨rfl, rfl⟩
        | some a => cases h8
      | cons x xs => cases xs with
        | cons _ _ => cases h8
        | nil => cases c with
          | none => cases h8
          | some a => exact .inr ⟨x, a, rfl, rfl, h8⟩
theorem chk_lc2 {N : List Str} {sc : Scope} {vs vs1 : List Nat} {t t1 : Tg} {it it1 : It} {el : E} {e : Expr} (h : chkE M N sc (.lc2 vs vs1 t it t1 it1 el) e = true) :
    ∃ el' t' it' t1' it1' scope p, e = .ListComp el' [⟨t', it', [], 0⟩, ⟨t1', it1', [], 0⟩] scope p ∧ blkC N sc scope (ownOf N vs) = true ∧ (ownOf N vs).map (·.2) = vs ∧ (∀ i ∈ vs1, i ∈ vs) ∧ tupI it t' = true ∧ tupI it1 t1' = true ∧ chkI M N sc it it' = true ∧ chkTg N scope t t' = true ∧ (∀ i ∈ tgS t, i ∈ vs) ∧
      chkI M N (relS scope sc) it1 it1' = true ∧ chkTg N scope t1 t1' = true ∧ (∀ i ∈ tgS t1, i ∈ vs1) ∧ chkE M N (relS scope sc) el el' = true := by
  cases e <;> first | (cases h; done) | skip
  rename_i el' gens scope p
  cases gens with
  | nil => cases h
  | cons g1 gs => cases gs with
    | nil => obtain ⟨t', it', ifs, as⟩ := g1; cases ifs <;> cases h
    | cons g2 gs2 => cases gs2 with
      | cons _ _ => obtain ⟨t', it', ifs, as⟩ := g1; obtain ⟨t1', it1', ifs1, as1⟩ := g2; cases ifs <;> cases ifs1 <;> cases h
      | nil =>
        obtain ⟨t', it', ifs, as⟩ := g1
        obtain ⟨t1', it1', ifs1, as1⟩ := g2
        cases ifs with
        | cons _ _ => cases h
        | nil => cases ifs1 with
          | cons _ _ => cases h
          | nil =>
            obtain ⟨h1, z0⟩ := bA h
            obtain ⟨h1b, z1⟩ := bA z0
            obtain ⟨h2, z2⟩ := bA z1
            obtain ⟨h3, z3⟩ := bA z2
            obtain ⟨h3b, z4⟩ := bA z3
            obtain ⟨h4, z5⟩ := bA z4
            obtain ⟨h4b, z6⟩ := bA z5
            obtain ⟨h5, z7⟩ := bA z6
            obtain ⟨h6, z8⟩ := bA z7
            obtain ⟨h7, z9⟩ := bA z8
            obtain ⟨h8, z10⟩ := bA z9
            obtain ⟨h9, z11⟩ := bA z10
            obtain ⟨h10, z12⟩ := bA z11
            have e1 := of_decide_eq_true h1
            have e2 := of_decide_eq_true h1b
            subst e1 e2
            exact ⟨el', t', it', t1', it1', scope, p, rfl, h2, of_decide_eq_true h3, fun i hi => of_decide_eq_true (List.all_eq_true.mp h3b i hi), h4, h4b, h5, h6, fun i hi => of_decide_eq_true (List.all_eq_true.mp h7 i hi), h8, h9, fun i hi => of_decide_eq_true (List.all_eq_true.mp h10 i hi), z12⟩
theorem locAll_blk {s : Shared} {H : Hp} {scope : Scope} {C : Addr} {cl : List (Str × Addr)} {fp : List Addr} : LocAll (X.blk s H scope (compEnvC scope cl C X.env) fp) scope := by
  intro x hx
  have hl : ∀ k, scope.names.lookup x = some k → k ≠ .free → (relS scope X.env.scope).names.lookup x = some k := by
    intro k hk hf
    unfold relS
    have : ∀ (l : List (Str × NameKind)), l.lookup x = some k → (l.map fun (n, k) => if (k == NameKind.free && X.env.scope.kind == .function && X.env.scope.names.lookup n == some .cell) then (n, NameKind.cell) else (n, k)).lookup x = some k := by
      intro l
      induction l with
      | nil => intro h; cases h
      | cons p r ih =>
        obtain ⟨y, k'⟩ := p
        intro h
        rw [List.map_cons]
        show List.lookup x ((if (k' == NameKind.free && X.env.scope.kind == .function && X.env.scope.names.lookup y == some .cell) = true then (y, NameKind.cell) else (y, k')) :: _) = _
        by_cases hy : x = y
        · subst hy
          rw [List.lookup_cons, beq_self_eq_true] at h
          cases h
          have : (k == NameKind.free) = false := beq_eq_false_iff_ne.mpr hf
          rw [this]
          rw [if_neg (by simp), List.lookup_cons, beq_self_eq_true]
        · have hb : (x == y) = false := beq_eq_false_iff_ne.mpr hy
          rw [List.lookup_cons, hb] at h
          have := ih h
          by_cases hc : (k' == NameKind.free && X.env.scope.kind == .function && X.env.scope.names.lookup y == some .cell) = true
          · rw [if_pos hc, List.lookup_cons, hb]; exact this
          · rw [if_neg hc, List.lookup_cons, hb]; exact this
    exact this _ hk
  rcases loc_ok hx with h | h
  · exact ⟨.inl (hl _ h (by decide)), .inr (hl _ h (by decide))⟩
  · exact ⟨.inr (hl _ h (by decide)), .inl (by show (scope.names.lookup x == some .cell) = true; rw [h]; rfl)⟩
/-! ### readings -/
theorem OutJ.grow {Q : L2.It → Hp → Prop} {H1 G1 : Hp} {r : R (List D)} (h : OutJ M K W H G Q r) (g : Grow H G H1 G1) : OutJ M K W H1 G1 Q r := by
  cases r with
  | ok d => exact fun J H' G' g' r' => h J H' G' (g.trans g') r'
  | ex c ds => exact fun cls d H' G' g' r' => h cls d H' G' (g.trans g') r'
  | no => exact h
theorem OutJ.step {Q : L2.It → Hp → Prop} {Q' : VK} {r : R D} {f : D → R (List D)} (h : OutJ M K W H G Q (r >>= f)) (i : ∀ v H1 G1 d, Grow H G H1 G1 → Rep M K G1 v d → r = .ok d → OutJ M K W H1 G1 Q (f d) → Q' v H1) : Out M K W H G Q' r := by
  cases r with
  | ok d => exact fun v H' G' g' r' => i v H' G' d g' r' rfl (OutJ.grow h g')
  | ex c ds => exact h
  | no => exact h
theorem PI.bd {tg e : Expr} {w : TI} (h : PI X tg e w) : PI X tg e (fun σ H R => w σ H (fun J H' => (∀ a vs, (SqL X.K H' a vs ∨ SqT X.K H' a vs) → vs.length ≤ sizeLine) → R J H')) := PI.imp h fun _ _ _ h => h
variable {F : Nat → List D → R D}
theorem rd_and {a b : E} {σ : L2.St} {Q : VK} (h : tE T F M K W (.and_ a b) σ H Q) : tAndV (tE T F M K W a) (tE T F M K W b) σ H Q := by
  obtain ⟨G, s, sg, hv, ho⟩ := h
  refine ⟨G, s, sg, hv.l, Out.step (f := fun x => match x with
    | .bl true => evE T F b s
    | .bl false => .ok (.bl false)
    | _ => .no) ho fun v H1 G1 d g r ho => ?_⟩
  cases d <;> first | exact ho.elim | skip
  rename_i c
  cases c with
  | false => exact ⟨false, r.toBl, by rw [if_neg Bool.false_ne_true]; exact ho.now g.into (.bl false)⟩
  | true => exact ⟨true, r.toBl, by rw [if_pos rfl]; exact ⟨G1, s, g.into, hv.r.up g.sub, ho⟩⟩
theorem rd_or {a b : E} {σ : L2.St} {Q : VK} (h : tE T F M K W (.or_ a b) σ H Q) : tOrV (tE T F M K W a) (tE T F M K W b) σ H Q := by
  obtain ⟨G, s, sg, hv, ho⟩ := h
  refine ⟨G, s, sg, hv.l, Out.step (f := fun x => match x with
    | .bl true => .ok (.bl true)
    | .bl false => evE T F b s
    | _ => .no) ho fun v H1 G1 d g r ho => ?_⟩
  cases d <;> first | exact ho.elim | skip
  rename_i c
  cases c with
  | true => exact ⟨true, r.toBl, by rw [if_pos rfl]; exact ho.now g.into (.bl true)⟩
  | false => exact ⟨false, r.toBl, by rw [if_neg Bool.false_ne_true]; exact ⟨G1, s, g.into, hv.r.up g.sub, ho⟩⟩
theorem OutB.now {b : Bool} {Q : Bool → Hp → Prop} (h : OutB M K W H G Q (.ok (.bl b))) (s : Sub G H) : Q b H := h H G (Grow.refl s)
theorem rt_and {a b : E} {σ : L2.St} {Q : Bool → Hp → Prop} (h : tT T F M K W (.and_ a b) σ H Q) : tAnd (tT T F M K W a) (tT T F M K W b) σ H Q := by
  obtain ⟨G, s, sg, hv, ho⟩ := h
  refine ⟨G, s, sg, hv.l, OutB.stepB (f := fun x => match x with
    | .bl true => evE T F b s
    | .bl false => .ok (.bl false)
    | _ => .no) (fun d hd => by cases d <;> first | rfl | exact absurd rfl (hd _)) ho fun c H1 G1 g ho => ?_⟩
  cases c with
  | false => rw [if_neg Bool.false_ne_true]; exact ho.now g.into
  | true => rw [if_pos rfl]; exact ⟨G1, s, g.into, hv.r.up g.sub, ho⟩
theorem rt_or {a b : E} {σ : L2.St} {Q : Bool → Hp → Prop} (h : tT T F M K W (.or_ a b) σ H Q) : tOr (tT T F M K W a) (tT T F M K W b) σ H Q := by
  obtain ⟨G, s, sg, hv, ho⟩ := h
  refine ⟨G, s, sg, hv.l, OutB.stepB (f := fun x => match x with
    | .bl true => .ok (.bl true)
    | .bl false => evE T F b s
    | _ => .no) (fun d hd => by cases d <;> first | rfl | exact absurd rfl (hd _)) ho fun c H1 G1 g ho => ?_⟩
  cases c with
  | true => rw [if_pos rfl]; exact ho.now g.into
  | false => rw [if_neg Bool.false_ne_true]; exact ⟨G1, s, g.into, hv.r.up g.sub, ho⟩
theorem rd_not {a : E} {σ : L2.St} {Q : VK} (h : tE T F M K W (.not_ a) σ H Q) : tNotV (tE T F M K W a) σ H Q := by
  obtain ⟨G, s, sg, hv, ho⟩ := h
  refine ⟨G, s, sg, hv, Out.step (f := fun x => match x with
    | .bl b => .ok (.bl (!b))
    | _ => .no) ho fun v H1 G1 d g r ho => ?_⟩
  cases d <;> first | exact ho.elim | skip
  exact ⟨_, r.toBl, ho.now g.into (.bl _)⟩
theorem rt_not {a : E} {σ : L2.St} {Q : Bool → Hp → Prop} (h : tT T F M K W (.not_ a) σ H Q) : tNot (tT T F M K W a) σ H Q := by
  obtain ⟨G, s, sg, hv, ho⟩ := h
  exact ⟨G, s, sg, hv, OutB.stepB (f := fun x => match x with
    | .bl b => .ok (.bl (!b))
    | _ => .no) (fun d hd => by cases d <;> first | rfl | exact absurd rfl (hd _)) ho fun c H1 G1 g ho => ho.now g.into⟩
theorem rd_ite {t a b : E} {σ : L2.St} {Q : VK} (h : tE T F M K W (.ite t a b) σ H Q) : tIf (tT T F M K W t) (tE T F M K W a) (tE T F M K W b) σ H Q := by
  obtain ⟨G, s, sg, hv, ho⟩ := h
  refine ⟨G, s, sg, hv.l, Out.stepB (f := fun x => match x with
    | .bl true => evE T F a s
    | .bl false => evE T F b s
    | _ => .no) (fun d hd => by cases d <;> first | rfl | exact absurd rfl (hd _)) ho fun c H1 G1 g ho => ?_⟩
  have h2 : Vw M K (mnE a ++ mnE b) G σ s := hv.r
  cases c with
  | true => rw [if_pos rfl]; exact ⟨G1, s, g.into, h2.l.up g.sub, ho⟩
  | false => rw [if_neg Bool.false_ne_true]; exact ⟨G1, s, g.into, h2.r.up g.sub, ho⟩
theorem rt_ite {t a b : E} {σ : L2.St} {Q : Bool → Hp → Prop} (h : tT T F M K W (.ite t a b) σ H Q) : tT T F M K W t σ H fun d H1 => if d = true then tT T F M K W a σ H1 Q else tT T F M K W b σ H1 Q := by
  obtain ⟨G, s, sg, hv, ho⟩ := h
  refine ⟨G, s, sg, hv.l, OutB.stepB (f := fun x => match x with
    | .bl true => evE T F a s
    | .bl false => evE T F b s
    | _ => .no) (fun d hd => by cases d <;> first | rfl | exact absurd rfl (hd _)) ho fun c H1 G1 g ho => ?_⟩
  have h2 : Vw M K (mnE a ++ mnE b) G σ s := hv.r
  cases c with
  | true => rw [if_pos rfl]; exact ⟨G1, s, g.into, h2.l.up g.sub, ho⟩
  | false => rw [if_neg Bool.false_ne_true]; exact ⟨G1, s, g.into, h2.r.up g.sub, ho⟩
/-! ### is -/
theorem rep_isN {v : V} {d : D} (r : Rep M K G v d) : cisD .isN d = .ok (.bl (decide (v = .non))) ∧ cisD .notN d = .ok (.bl (!decide (v = .non))) := by
  cases r <;> simp [cisD]
theorem se_cis {o : Cs} {a : E} {a' b' : Expr} {o' : CmpOp} {p : Pos} (pa : PE X a' (tE T (call T n) M X.K W a)) (h : sOk o o' b' = true) : SE T M n W X (.cis o a) (.Compare a' [o'] [b'] p) := by
  have e0 : ∀ st, evE T (call T n) (.cis o a) st = (evE T (call T n) a st >>= fun x => cisD o x) := fun _ => rfl
  cases o <;> cases o' <;> first | (cases h; done) | skip
  all_goals cases b' <;> first | (cases h; done) | skip
  all_goals rename_i cst _ _; cases cst <;> first | (cases h; done) | skip
  · have rd : ∀ σ H Q, tE T (call T n) M X.K W (.cis .isN a) σ H Q → tIsN (tE T (call T n) M X.K W a) σ H Q := fun σ H Q ⟨G, st, sg, hv, ho⟩ => by
      rw [e0] at ho
      refine ⟨G, st, sg, hv, ho.step fun v H1 G1 d g r ho => ?_⟩
      rw [(rep_isN r).1] at ho
      exact ho.now g.into (.bl _)
    exact ⟨PE.imp (pe_cmp (pc_isN pa) rfl) rd, PT.imp (pt_cmp (pc_isN pa) rfl) fun σ H Q h => rd _ _ _ (tT_tB h), fun _ _ _ z => by cases z⟩
  · have rd : ∀ σ H Q, tE T (call T n) M X.K W (.cis .notN a) σ H Q → tNotN (tE T (call T n) M X.K W a) σ H Q := fun σ H Q ⟨G, st, sg, hv, ho⟩ => by
      rw [e0] at ho
      refine ⟨G, st, sg, hv, ho.step fun v H1 G1 d g r ho => ?_⟩
      rw [(rep_isN r).2] at ho
      exact ho.now g.into (.bl _)
    exact ⟨PE.imp (pe_cmp (pc_notN pa) rfl) rd, PT.imp (pt_cmp (pc_notN pa) rfl) fun σ H Q h => rd _ _ _ (tT_tB h), fun _ _ _ z => by cases z⟩
  · rename_i b
    have hb : b = true := h
    subst hb
    have rd : ∀ σ H Q, tE T (call T n) M X.K W (.cis .isT a) σ H Q → tOp rIsB (tE T (call T n) M X.K W a) (L2.tC (.bl true)) σ H Q := fun σ H Q ⟨G, st, sg, hv, ho⟩ => by
      rw [e0] at ho
      refine ⟨G, st, sg, hv, ho.step fun v H1 G1 d g r ho => ?_⟩
      cases d <;> first | exact ho.elim | skip
      rename_i c
      refine ⟨c, true, r.toBl, rfl, ?_⟩
      have : decide (c = true) = c := by cases c <;> rfl
      rw [this]
      exact Out.now ho g.into (.bl _)
    exact ⟨PE.imp (pe_cmpR op_isBl pa pe_bl (marks_plain rfl)) rd, PT.imp (pt_cmpR op_isBl pa pe_bl (marks_plain rfl)) fun σ H Q h => rd _ _ _ (tT_tB h), fun _ _ _ z => by cases z⟩
  · rename_i b
    have hb : b = true := h
    subst hb
    have rd : ∀ σ H Q, tE T (call T n) M X.K W (.cis .notT a) σ H Q → tOp rNotB (tE T (call T n) M X.K W a) (L2.tC (.bl true)) σ H Q := fun σ H Q ⟨G, st, sg, hv, ho⟩ => by
      rw [e0] at ho
      refine ⟨G, st, sg, hv, ho.step fun v H1 G1 d g r ho => ?_⟩
      cases d <;> first | exact ho.elim | skip
      rename_i c
      refine ⟨c, true, r.toBl, rfl, ?_⟩
      have : decide (c = true) = c := by cases c <;> rfl
      rw [this]
      exact Out.now ho g.into (.bl _)
    exact ⟨PE.imp (pe_cmpR op_notBl pa pe_bl (marks_plain rfl)) rd, PT.imp (pt_cmpR op_notBl pa pe_bl (marks_plain rfl)) fun σ H Q h => rd _ _ _ (tT_tB h), fun _ _ _ z => by cases z⟩
end
end Fc

set_option Elab.async false
set_option linter.all false
set_option maxRecDepth 100000
set_option maxHeartbeats 4000000
namespace Fc
open PySem PySem.Spec PyProof.Rows L2
section
variable {T : Tab} {M : Nm} {n : Nat} {K : PySem.W.Frag} {H G : Hp}
def SO (T : Tab) (M : Nm) (n : Nat) (W : XK) (X : Cx) (o : Eo) (eo : Option Expr) : Prop := (o = .none ∧ eo = none) ∨ ∃ a e, o = .some a ∧ eo = some e ∧ SE T M n W X a e
theorem po_so {W : XK} {X : Cx} {o : Eo} {eo : Option Expr} (h : SO T M n W X o eo) : PO X eo (fun σ H Q => ∃ (G : Hp) (s : Env), Sub G H ∧ Vw M X.K (mnO o) G σ s ∧ (match evOi T (call T n) o s with
    | .ok i => ∀ H' G', Grow H G H' G' → Q i H'
    | .ex c ds => ∀ cls d H' G', Grow H G H' G' → RepX M X.K G' H' cls d c ds → W cls d H'
    | .no => False)) := by
  rcases h with ⟨rfl, rfl⟩ | ⟨a, e, rfl, rfl, se⟩
  · refine ⟨fun pins s σ H Q I ⟨G, st, sg, hv, ho⟩ => po_none.run pins s σ H Q I (ho H G (Grow.refl sg))⟩
  · refine ⟨fun pins s σ H Q I ⟨G, st, sg, hv, ho⟩ => (po_some se.pe).run pins s σ H Q I ⟨G, st, sg, hv, ?_⟩⟩
    have e0 : evOi T (call T n) (.some a) st = (evE T (call T n) a st >>= fun x => match x with
      | .int i => .ok (some i)
      | _ => .no) := rfl
    rw [e0] at ho
    cases q : evE T (call T n) a st with
    | no => rw [q] at ho; exact ho
    | ex c ds => rw [q] at ho; exact ho
    | ok d =>
      rw [q] at ho
      intro v H' G' g r
      cases d <;> first | exact ho.elim | skip
      exact ⟨_, r.toInt, ho H' G' g⟩
theorem rd_sl {W : XK} {a : E} {lo hi : Eo} {σ : L2.St} {Q : VK} (h : tE T (call T n) M K W (.sl a lo hi) σ H Q) : tSl (rSl T M W K) (tE T (call T n) M K W a) (fun σ H Q => ∃ (G : Hp) (s : Env), Sub G H ∧ Vw M K (mnO lo) G σ s ∧ (match evOi T (call T n) lo s with
    | .ok i => ∀ H' G', Grow H G H' G' → Q i H'
    | .ex c ds => ∀ cls d H' G', Grow H G H' G' → RepX M K G' H' cls d c ds → W cls d H'
    | .no => False)) (fun σ H Q => ∃ (G : Hp) (s : Env), Sub G H ∧ Vw M K (mnO hi) G σ s ∧ (match evOi T (call T n) hi s with
    | .ok i => ∀ H' G', Grow H G H' G' → Q i H'
    | .ex c ds => ∀ cls d H' G', Grow H G H' G' → RepX M K G' H' cls d c ds → W cls d H'
    | .no => False)) σ H Q := by
  obtain ⟨G, s, sg, hv, ho⟩ := h
  have e0 : evE T (call T n) (.sl a lo hi) s = (evE T (call T n) a s >>= fun x => evOi T (call T n) lo s >>= fun l => evOi T (call T n) hi s >>= fun h => slD x l h) := rfl
  rw [e0] at ho
  refine ⟨G, s, sg, hv.l, ho.step fun v H1 G1 d g r ho => ?_⟩
  have hv2 : Vw M K (mnO lo ++ mnO hi) G σ s := hv.r
  refine ⟨G1, s, g.into, hv2.l.up g.sub, ?_⟩
  cases q : evOi T (call T n) lo s with
  | no => rw [q] at ho; exact ho.elim
  | ex c ds => rw [q] at ho; exact ho
  | ok l =>
    rw [q] at ho
    intro H2 G2 g2
    have ho := ho.grow g2
    refine ⟨G2, s, g2.into, hv2.r.up (g.sub.trans g2.sub), ?_⟩
    cases q2 : evOi T (call T n) hi s with
    | no => rw [q2] at ho; exact ho.elim
    | ex c ds => rw [q2] at ho; exact ho
    | ok u =>
      rw [q2] at ho
      intro H3 G3 g3
      exact ⟨G3, d, g3.into, r.mono (g2.sub.trans g3.sub), ho.grow g3⟩
theorem pa_two {W : XK} {X : Cx} {a b : E} {a' b' : Expr} (h1 : plainX a' = true) (h2 : plainX b' = true) (pa : PE X a' (tE T (call T n) M X.K W a)) (pb : PE X b' (tE T (call T n) M X.K W b)) : PA X [a', b'] (tCons (tE T (call T n) M X.K W a) (tCons (tE T (call T n) M X.K W b) tNil)) :=
  pa_cons pa (pa_cons pb pa_nil (star_plain h2)) (star_plain h1)
theorem pa_1 {W : XK} {X : Cx} {a : E} {a' : Expr} (h1 : plainX a' = true) (pa : PE X a' (tE T (call T n) M X.K W a)) : PA X [a'] (tCons (tE T (call T n) M X.K W a) tNil) :=
  pa_cons pa pa_nil (star_plain h1)
/-! ### walks -/
theorem si_seq {W : XK} {X : Cx} {tg e' : Expr} {a : E} (se : PE X e' (tE T (call T n) M X.K W a)) : PI X tg e' (tI T (call T n) M X.K W (.seq a)) := by
  refine ⟨fun pins s σ H R I ⟨G, st, sg, hv, ho⟩ => ?_⟩
  have e0 : evI T (call T n) (.seq a) st = (evE T (call T n) a st >>= fun x => match itemsD x with
    | some ds => .ok ds
    | none => .no) := rfl
  rw [e0] at ho
  by_cases ht : ∃ ds, evE T (call T n) a st = .ok (.tup ds)
  · obtain ⟨ds, e1⟩ := ht
    refine (PI.bd (pi_tup se)).run pins s σ H R I ⟨G, st, sg, hv, ho.step fun v H1 G1 d g r e2 ho => ?_⟩
    rw [e1] at e2
    cases e2
    cases r with
    | tup h1 h2 =>
      refine ⟨_, rfl, ⟨_, .of (g.into _ _ h1)⟩, fun bd => ?_⟩
      refine ho _ _ _ (Grow.refl g.into) (jok_tup (fun G' H' s1 s2 => .of (s2 _ _ (s1 _ _ h1))) h2) ?_
      have := bd _ _ (.inr (.of (g.into _ _ h1)))
      rw [LIM_eq, h2.length] at this; exact this
  · refine (PI.bd (pi_list se)).run pins s σ H R I ⟨G, st, sg, hv, ho.step fun v H1 G1 d g r e2 ho => ?_⟩
    cases d <;> try exact ho.elim
    · exact (ht ⟨_, e2⟩).elim
    · cases r with
      | lst h1 h2 =>
        refine ⟨_, rfl, ⟨_, .of (g.into _ _ h1)⟩, fun bd => ?_⟩
        refine ho _ _ _ (Grow.refl g.into) (jok_list (fun G' H' s1 s2 => .of (s2 _ _ (s1 _ _ h1))) h2) ?_
        have := bd _ _ (.inl (.of (g.into _ _ h1)))
        rw [LIM_eq, h2.length] at this; exact this
    · cases r with
      | scr h1 =>
        refine ⟨_, rfl, ⟨_, sub_l g.into h1⟩, fun bd => ?_⟩
        refine ho _ _ _ (Grow.refl g.into) (jok_list (fun G' H' s1 s2 => sub_l (s1.trans s2) h1) (Reps.ints _)) ?_
        have := bd _ _ (.inl (sub_l g.into h1))
        rw [LIM_eq, List.length_map] at this
        rw [List.length_map]; exact this
theorem si_rev {W : XK} {X : Cx} {tg e' : Expr} {a : E} {p pos : Pos} (hg : Gl X "reversed") (hm : X.mg "reversed" = none) (hp : plainX e' = true) (se : PE X e' (tE T (call T n) M X.K W a)) : PI X tg (.Call (.Name "reversed" p) [e'] [] pos) (tI T (call T n) M X.K W (.rev a)) := by
  refine ⟨fun pins s σ H R I ⟨G, st, sg, hv, ho⟩ => ?_⟩
  have e0 : evI T (call T n) (.rev a) st = (evE T (call T n) a st >>= fun x => match itemsD x with
    | some ds => .ok ds.reverse
    | none => .no) := rfl
  rw [e0] at ho
  refine (PI.bd (RT.pi_revA hg hm se (star_plain hp))).run pins s σ H R I ⟨G, st, sg, hv, ho.step fun v H1 G1 d g r e2 ho => ?_⟩
  cases d <;> first | exact ho.elim | skip
  · cases r with
    | tup h1 h2 =>
      refine ⟨_, _, rfl, .inr ⟨.of (g.into _ _ h1), fun bd => ?_⟩⟩
      refine ho _ _ _ (Grow.refl g.into) (jok_revT (fun G' H' s1 s2 => .of (s2 _ _ (s1 _ _ h1))) h2) ?_
      have := bd _ _ (.inr (.of (g.into _ _ h1)))
      rw [LIM_eq, h2.length] at this
      rw [List.length_reverse]; exact this
  · cases r with
    | lst h1 h2 =>
      refine ⟨_, _, rfl, .inl ⟨.of (g.into _ _ h1), fun bd => ?_⟩⟩
      refine ho _ _ _ (Grow.refl g.into) (jok_rev (fun G' H' s1 s2 => .of (s2 _ _ (s1 _ _ h1))) h2) ?_
      have := bd _ _ (.inl (.of (g.into _ _ h1)))
      rw [LIM_eq, h2.length] at this
      rw [List.length_reverse]; exact this
  · cases r with
    | scr h1 =>
      refine ⟨_, _, rfl, .inl ⟨sub_l g.into h1, fun bd => ?_⟩⟩
      refine ho _ _ _ (Grow.refl g.into) (jok_rev (fun G' H' s1 s2 => sub_l (s1.trans s2) h1) (Reps.ints _)) ?_
      have := bd _ _ (.inl (sub_l g.into h1))
      rw [LIM_eq, List.length_map] at this
      rw [List.length_reverse, List.length_map]; exact this
theorem si_enum {W : XK} {X : Cx} {e' : Expr} {a : E} {p pos tpos : Pos} {elts : List Expr} {kk : Nat} (hg : Gl X "enumerate") (hm : X.mg "enumerate" = none) (hp : plainX e' = true) (se : PE X e' (tE T (call T n) M X.K W a)) :
    PI X (.Tuple elts kk tpos) (.Call (.Name "enumerate" p) [e'] [] pos) (tI T (call T n) M X.K W (.enum a)) := by
  refine ⟨fun pins s σ H R I ⟨G, st, sg, hv, ho⟩ => ?_⟩
  have e0 : evI T (call T n) (.enum a) st = (evE T (call T n) a st >>= fun x => match itemsD x with
    | some ds => .ok (ds.zipIdx.map fun p => .tup [.int p.2, p.1])
    | none => .no) := rfl
  rw [e0] at ho
  refine (PI.bd (pi_enumG hg hm (pa_1 hp se) hp)).run pins s σ H R I ⟨G, st, sg, hv, ho.step fun v H1 G1 d g r e2 ho => ?_⟩
  cases ei : itemsD d with
  | none => rw [ei] at ho; exact ho.elim
  | some ds =>
    rw [ei] at ho
    obtain ⟨a', vs, k, rfl, hs, hr⟩ := sSq_of (K := X.K) (k := true) g.into r ei
    refine ⟨a', vs, k, rfl, hs _ _ (Sub.refl _) g.into, fun bd => ?_⟩
    refine ho _ _ _ (Grow.refl g.into) (jok_enum hs hr) ?_
    have := bd _ _ (sSq_or (hs _ _ (Sub.refl _) g.into))
    rw [LIM_eq, hr.length] at this
    simpa using this
theorem si_zip {W : XK} {X : Cx} {e' e2' : Expr} {a b : E} {p pos tpos : Pos} {elts : List Expr} {kk : Nat} (hg : Gl X "zip") (hm : X.mg "zip" = none) (hp : plainX e' = true) (hp2 : plainX e2' = true) (se : PE X e' (tE T (call T n) M X.K W a)) (se2 : PE X e2' (tE T (call T n) M X.K W b)) :
    PI X (.Tuple elts kk tpos) (.Call (.Name "zip" p) [e', e2'] [] pos) (tI T (call T n) M X.K W (.zip a b)) := by
  refine ⟨fun pins s σ H R I ⟨G, st, sg, hv, ho⟩ => ?_⟩
  have e0 : evI T (call T n) (.zip a b) st = (evE T (call T n) a st >>= fun x => evE T (call T n) b st >>= fun y => match itemsD x, itemsD y with
    | some xs, some ys => .ok ((xs.zip ys).map fun p => .tup [p.1, p.2])
    | _, _ => .no) := rfl
  rw [e0] at ho
  refine (PI.bd (pi_zipG hg hm (pa_two hp hp2 se se2) hp hp2)).run pins s σ H R I ⟨G, st, sg, hv.l, ho.step fun v H1 G1 d g r e2 ho => ?_⟩
  refine ⟨G1, st, g.into, hv.r.up g.sub, ho.step fun v2 H2 G2 d2 g2 r2 e3 ho => ?_⟩
  cases ei : itemsD d with
  | none => rw [ei] at ho; exact ho.elim
  | some ds =>
    cases ei2 : itemsD d2 with
    | none => rw [ei, ei2] at ho; exact ho.elim
    | some ds2 =>
      rw [ei, ei2] at ho
      obtain ⟨a', vs, k, rfl, hs, hr⟩ := sSq_of (K := X.K) (k := true) g2.into (r.mono g2.sub) ei
      obtain ⟨a2', vs2, k2, rfl, hs2, hr2⟩ := sSq_of (K := X.K) (k := true) g2.into r2 ei2
      refine ⟨a', a2', vs, vs2, k, k2, rfl, hs _ _ (Sub.refl _) g2.into, hs2 _ _ (Sub.refl _) g2.into, fun bd => ?_⟩
      refine ho _ _ _ (Grow.refl g2.into) (jok_zip hs hs2 hr hr2) ?_
      have := bd _ _ (sSq_or (hs _ _ (Sub.refl _) g2.into))
      rw [LIM_eq, hr.length] at this
      simp only [List.length_map, List.length_zip]
      omega
theorem si_rng1 {W : XK} {X : Cx} {tg e' : Expr} {a : E} {p pos : Pos} (hg : Gl X "range") (hm : X.mg "range" = none) (hp : plainX e' = true) (se : PE X e' (tE T (call T n) M X.K W a)) : PI X tg (.Call (.Name "range" p) [e'] [] pos) (tI T (call T n) M X.K W (.rng1 a)) := by
  refine ⟨fun pins s σ H R I ⟨G, st, sg, hv, ho⟩ => ?_⟩
  have e0 : evI T (call T n) (.rng1 a) st = (evE T (call T n) a st >>= fun x => match x with
    | .int n => if n ≤ LIM ∧ -(2 ^ 62) ≤ n then .ok ((List.range n.toNat).map fun (i : Nat) => .int i) else .no
    | _ => .no) := rfl
  rw [e0] at ho
  refine (pi_range1 hg hm (pa_1 hp se) (star_plain hp)).run pins s σ H R I ⟨G, st, sg, hv, ho.step fun v H1 G1 d g r e2 ho => ?_⟩
  cases d <;> first | exact ho.elim | skip
  rename_i j
  simp only at ho
  split at ho
  case isFalse => exact ho.elim
  rename_i hj
  have hL : (LIM : Int) = 16777216 := rfl
  refine ⟨j, by rw [r.toInt], by omega, by omega, ho _ _ _ (Grow.refl g.into) ?_ (by simp; omega)⟩
  have := jok_range (M := M) (K := X.K) (G := G1) (lo := 0) (k := j.toNat)
  simpa using this
theorem si_rng2 {W : XK} {X : Cx} {tg e' e2' : Expr} {a b : E} {p pos : Pos} (hg : Gl X "range") (hm : X.mg "range" = none) (hp : plainX e' = true) (hp2 : plainX e2' = true) (se : PE X e' (tE T (call T n) M X.K W a)) (se2 : PE X e2' (tE T (call T n) M X.K W b)) :
    PI X tg (.Call (.Name "range" p) [e', e2'] [] pos) (tI T (call T n) M X.K W (.rng2 a b)) := by
  refine ⟨fun pins s σ H R I ⟨G, st, sg, hv, ho⟩ => ?_⟩
  have e0 : evI T (call T n) (.rng2 a b) st = (evE T (call T n) a st >>= fun x => evE T (call T n) b st >>= fun y => match x, y with
    | .int m, .int n => if -(2 ^ 60) ≤ m ∧ m ≤ 2 ^ 60 ∧ -(2 ^ 60) ≤ n ∧ n ≤ 2 ^ 60 ∧ n - m ≤ LIM then .ok ((List.range (n - m).toNat).map fun (i : Nat) => .int (m + i)) else .no
    | _, _ => .no) := rfl
  rw [e0] at ho
  have hs : starEach [e', e2'] X.env = [(false, eval e' X.env), (false, eval e2' X.env)] := by rw [star_plain hp, star_plain hp2]; rfl
  refine (pi_range2 hg hm (pa_two hp hp2 se se2) hs (star_plain hp2)).run pins s σ H R I ⟨G, st, sg, hv.l, ho.step fun v H1 G1 d g r e2 ho => ?_⟩
  refine ⟨G1, st, g.into, hv.r.up g.sub, ho.step fun v2 H2 G2 d2 g2 r2 e3 ho => ?_⟩
  cases d <;> first | exact ho.elim | skip
  cases d2 <;> first | exact ho.elim | skip
  rename_i i _ j
  simp only at ho
  split at ho
  case isFalse => exact ho.elim
  rename_i hj
  have hL : (LIM : Int) = 16777216 := rfl
  exact ⟨i, j, by rw [r.toInt, r2.toInt], ⟨by omega, by omega, by omega, by omega⟩, ho _ _ _ (Grow.refl g2.into) jok_range (by simp; omega)⟩
theorem chk_rng {N : List Str} {sc : Scope} {x : Str} {W : XK} {X : Cx} (g : Good T M n W X) (h1 : decide (x ∈ M.frees) = true) : X.mg x = none := g.ev.free _ (of_decide_eq_true h1)
theorem chkI_plain {N : List Str} {sc : Scope} {it : It} {e : Expr} (h : chkI M N sc it e = true) : plainX e = true := by
  cases it with
  | seq a => exact chkE_plain h
  | _ => cases e <;> first | rfl | (cases h; done)
theorem Out.stepLE {W : XK} {Q : VK} {Q' : List V → Hp → Prop} {r : R (List D)} {f : List D → R D} (h : Out M K W H G Q (r >>= f)) (i : ∀ v H1 G1 d, Grow H G H1 G1 → Reps M K G1 v d → r = .ok d → Out M K W H1 G1 Q (f d) → Q' v H1) : OutL M K W H G Q' r := by
  cases r with
  | ok d => exact fun v H' G' g' r' => i v H' G' d g' r' rfl (Out.grow h g')
  | ex c ds => exact h
  | no => exact h
theorem evEs_len {N : List Str} {sc : Scope} {F : Nat → List D → R D} {st : Env} : ∀ {a : Es} {es : List Expr} {ds : List D}, chkEs M N sc a es = true → evEs T F a st = .ok ds → ds.length = es.length
  | .nil, [], ds, _, e => by cases e; rfl
  | .nil, _ :: _, ds, h, e => by cases h
  | .cons a as, [], ds, h, e => by cases h
  | .cons a as, e' :: es, ds, h, e => by
    have e : (evE T F a st >>= fun x => evEs T F as st >>= fun xs => .ok (x :: xs)) = Fc.R.ok ds := e
    cases q : evE T F a st with
    | no => rw [q] at e; cases e
    | ex _ _ => rw [q] at e; cases e
    | ok x =>
      rw [q] at e
      cases q2 : evEs T F as st with
      | no => rw [q2] at e; cases e
      | ex _ _ => rw [q2] at e; cases e
      | ok xs =>
        rw [q2] at e
        cases e
        rw [List.length_cons, List.length_cons, evEs_len (bA h).2 q2]
/-! ### all expressions -/
mutual
theorem sE : ∀ (a : E) {W : XK} {X : Cx} (g : Good T M n W X) (e : Expr), chkE M X.N X.env.scope a e = true → SE T M n W X a e
  | .var i, W, X, g, e, h => by
    cases e <;> first | (cases h; done) | skip
    rename_i x p
    obtain ⟨h1, h2⟩ := bA h
    obtain ⟨h3, h4⟩ := bA h2
    refine se_val (PE.imp (pe_var (of_decide_eq_true h1) (vis_ok h3) (nm_ok h4).1 (nm_ok h4).2) fun σ H Q ⟨G, st, sg, hv, ho⟩ => ?_) rfl
    have e0 : evE T (call T n) (.var i) st = (match st[i]? with
      | some (some d) => .ok d
      | _ => .no) := rfl
    rw [e0] at ho
    cases q : st[i]? with
    | none => rw [q] at ho; exact ho.elim
    | some o => cases o with
      | none => rw [q] at ho; exact ho.elim
      | some d =>
        rw [q] at ho
        obtain ⟨v, hs, r⟩ := hv.at_ i (by simp [mnE]) d q
        exact ⟨v, hs, Out.now ho sg r⟩
  | .int i, W, X, g, e, h => by
    cases e <;> first | (cases h; done) | skip
    rename_i cst _ _
    cases cst <;> first | (cases h; done) | skip
    rename_i j
    have : i = j := of_decide_eq_true h
    subst this
    exact se_val (PE.imp pe_int fun σ H Q ⟨G, st, sg, hv, ho⟩ => Out.now (show Out M X.K W H G Q (.ok (.int i)) from ho) sg (.int i)) rfl
  | .bl b, W, X, g, e, h => by
    cases e <;> first | (cases h; done) | skip
    rename_i cst _ _
    cases cst <;> first | (cases h; done) | skip
    rename_i j
    have : b = j := of_decide_eq_true h
    subst this
    exact se_val (PE.imp pe_bl fun σ H Q ⟨G, st, sg, hv, ho⟩ => Out.now (show Out M X.K W H G Q (.ok (.bl b)) from ho) sg (.bl b)) rfl
  | .non, W, X, g, e, h => by
    cases e <;> first | (cases h; done) | skip
    rename_i cst _ _
    cases cst <;> first | (cases h; done) | skip
    exact se_val (PE.imp pe_non fun σ H Q ⟨G, st, sg, hv, ho⟩ => Out.now (show Out M X.K W H G Q (.ok .non) from ho) sg .non) rfl
  | .str x, W, X, g, e, h => by
    cases e <;> first | (cases h; done) | skip
    rename_i cst _ _
    cases cst <;> first | (cases h; done) | skip
    rename_i j
    have : x = j := of_decide_eq_true h
    subst this
    exact se_val (PE.imp pe_str fun σ H Q ⟨G, st, sg, hv, ho⟩ => Out.now (show Out M X.K W H G Q (.ok (.str x)) from ho) sg (.str x)) rfl
  | .bin o a b, W, X, g, e, h => by
    cases e <;> first | (cases h; done) | skip
    obtain ⟨h1, h2⟩ := bA h
    obtain ⟨h3, h4⟩ := bA h2
    exact se_val (PE.imp (pe_op (op_any g h1) (sE a g _ h3).pe (sE b g _ h4).pe) fun σ H Q h => tE_bin rfl (fun _ => rfl) h) rfl
  | .neg a, W, X, g, e, h => by
    cases e <;> first | (cases h; done) | skip
    rename_i o' a' p
    cases o' <;> first | (cases h; done) | skip
    have h1 : chkE M X.N X.env.scope a a' = true := h
    refine se_val (PE.imp (pe_un un_neg (sE a g _ h1).pe) fun σ H Q ⟨G, st, sg, hv, ho⟩ => ?_) rfl
    refine ⟨G, st, sg, hv, Out.step (f := fun x => match x with
      | .int i => .ok (.int (-i))
      | _ => .no) ho fun v H1 G1 d g r ho => ?_⟩
    cases d <;> first | exact ho.elim | skip
    exact ⟨_, r.toInt, ho.now g.into (.int _)⟩
  | .cmp o a b, W, X, g, e, h => by
    cases e <;> first | (cases h; done) | skip
    rename_i a' os bs p
    cases os with
    | nil => cases h
    | cons o' os => cases os with
      | cons _ _ => cases bs <;> cases h
      | nil => cases bs with
        | nil => cases h
        | cons b' bs => cases bs with
          | cons _ _ => cases h
          | nil =>
            obtain ⟨h1, h2⟩ := bA h
            obtain ⟨h3, h4⟩ := bA h2
            have hm : behindInMarks o' b' = false := marks_plain (chkE_plain h4)
            exact ⟨PE.imp (pe_cmpR (op_cmp g h1) (sE a g _ h3).pe (sE b g _ h4).pe hm) fun σ H Q h => tE_bin rfl (fun _ => rfl) h,
              PT.imp (pt_cmpR (op_cmp g h1) (sE a g _ h3).pe (sE b g _ h4).pe hm) fun σ H Q h => tE_bin rfl (fun _ => rfl) (tT_tB h), fun _ _ _ z => by cases z⟩
  | .cis o a, W, X, g, e, h => by
    cases e <;> first | (cases h; done) | skip
    rename_i a' os bs p
    cases os with
    | nil => cases h
    | cons o' os => cases os with
      | cons _ _ => cases bs <;> cases h
      | nil => cases bs with
        | nil => cases h
        | cons b' bs => cases bs with
          | cons _ _ => cases h
          | nil =>
            obtain ⟨h1, h2⟩ := bA h
            exact se_cis (sE a g _ h2).pe h1
  | .and_ a b, W, X, g, e, h => by
    cases e <;> first | (cases h; done) | skip
    rename_i o' vs p
    cases o' <;> first | (cases h; done) | skip
    cases vs with
    | nil => cases h
    | cons a' vs => cases vs with
      | nil => cases h
      | cons b' r =>
        obtain ⟨h1, h2⟩ := bA h
        have sa := sE a g _ h1
        cases r with
        | nil =>
          have sb := sE b g b' h2
          have pw := PW.imp (pw_and (pos := p) sa.pt (pw_and1 sb.pt)) fun σ H Q h => rt_and h
          exact ⟨PE.imp (pe_and sa.pe (pe_one sb.pe)) fun σ H Q h => rd_and h, pw.pt, fun _ _ _ _ => pw⟩
        | cons c' r =>
          have sb := sE b g (.BoolOp .And (b' :: c' :: r) p) h2
          have pw := PW.imp (pw_and (pos := p) sa.pt (sb.pw _ _ _ rfl)) fun σ H Q h => rt_and h
          exact ⟨PE.imp (pe_and sa.pe sb.pe) fun σ H Q h => rd_and h, pw.pt, fun _ _ _ _ => pw⟩
  | .or_ a b, W, X, g, e, h => by
    cases e <;> first | (cases h; done) | skip
    rename_i o' vs p
    cases o' <;> first | (cases h; done) | skip
    cases vs with
    | nil => cases h
    | cons a' vs => cases vs with
      | nil => cases h
      | cons b' r =>
        obtain ⟨h1, h2⟩ := bA h
        have sa := sE a g _ h1
        cases r with
        | nil =>
          have sb := sE b g b' h2
          have pw := PW.imp (pw_or (pos := p) sa.pt (pw_or1 sb.pt)) fun σ H Q h => rt_or h
          exact ⟨PE.imp (pe_or sa.pe (pe_one sb.pe)) fun σ H Q h => rd_or h, pw.pt, fun _ _ _ _ => pw⟩
        | cons c' r =>
          have sb := sE b g (.BoolOp .Or (b' :: c' :: r) p) h2
          have pw := PW.imp (pw_or (pos := p) sa.pt (sb.pw _ _ _ rfl)) fun σ H Q h => rt_or h
          exact ⟨PE.imp (pe_or sa.pe sb.pe) fun σ H Q h => rd_or h, pw.pt, fun _ _ _ _ => pw⟩
  | .not_ a, W, X, g, e, h => by
    cases e <;> first | (cases h; done) | skip
    rename_i o' a' p
    cases o' <;> first | (cases h; done) | skip
    have sa := sE a g a' h
    exact ⟨PE.imp (pe_not sa.pe) fun σ H Q h => rd_not h, PT.imp (pt_not sa.pt) fun σ H Q h => rt_not h, fun _ _ _ z => by cases z⟩
  | .ite t a b, W, X, g, e, h => by
    cases e <;> first | (cases h; done) | skip
    obtain ⟨h1, h2⟩ := bA h
    obtain ⟨h3, h4⟩ := bA h2
    have st := sE t g _ h1
    have sa := sE a g _ h3
    have sb := sE b g _ h4
    exact ⟨PE.imp (pe_ifExp st.pt sa.pe sb.pe) fun σ H Q h => rd_ite h, PT.imp (pt_ifExp st.pt sa.pt sb.pt) fun σ H Q h => rt_ite h, fun _ _ _ z => by cases z⟩
  | .ix a i, W, X, g, e, h => by
    cases e <;> first | (cases h; done) | skip
    obtain ⟨h1, h2⟩ := bA h
    exact se_val (PE.imp (pe_ix ix_any (sE a g _ h1).pe (sE i g _ h2).pe (ix_plain (chkE_plain h2))) fun σ H Q h => tE_bin rfl (fun _ => rfl) h) rfl
  | .sl a lo hi, W, X, g, e, h => by
    cases e <;> first | (cases h; done) | skip
    rename_i a' ix p
    cases ix <;> first | (cases h; done) | skip
    rename_i lo' hi' st' p2
    cases st' with
    | some _ => cases h
    | none =>
      obtain ⟨h1, h2⟩ := bA h
      obtain ⟨h3, h4⟩ := bA h2
      exact se_val (PE.imp (pe_slice sl_any (sE a g _ h1).pe (po_so (sO lo g _ h3)) (po_so (sO hi g _ h4))) fun σ H Q h => rd_sl h) rfl
  | .tup es, W, X, g, e, h => by
    cases e <;> first | (cases h; done) | skip
    rename_i es' k p
    obtain ⟨h0, h1⟩ := bA h
    refine se_val (PE.imp (pe_tup (sEs es g _ h1)) fun σ H Q ⟨G, st, sg, hv, ho⟩ => ⟨G, st, sg, hv, Out.stepLE (f := fun xs => .ok (.tup xs)) ho fun vs H1 G1 ds g r e ho => ⟨?_, fun q hq => ?_⟩⟩) rfl
    · have := evEs_len h1 e; have := r.length; have := Nat.le_of_ble_eq_true h0; rw [LIM_eq]; unfold LIM; omega
    · exact ho _ _ _ (Grow.laid g.into hq) (.tup upd_same (r.mono (Grow.laid g.into hq).sub))
  | .lst es, W, X, g, e, h => by
    cases e <;> first | (cases h; done) | skip
    rename_i es' p
    obtain ⟨h0, h1⟩ := bA h
    refine se_val (PE.imp (pe_lst (sEs es g _ h1)) fun σ H Q ⟨G, st, sg, hv, ho⟩ => ⟨G, st, sg, hv, Out.stepLE (f := fun xs => .ok (.lst xs)) ho fun vs H1 G1 ds g r e ho => ⟨?_, fun q hq => ?_⟩⟩) rfl
    · have := evEs_len h1 e; have := r.length; have := Nat.le_of_ble_eq_true h0; rw [LIM_eq]; unfold LIM; omega
    · exact ho _ _ _ (Grow.laid g.into hq) (.lst upd_same (r.mono (Grow.laid g.into hq).sub))
  | .lc vs t it c el, W, X, g, e, h => by
    obtain ⟨el', t', it', ifs, scope, p, rfl, h1, h2, h3, h4, h5, h6, h7, h8⟩ := chk_lc h
    have pi := sI it g t' it' h4 h3
    have key : ∀ (s : Shared) (H : Hp) (C : Addr) (cl : List (Str × Addr)) (fp : List Addr), PTs (X.blk s H scope (compEnvC scope cl C X.env) fp) ifs (tC T (call T n) M X.K c) := fun s H C cl fp => by
      rcases h7 with ⟨rfl, rfl⟩ | ⟨x, a, rfl, rfl, h7⟩
      · exact pts_nil
      · rcases sO (.some a) (g.blk s H scope (compEnvC scope cl C X.env) fp) (some x) h7 with ⟨z, _⟩ | ⟨a2, e2, z1, z2, se⟩
        · cases z
        · cases z1; cases z2
          exact pts_one se.pt
    refine se_val (PE.imp (pe_lc (te := tE T (call T n) M X.K Wf el) (g := tTg M X.K t) g.calm g.nd pi (blkOk_by h1) (fun s H C cl fp => sG (X := X.blk s H scope (compEnvC scope cl C X.env) fp) g.calm g.nd locAll_blk t t' h5) key (fun s H C cl fp => (sE el (g.blk s H scope (compEnvC scope cl C X.env) fp) el' h8).pe) (fun x => folded_plain (chkI_plain h4))) fun σ H Q ⟨G, st, sg, hv, ho⟩ => ?_) rfl
    rw [h2]
    exact lc_reading h6 sg hv ho.toK
  | .lc2 vs vs1 t it t1 it1 el, W, X, g, e, h => by
    obtain ⟨el', t', it', t1', it1', scope, p, rfl, h1, h2, h2b, h3, h3b, h4, h5, h6, h7, h8, h9, h10⟩ := chk_lc2 h
    have pi := sI it g t' it' h4 h3
    refine se_val (PE.imp (pe_lc2 (te := tE T (call T n) M X.K Wf el) (g := tTg M X.K t) (g1 := tTg M X.K t1) (wi1 := tI T (call T n) M X.K Wf it1) g.calm g.nd pi (blkOk_by h1) (fun i hi => by rw [h2]; exact h2b i hi) (fun s H C cl fp => sG (X := X.blk s H scope (compEnvC scope cl C X.env) fp) g.calm g.nd locAll_blk t t' h5) (fun s H C cl fp => pts_nil)
      (fun s H C cl fp => sI it1 (g.blk s H scope (compEnvC scope cl C X.env) fp) t1' it1' h7 h3b) (fun s H C cl fp => sG (X := X.blk s H scope (compEnvC scope cl C X.env) fp) g.calm g.nd locAll_blk t1 t1' h8) (fun s H C cl fp => pts_nil)
      (fun s H C cl fp => (sE el (g.blk s H scope (compEnvC scope cl C X.env) fp) el' h10).pe) (fun x => folded_plain (chkI_plain h4)) (fun env x => folded_plain (chkI_plain h7))) fun σ H Q ⟨G, st, sg, hv, ho⟩ => ?_) rfl
    rw [h2]
    exact lc2_reading h6 h9 sg hv ho.toK
  | .call f es, W, X, g, e, h => by
    cases e <;> first | (cases h; done) | skip
    rename_i fn es' ks p
    cases fn <;> first | (cases h; done) | skip
    cases ks with
    | cons _ _ => cases h
    | nil =>
      obtain ⟨h1, h2⟩ := bA h
      obtain ⟨h3, h4⟩ := bA h2
      obtain ⟨h5, h6⟩ := bA h4
      exact se_val (c_call g (of_decide_eq_true h1) h3 h5 h6 (sEs es g _ h6)) rfl
  | .bi b es, W, X, g, e, h => by
    cases e <;> first | (cases h; done) | skip
    rename_i fn es' ks p
    cases fn <;> first | (cases h; done) | skip
    cases es' with
    | nil => cases h
    | cons e1 es' => cases ks with
      | cons _ _ => cases h
      | nil =>
        obtain ⟨h1, h2⟩ := bA h
        obtain ⟨h3, h4⟩ := bA h2
        obtain ⟨h5, h6⟩ := bA h4
        obtain ⟨h7, h8⟩ := bA h6
        exact se_val (c_bi g h7 (of_decide_eq_true h1) h3 h8 (sEs es g _ h8)) rfl
  | .isi a ty, W, X, g, e, h => by
    cases e <;> first | (cases h; done) | skip
    rename_i fn es' ks p
    cases fn <;> first | (cases h; done) | skip
    cases es' with
    | nil => cases h
    | cons a' es' => cases es' with
      | nil => cases h
      | cons t' es' => cases es' with
        | cons _ _ => cases h
        | nil => cases ks with
          | cons _ _ => cases h
          | nil =>
            obtain ⟨h1, h2⟩ := bA h
            obtain ⟨h3, h4⟩ := bA h2
            obtain ⟨h5, h6⟩ := bA h4
            obtain ⟨h7, h8⟩ := bA h6
            obtain ⟨h9, h10⟩ := bA h8
            obtain ⟨h11, h12⟩ := bA h10
            obtain ⟨h13, h14⟩ := bA h12
            exact se_val (c_isi g (of_decide_eq_true h1) h3 (of_decide_eq_true h7) (chkE_plain h9) (sE a g _ h9).pe (Nat.le_of_ble_eq_true h11) (by intro z; subst z; cases h13) h14) rfl
  | .fld a k, W, X, g, e, h => by
    cases e <;> first | (cases h; done) | skip
    obtain ⟨h1, h2⟩ := bA h
    obtain ⟨h2, h5⟩ := bA h2
    obtain ⟨h3, h4⟩ := bA h5
    exact se_val (c_fld g (of_decide_eq_true h1) (Nat.le_of_ble_eq_true h2) h3 (sE a g _ h4).pe) rfl
  | .meth a m es, W, X, g, e, h => by
    cases e <;> first | (cases h; done) | skip
    rename_i fn es' ks p
    cases fn <;> first | (cases h; done) | skip
    cases ks with
    | cons _ _ => cases h
    | nil =>
      obtain ⟨h1, h2⟩ := bA h
      obtain ⟨h2, h2b⟩ := bA h2
      obtain ⟨h3, h4⟩ := bA h2b
      obtain ⟨h5, h6⟩ := bA h4
      obtain ⟨h7, h8⟩ := bA h6
      obtain ⟨h9, h10⟩ := bA h8
      exact se_val (c_meth g (of_decide_eq_true h1) (Nat.le_of_ble_eq_true h2) h3 (of_decide_eq_true h5) (of_decide_eq_true h7) h10 (sE a g _ h9).pe (sEs es g _ h10)) rfl
  | .mk c es kw, W, X, g, e, h => by
    cases e <;> first | (cases h; done) | skip
    rename_i fn es' ks p
    cases fn <;> first | (cases h; done) | skip
    cases es' with
    | nil => cases h
    | cons e1 es' =>
      obtain ⟨h1, h2⟩ := bA h
      obtain ⟨h3, h4⟩ := bA h2
      obtain ⟨h5, h6⟩ := bA h4
      obtain ⟨h7, h8⟩ := bA h6
      refine se_val (c_mk g (of_decide_eq_true h1) h3 h5 h7 (sEs es g _ h7) ?_) rfl
      cases ks with
      | nil => cases kw with
        | none => exact .inl ⟨rfl, rfl⟩
        | some _ => cases h8
      | cons k1 ks =>
        obtain ⟨y, v, kp⟩ := k1
        cases ks with
        | cons _ _ => cases y <;> cases h8
        | nil => cases y with
          | none => cases h8
          | some y =>
            obtain ⟨h9, h10⟩ := bA h8
            have := of_decide_eq_true h9
            subst this
            cases kw with
            | none => cases h10
            | some a =>
              rcases sO (.some a) g (some v) h10 with ⟨z, _⟩ | ⟨a2, e2, z1, z2, se⟩
              · cases z
              · cases z1; cases z2
                exact .inr ⟨a, v, kp, rfl, rfl, se.pe⟩
theorem sEs : ∀ (a : Es) {W : XK} {X : Cx} (g : Good T M n W X) (es : List Expr), chkEs M X.N X.env.scope a es = true → PA X es (tEs T (call T n) M X.K W a)
  | .nil, W, X, g, es, h => by
    cases es with
    | cons _ _ => cases h
    | nil => exact PA.imp pa_nil fun σ H Q ⟨G, st, sg, hv, ho⟩ => ho [] H G (Grow.refl sg) .nil
  | .cons a as, W, X, g, es, h => by
    cases es with
    | nil => cases h
    | cons e es =>
      obtain ⟨h1, h2⟩ := bA h
      refine PA.imp (pa_cons (sE a g e h1).pe (sEs as g es h2) (star_plain (chkE_plain h1))) fun σ H Q ⟨G, st, sg, hv, ho⟩ => ?_
      refine ⟨G, st, sg, hv.l, OutL.step (f := fun x => evEs T (call T n) as st >>= fun xs => .ok (x :: xs)) ho fun v H1 G1 d g r ho => ?_⟩
      exact ⟨G1, st, g.into, hv.r.up g.sub, OutL.stepL ho fun vs H2 G2 ds g2 r2 ho => ho _ _ _ (Grow.refl g2.into) (.cons (r.mono g2.sub) r2)⟩
theorem sO : ∀ (o : Eo) {W : XK} {X : Cx} (g : Good T M n W X) (eo : Option Expr), chkO M X.N X.env.scope o eo = true → SO T M n W X o eo
  | .none, W, X, g, eo, h => by
    cases eo with
    | none => exact .inl ⟨rfl, rfl⟩
    | some _ => cases h
  | .some a, W, X, g, eo, h => by
    cases eo with
    | none => cases h
    | some e => exact .inr ⟨a, e, rfl, rfl, sE a g e h⟩
theorem sI : ∀ (it : It) {W : XK} {X : Cx} (g : Good T M n W X) (tg e : Expr), chkI M X.N X.env.scope it e = true → tupI it tg = true → PI X tg e (tI T (call T n) M X.K W it)
  | .seq a, W, X, g, tg, e, h, ht => si_seq (sE a g e h).pe
  | .rng1 a, W, X, g, tg, e, h, ht => by
    cases e <;> first | (cases h; done) | skip
    rename_i fn es' ks p
    cases fn <;> first | (cases h; done) | skip
    cases es' with
    | nil => cases h
    | cons a' es' => cases es' with
      | cons _ _ => cases h
      | nil => cases ks with
        | cons _ _ => cases h
        | nil =>
          obtain ⟨h1, h2⟩ := bA h
          obtain ⟨h3, h4⟩ := bA h2
          obtain ⟨h5, h6⟩ := bA h4
          have := of_decide_eq_true h1
          subst this
          exact si_rng1 (gl_of h3) (g.ev.free _ (of_decide_eq_true h5)) (chkE_plain h6) (sE a g _ h6).pe
  | .rng2 a b, W, X, g, tg, e, h, ht => by
    cases e <;> first | (cases h; done) | skip
    rename_i fn es' ks p
    cases fn <;> first | (cases h; done) | skip
    cases es' with
    | nil => cases h
    | cons a' es' => cases es' with
      | nil => cases h
      | cons b' es' => cases es' with
        | cons _ _ => cases h
        | nil => cases ks with
          | cons _ _ => cases h
          | nil =>
            obtain ⟨h1, h2⟩ := bA h
            obtain ⟨h3, h4⟩ := bA h2
            obtain ⟨h5, h6⟩ := bA h4
            obtain ⟨h7, h8⟩ := bA h6
            have := of_decide_eq_true h1
            subst this
            exact si_rng2 (gl_of h3) (g.ev.free _ (of_decide_eq_true h5)) (chkE_plain h7) (chkE_plain h8) (sE a g _ h7).pe (sE b g _ h8).pe
  | .enum a, W, X, g, tg, e, h, ht => by
    cases tg <;> first | (cases ht; done) | skip
    cases e <;> first | (cases h; done) | skip
    rename_i fn es' ks p
    cases fn <;> first | (cases h; done) | skip
    cases es' with
    | nil => cases h
    | cons a' es' => cases es' with
      | cons _ _ => cases h
      | nil => cases ks with
        | cons _ _ => cases h
        | nil =>
          obtain ⟨h1, h2⟩ := bA h
          obtain ⟨h3, h4⟩ := bA h2
          obtain ⟨h5, h6⟩ := bA h4
          have := of_decide_eq_true h1
          subst this
          exact si_enum (gl_of h3) (g.ev.free _ (of_decide_eq_true h5)) (chkE_plain h6) (sE a g _ h6).pe
  | .zip a b, W, X, g, tg, e, h, ht => by
    cases tg <;> first | (cases ht; done) | skip
    cases e <;> first | (cases h; done) | skip
    rename_i fn es' ks p
    cases fn <;> first | (cases h; done) | skip
    cases es' with
    | nil => cases h
    | cons a' es' => cases es' with
      | nil => cases h
      | cons b' es' => cases es' with
        | cons _ _ => cases h
        | nil => cases ks with
          | cons _ _ => cases h
          | nil =>
            obtain ⟨h1, h2⟩ := bA h
            obtain ⟨h3, h4⟩ := bA h2
            obtain ⟨h5, h6⟩ := bA h4
            obtain ⟨h7, h8⟩ := bA h6
            have := of_decide_eq_true h1
            subst this
            exact si_zip (gl_of h3) (g.ev.free _ (of_decide_eq_true h5)) (chkE_plain h7) (chkE_plain h8) (sE a g _ h7).pe (sE b g _ h8).pe
  | .rev a, W, X, g, tg, e, h, ht => by
    cases e <;> first | (cases h; done) | skip
    rename_i fn es' ks p
    cases fn <;> first | (cases h; done) | skip
    cases es' with
    | nil => cases h
    | cons a' es' => cases es' with
      | cons _ _ => cases h
      | nil => cases ks with
        | cons _ _ => cases h
        | nil =>
          obtain ⟨h1, h2⟩ := bA h
          obtain ⟨h3, h4⟩ := bA h2
          obtain ⟨h5, h6⟩ := bA h4
          have := of_decide_eq_true h1
          subst this
          exact si_rev (gl_of h3) (g.ev.free _ (of_decide_eq_true h5)) (chkE_plain h6) (sE a g _ h6).pe
end
end
end Fc

set_option Elab.async false
set_option linter.all false
set_option maxRecDepth 100000
set_option maxHeartbeats 4000000
namespace Fc
open PySem PySem.Spec PyProof.Rows L2
/-! ### own lists -/
theorem lk_drop (fz : List Nat) (i : Nat) : ∀ o : Ow, (dropO fz o).lookup i = if i ∈ fz then none else o.lookup i
  | [] => by unfold dropO; simp
  | (j, k) :: o => by
    have ih := lk_drop fz i o
    unfold dropO at ih ⊢
    rw [List.filter_cons]
    by_cases hj : j ∈ fz
    · have h1 : (!fz.contains (j, k).1) = false := by simp [hj]
      rw [if_neg (by rw [h1]; exact Bool.false_ne_true), ih]
      by_cases hi : i ∈ fz
      · rw [if_pos hi, if_pos hi]
      · rw [if_neg hi, if_neg hi, List.lookup_cons]
        have : (i == j) = false := beq_eq_false_iff_ne.mpr fun e => hi (e ▸ hj)
        rw [this]
    · have h1 : (!fz.contains (j, k).1) = true := by simp [hj]
      rw [if_pos h1, List.lookup_cons, List.lookup_cons, ih]
      cases e : i == j with
      | true =>
        have e' := eq_of_beq e
        subst e'
        rw [if_neg hj, if_neg hj]
      | false => rfl
/-- an own list, or the instance that an __init__ fills -/
def OwnS (M : Nm) (K : PySem.W.Frag) (sa : Option Addr) (H G : Hp) (k : Nat) (A : List Addr) (v : V) (d : D) : Prop := match d with
  | .obj c ks ds => ∃ a dx fs, A = [a] ∧ sa = some a ∧ v = .ref a ∧ H a = some (.ins (M.C K c) dx fs) ∧ G a = none ∧ M.Nms fs ks ∧ Reps M K G (fs.map (·.2)) ds
  | d => OwnR M K H G k A v d
/-- an own thing is as it is, in grown heaps -/
theorem OwnR.grow {M : Nm} {K : PySem.W.Frag} {H G H' G' : Hp} {k : Nat} {A : List Addr} {v : V} {d : D} (o : OwnR M K H G k A v d) (e : ∀ p ∈ A, ∀ u, H p = some u → H' p = some u) (sg : Sub G G') (n : ∀ p ∈ A, G p = none → G' p = none) : OwnR M K H' G' k A v d := by
  match k, o with
  | 0, ⟨h, r⟩ => exact ⟨h, r.mono sg⟩
  | 1, ⟨p, vs, ds, eA, ev, ed, h1, h2, h3⟩ => subst eA ev ed; exact ⟨p, vs, ds, rfl, rfl, rfl, e p (by simp) _ h1, n p (by simp) h2, h3.mono sg⟩
  | k + 2, ⟨p, ps, dss, eA, ev, ed, h1, h2, h3, h4, h5⟩ =>
    subst eA ev ed
    refine ⟨p, ps, dss, rfl, rfl, rfl, e p (by simp) _ h1, n p (by simp) h2, h3, h4, fun j q ds a b => ?_⟩
    obtain ⟨vs, q1, q2, q3⟩ := h5 j q ds a b
    have hq : q ∈ p :: ps := List.mem_cons_of_mem _ (List.mem_of_getElem? a)
    exact ⟨vs, e q hq _ q1, n q hq q2, q3.mono sg⟩
theorem OwnS.grow {M : Nm} {K : PySem.W.Frag} {sa : Option Addr} {H G H' G' : Hp} {k : Nat} {A : List Addr} {v : V} {d : D} (o : OwnS M K sa H G k A v d) (e : ∀ p ∈ A, ∀ u, H p = some u → H' p = some u) (sg : Sub G G') (n : ∀ p ∈ A, G p = none → G' p = none) : OwnS M K sa H' G' k A v d := by
  cases d with
  | obj c ks ds =>
    obtain ⟨a, dx, fs, h1, h2, h3, h4, h5, h6, h7⟩ := o
    subst h1
    exact ⟨a, dx, fs, rfl, h2, h3, e a (by simp) _ h4, n a (by simp) h5, h6, h7.mono sg⟩
  | _ => exact OwnR.grow o e sg n
theorem OwnR.all {M : Nm} {K : PySem.W.Frag} {H G G' : Hp} {k : Nat} {A : List Addr} {v : V} {d : D} (o : OwnR M K H G k A v d) (sg : Sub G G') (n : ∀ p ∈ A, G' p = H p) : Rep M K G' v d := by
  match k, o with
  | 0, ⟨h, r⟩ => exact r.mono sg
  | 1, ⟨p, vs, ds, eA, ev, ed, h1, h2, h3⟩ => subst eA ev ed; exact .lst ((n p (by simp)).trans h1) (h3.mono sg)
  | k + 2, ⟨p, ps, dss, eA, ev, ed, h1, h2, h3, h4, h5⟩ =>
    subst eA ev ed
    refine .lst ((n p (by simp)).trans h1) ?_
    have all : ∀ (qs : List Addr) (es : List (List D)), qs.length = es.length → (∀ (j : Nat) (q : Addr) (ds : List D), qs[j]? = some q → es[j]? = some ds → q ∈ ps ∧ ∃ vs, H q = some (.lst vs) ∧ G q = none ∧ Reps M K G vs ds) → Reps M K G' (qs.map .ref) (es.map .lst) := by
      intro qs
      induction qs with
      | nil => intro es hl _; cases es with
        | nil => exact .nil
        | cons _ _ => cases hl
      | cons q qs ih => intro es hl hj; cases es with
        | nil => cases hl
        | cons ds es =>
          refine .cons ?_ (ih es (by simpa using hl) fun j q' ds' h1 h2 => hj (j + 1) q' ds' (by simpa using h1) (by simpa using h2))
          obtain ⟨hm, vs, h1, _, h3⟩ := hj 0 q ds rfl rfl
          exact .lst ((n q (List.mem_cons_of_mem _ hm)).trans h1) (h3.mono sg)
    exact all ps dss h3 fun j q ds h1 h2 => ⟨List.mem_of_getElem? h1, h5 j q ds h1 h2⟩
theorem OwnS.all {M : Nm} {K : PySem.W.Frag} {sa : Option Addr} {H G G' : Hp} {k : Nat} {A : List Addr} {v : V} {d : D} (o : OwnS M K sa H G k A v d) (sg : Sub G G') (n : ∀ p ∈ A, G' p = H p) : Rep M K G' v d := by
  cases d with
  | obj c ks ds =>
    obtain ⟨a, dx, fs, h1, h2, h3, h4, h5, h6, h7⟩ := o
    subst h1 h3
    exact .obj ((n a (by simp)).trans h4) h6 (h7.mono sg)
  | _ => exact OwnR.all o sg n
/-! ### the state of a body -/
structure Sv (M : Nm) (K : PySem.W.Frag) (os : List Nat) (sa : Option Addr) (H0 G0 Gb G H : Hp) (σ : L2.St) (s : Env) (o : Ow) (ad : Nat → List Addr) : Prop where
  len : s.length = σ.length
  sub : Sub G H
  ext : ∀ b u, some b ≠ sa → H0 b = some u → H b = some u
  al : ∀ b u, H0 b = some u → ∃ u', H b = some u'
  sf : ∀ a, sa = some a → ∃ C dx fs, H a = some (.ins C dx fs)
  gro : Sub Gb G
  new : ∀ b u, some b ≠ sa → H0 b = some u → G b = G0 b
  own : ∀ i k, o.lookup i = some k → i ∈ os
  non : ∀ i, o.lookup i = none → ad i = []
  fr : ∀ i p, p ∈ ad i → H0 p = none ∨ some p = sa
  nG : ∀ i p, p ∈ ad i → G p = none ∧ ((∃ vs, H p = some (.lst vs)) ∨ ∃ c dx fs, i = 0 ∧ H p = some (.ins (M.C K c) dx fs) ∧ selfC s o = some c)
  dis : ∀ i j p, i ≠ j → p ∈ ad i → p ∉ ad j
  at_ : ∀ i d, s[i]? = some (some d) → ∃ v, σ[i]? = some (some v) ∧ ((o.lookup i = none ∧ Rep M K G v d) ∨ ∃ k, o.lookup i = some k ∧ OwnS M K sa H G k (ad i) v d)
section
variable {T : Tab} {M : Nm} {n : Nat} {W : XK} {X : Cx} {K : PySem.W.Frag} {os fz : List Nat} {sa : Option Addr} {H0 G0 Gb G H H' G' : Hp} {σ : L2.St} {s : Env} {o : Ow} {ad : Nat → List Addr}
/-- the own things of these slots -/
def InF (fz : List Nat) (ad : Nat → List Addr) (p : Addr) : Prop := ∃ i ∈ fz, p ∈ ad i
open Classical in
noncomputable def fzG (H G : Hp) (fz : List Nat) (ad : Nat → List Addr) : Hp := fun p => if InF fz ad p then H p else G p
open Classical in
noncomputable def unG (G : Hp) (fz : List Nat) (ad : Nat → List Addr) : Hp := fun p => if InF fz ad p then none else G p
theorem fzG_in {p : Addr} (h : InF fz ad p) : fzG H G fz ad p = H p := if_pos h
theorem fzG_out {p : Addr} (h : ¬ InF fz ad p) : fzG H G fz ad p = G p := if_neg h
theorem unG_in {p : Addr} (h : InF fz ad p) : unG G fz ad p = none := if_pos h
theorem unG_out {p : Addr} (h : ¬ InF fz ad p) : unG G fz ad p = G p := if_neg h
namespace Sv
theorem notIn (v : Sv M K os sa H0 G0 Gb G H σ s o ad) {p : Addr} {u : HO} (h : G p = some u) : ¬ InF fz ad p := fun ⟨i, _, hp⟩ => by rw [(v.nG i p hp).1] at h; cases h
theorem there (v : Sv M K os sa H0 G0 Gb G H σ s o ad) {i : Nat} {p : Addr} (h : p ∈ ad i) : ∃ u, H p = some u := by
  rcases (v.nG i p h).2 with ⟨_, e⟩ | ⟨_, _, _, _, e, _⟩
  · exact ⟨_, e⟩
  · exact ⟨_, e⟩
theorem subF (v : Sv M K os sa H0 G0 Gb G H σ s o ad) : Sub G (fzG H G fz ad) := fun p u h => by rw [fzG_out (v.notIn h)]; exact h
theorem intoF (v : Sv M K os sa H0 G0 Gb G H σ s o ad) : Sub (fzG H G fz ad) H := fun p u h => by
  by_cases hp : InF fz ad p
  · rw [fzG_in hp] at h; exact h
  · rw [fzG_out hp] at h; exact v.sub _ _ h
/-- what an expression may read -/
theorem vw (v : Sv M K os sa H0 G0 Gb G H σ s o ad) {ms : List Nat} (hm : ∀ i ∈ ms, i ∈ os → i ∈ fz) : Vw M K ms (fzG H G fz ad) σ s := by
  refine ⟨v.len, fun i hi d hd => ?_⟩
  obtain ⟨w, hw, h⟩ := v.at_ i d hd
  refine ⟨w, hw, ?_⟩
  rcases h with ⟨_, r⟩ | ⟨k, hk, ow⟩
  · exact r.mono v.subF
  · exact ow.all v.subF fun p hp => fzG_in ⟨i, hm i hi (v.own i k hk), hp⟩
variable (v : Sv M K os sa H0 G0 Gb G H σ s o ad)
include v
theorem keepG (g : Grow H (fzG H G fz ad) H' G') : Sub G G' := v.subF.trans g.sub
theorem keepU (g : Grow H (fzG H G fz ad) H' G') : Sub G (unG G' fz ad) := fun p u h => by
  rw [unG_out (v.notIn h)]; exact v.keepG g _ _ h
theorem outG (g : Grow H (fzG H G fz ad) H' G') {i : Nat} {p : Addr} (hp : p ∈ ad i) (hi : i ∉ fz) : G' p = none := by
  obtain ⟨u, hu⟩ := v.there hp
  rw [g.new p u hu, fzG_out (fun ⟨j, hj, hpj⟩ => v.dis i j p (fun e => hi (e ▸ hj)) hp hpj)]
  exact (v.nG i p hp).1
theorem newG (g : Grow H (fzG H G fz ad) H' G') {b : Addr} {u : HO} (hb : some b ≠ sa) (h : H0 b = some u) : ¬ InF fz ad b ∧ G' b = G0 b := by
  have hn : ¬ InF fz ad b := fun ⟨i, _, hp⟩ => by
    rcases v.fr i b hp with e | e
    · rw [e] at h; cases h
    · exact hb e
  exact ⟨hn, by rw [g.new b u (v.ext b u hb h), fzG_out hn]; exact v.new b u hb h⟩
/-- behind an expression whose value holds nothing own -/
theorem after (g : Grow H (fzG H G fz ad) H' G') : Sv M K os sa H0 G0 Gb (unG G' fz ad) H' σ s o ad where
  len := v.len
  sub := fun p u h => by
    by_cases hp : InF fz ad p
    · rw [unG_in hp] at h; cases h
    · rw [unG_out hp] at h; exact g.into _ _ h
  ext := fun b u hb h => g.ext _ _ (v.ext b u hb h)
  al := fun b u h => let ⟨u', h'⟩ := v.al b u h; ⟨u', g.ext _ _ h'⟩
  sf := fun a h => let ⟨C, dx, fs, h'⟩ := v.sf a h; ⟨C, dx, fs, g.ext _ _ h'⟩
  gro := v.gro.trans (v.keepU g)
  new := fun b u hb h => by
    obtain ⟨h1, h2⟩ := v.newG g hb h
    rw [unG_out h1]; exact h2
  own := v.own
  non := v.non
  fr := v.fr
  nG := fun i p hp => by
    refine ⟨?_, ?_⟩
    · by_cases hi : InF fz ad p
      · exact unG_in hi
      · rw [unG_out hi]
        exact v.outG g hp fun h => hi ⟨i, h, hp⟩
    · rcases (v.nG i p hp).2 with ⟨vs, e⟩ | ⟨c, dx, fs, e1, e, e2⟩
      · exact .inl ⟨vs, g.ext _ _ e⟩
      · exact .inr ⟨c, dx, fs, e1, g.ext _ _ e, e2⟩
  dis := v.dis
  at_ := fun i d hd => by
    obtain ⟨w, hw, h⟩ := v.at_ i d hd
    refine ⟨w, hw, ?_⟩
    rcases h with ⟨h1, r⟩ | ⟨k, hk, ow⟩
    · exact .inl ⟨h1, r.mono (v.keepU g)⟩
    · refine .inr ⟨k, hk, ow.grow (fun p _ u e => g.ext _ _ e) (v.keepU g) fun p hp _ => ?_⟩
      by_cases hi : InF fz ad p
      · exact unG_in hi
      · rw [unG_out hi]
        exact v.outG g hp fun h => hi ⟨i, h, hp⟩
open Classical in
/-- behind an expression whose value may hold the own things of fz -/
theorem frozen (g : Grow H (fzG H G fz ad) H' G') : Sv M K os sa H0 G0 Gb G' H' σ s (dropO fz o) (fun i => if i ∈ fz then [] else ad i) where
  len := v.len
  sub := g.into
  ext := fun b u hb h => g.ext _ _ (v.ext b u hb h)
  al := fun b u h => let ⟨u', h'⟩ := v.al b u h; ⟨u', g.ext _ _ h'⟩
  sf := fun a h => let ⟨C, dx, fs, h'⟩ := v.sf a h; ⟨C, dx, fs, g.ext _ _ h'⟩
  gro := v.gro.trans (v.keepG g)
  new := fun b u hb h => (v.newG g hb h).2
  own := fun i k h => by
    rw [lk_drop] at h
    split at h
    · cases h
    · exact v.own i k h
  non := fun i h => by
    rw [lk_drop] at h
    by_cases hi : i ∈ fz
    · rw [if_pos hi]
    · rw [if_neg hi] at h ⊢
      exact v.non i h
  fr := fun i p hp => by
    by_cases hi : i ∈ fz
    · rw [if_pos hi] at hp; cases hp
    · rw [if_neg hi] at hp; exact v.fr i p hp
  nG := fun i p hp => by
    by_cases hi : i ∈ fz
    · rw [if_pos hi] at hp; cases hp
    · rw [if_neg hi] at hp
      refine ⟨v.outG g hp hi, ?_⟩
      rcases (v.nG i p hp).2 with ⟨vs, e⟩ | ⟨c, dx, fs, e1, e, e2⟩
      · exact .inl ⟨vs, g.ext _ _ e⟩
      · refine .inr ⟨c, dx, fs, e1, g.ext _ _ e, ?_⟩
        subst e1
        unfold selfC at e2 ⊢
        rw [lk_drop, if_neg hi]
        exact e2
  dis := fun i j p hij hp hq => by
    by_cases hi : i ∈ fz
    · rw [if_pos hi] at hp; cases hp
    · by_cases hj : j ∈ fz
      · rw [if_pos hj] at hq; cases hq
      · rw [if_neg hi] at hp; rw [if_neg hj] at hq; exact v.dis i j p hij hp hq
  at_ := fun i d hd => by
    obtain ⟨w, hw, h⟩ := v.at_ i d hd
    refine ⟨w, hw, ?_⟩
    rw [lk_drop]
    by_cases hi : i ∈ fz
    · rw [if_pos hi]
      refine .inl ⟨rfl, ?_⟩
      rcases h with ⟨_, r⟩ | ⟨k, hk, ow⟩
      · exact r.mono (v.keepG g)
      · exact (ow.all v.subF fun p hp => fzG_in ⟨i, hi, hp⟩).mono g.sub
    · rw [if_neg hi, if_neg hi]
      rcases h with ⟨h1, r⟩ | ⟨k, hk, ow⟩
      · exact .inl ⟨h1, r.mono (v.keepG g)⟩
      · exact .inr ⟨k, hk, ow.grow (fun p _ u e => g.ext _ _ e) (v.keepG g) fun p hp _ => v.outG g hp hi⟩
open Classical in
/-- the own things of fz are frozen -/
theorem freeze (fz : List Nat) : Sv M K os sa H0 G0 Gb (fzG H G fz ad) H σ s (dropO fz o) (fun i => if i ∈ fz then [] else ad i) := v.frozen (Grow.refl v.intoF)
end Sv
theorem cinj {mg : Str → Option Value} (ev : Env1 T M K mg) {c c' : Nat} (h : (T.init c).isSome = true) (h' : (T.init c').isSome = true) (e : M.C K c = M.C K c') : c = c' := by
  obtain ⟨p, hp⟩ := Option.isSome_iff_exists.mp h
  obtain ⟨p', hp'⟩ := Option.isSome_iff_exists.mp h'
  have h1 := ev.kitC c p c p hp hp
  have h2 := ev.kitC c p c' p' hp hp'
  rw [← e, h1] at h2
  have := Option.some.inj h2
  rw [beq_self_eq_true] at this
  exact eq_of_beq this.symm
mutual
/-- a value that holds nothing own does without it -/
theorem Rep.wo {mg : Str → Option Value} (ev : Env1 T M K mg) {cs : Option Nat} (hA : ∀ p, InF fz ad p → (∃ vs, G' p = some (.lst vs)) ∨ ∃ c dx fs, G' p = some (.ins (M.C K c) dx fs) ∧ cs = some c) : ∀ {w : V} {d : D}, Rep M K G' w d → noL T cs d = true → Rep M K (unG G' fz ad) w d
  | _, _, .non, _ => .non
  | _, _, .bl b, _ => .bl b
  | _, _, .int b, _ => .int b
  | _, _, .str b, _ => .str b
  | _, _, .tup (a := a) (vs := vs) h r, e => by
    have hn : ¬ InF fz ad a := fun hi => by
      rcases hA a hi with ⟨_, q⟩ | ⟨_, _, _, q, _⟩ <;> (rw [h] at q; cases q)
    exact .tup (by rw [unG_out hn]; exact h) (Reps.wo ev hA r e)
  | _, _, .lst h r, e => by cases e
  | _, _, .scr h, e => by cases e
  | _, _, .obj (a := a) (dx := dx) (fs := fs) (c := c') (ks := ks) (ds := ds) h h2 r, e => by
    obtain ⟨e1, e2⟩ := bA e
    have hn : ¬ InF fz ad a := fun hi => by
      rcases hA a hi with ⟨_, q⟩ | ⟨c, dx', fs', q, hc⟩
      · rw [h] at q; cases q
      · subst hc
        obtain ⟨e3, e4⟩ := bA e1
        obtain ⟨e5, e6⟩ := bA e4
        rw [h] at q
        have q2 : M.C K c' = M.C K c := by
          have := Option.some.inj q
          injection this
        have := cinj ev e5 e3 q2
        subst this
        simp at e6
    exact .obj (by rw [unG_out hn]; exact h) h2 (Reps.wo ev hA r e2)
theorem Reps.wo {mg : Str → Option Value} (ev : Env1 T M K mg) {cs : Option Nat} (hA : ∀ p, InF fz ad p → (∃ vs, G' p = some (.lst vs)) ∨ ∃ c dx fs, G' p = some (.ins (M.C K c) dx fs) ∧ cs = some c) : ∀ {ws : List V} {ds : List D}, Reps M K G' ws ds → noL.noLs T cs ds = true → Reps M K (unG G' fz ad) ws ds
  | _, _, .nil, _ => .nil
  | _, _, .cons h r, e => by
    obtain ⟨e1, e2⟩ := bA e
    exact .cons (Rep.wo ev hA h e1) (Reps.wo ev hA r e2)
end
theorem Sv.hA (v : Sv M K os sa H0 G0 Gb G H σ s o ad) (g : Grow H (fzG H G fz ad) H' G') : ∀ p, InF fz ad p → (∃ vs, G' p = some (.lst vs)) ∨ ∃ c dx fs, G' p = some (.ins (M.C K c) dx fs) ∧ selfC s o = some c := fun p hp => by
  obtain ⟨i, hi, hpi⟩ := hp
  have e0 : fzG H G fz ad p = H p := fzG_in ⟨i, hi, hpi⟩
  rcases (v.nG i p hpi).2 with ⟨vs, e⟩ | ⟨c, dx, fs, _, e, e2⟩
  · exact .inl ⟨vs, g.sub _ _ (e0.trans e)⟩
  · exact .inr ⟨c, dx, fs, g.sub _ _ (e0.trans e), e2⟩
/-- a value of the reading's depth, behind its evaluation: the state with it -/
theorem Sv.value {mg : Str → Option Value} (ev : Env1 T M K mg) (v : Sv M K os sa H0 G0 Gb G H σ s o ad) (g : Grow H (fzG H G fz ad) H' G') {e : E} {k : Nat} {A : List Addr} {w : V} {d : D} (hA : ∀ p ∈ A, H p = none) (hk : k = 0 → frk T 1 e = 0) (ow : OwnR M K H' G' k A w d) :
    ∃ G2 ad2, Sv M K os sa H0 G0 Gb G2 H' σ s (fzO T fz e d s o) ad2 ∧ OwnR M K H' G2 k A w d ∧ ∀ i p, p ∈ A → p ∉ ad2 i := by
  classical
  unfold fzO
  have nA : ∀ i p, p ∈ A → p ∉ ad i := fun i p hp hq => by
    obtain ⟨u, hu⟩ := v.there hq
    rw [hA p hp] at hu; cases hu
  by_cases hf0 : (fre T (selfC s o) e d || offO fz d s o) = true
  · rw [if_pos hf0]
    refine ⟨_, ad, v.after g, ?_, nA⟩
    have nF : ∀ p, p ∈ A → ¬ InF fz ad p := fun p hp ⟨i, _, hq⟩ => nA i p hp hq
    rw [Bool.or_eq_true] at hf0
    rcases hf0 with hf | hf
    · skip
      unfold fre at hf
      rw [Bool.or_eq_true, Bool.and_eq_true] at hf
      match k, ow with
      | 0, ⟨h1, r⟩ =>
        refine ⟨h1, ?_⟩
        rcases hf with hf | ⟨hf, _⟩
        · exact r.wo ev (v.hA g) hf
        · rw [hk rfl] at hf; cases hf
      | 1, ⟨p, vs, ds, eA, ev, ed, h1, h2, h3⟩ =>
        subst eA ev ed
        refine ⟨p, vs, ds, rfl, rfl, rfl, h1, by rw [unG_out (nF p (by simp))]; exact h2, ?_⟩
        rcases hf with hf | ⟨_, hf⟩
        · cases hf
        · exact h3.wo ev (v.hA g) hf
      | k + 2, ⟨p, ps, dss, eA, ev, ed, h1, h2, h3, h4, h5⟩ =>
        subst eA ev ed
        rcases hf with hf | ⟨_, hf⟩
        · cases hf
        · cases dss with
          | nil =>
            refine ⟨p, ps, [], rfl, rfl, rfl, h1, by rw [unG_out (nF p (by simp))]; exact h2, h3, h4, fun j q ds a b => by simp at b⟩
          | cons x xs => cases hf
    · have hY : ∃ Y : Addr → List D, (∀ p, InF fz ad p → ∃ vs, G' p = some (.lst vs) ∧ Reps M K G' vs (Y p) ∧ plB (.lst (Y p)) = true) ∧ ∀ p, InF fz ad p → subB (.lst (Y p)) d = false := by
        have : ∀ p, ∃ y : List D, InF fz ad p → (∃ vs, G' p = some (.lst vs) ∧ Reps M K G' vs y ∧ plB (.lst y) = true) ∧ subB (.lst y) d = false := fun p => by
          by_cases hp : InF fz ad p
          · obtain ⟨i, hi, hpi⟩ := hp
            have h1 := List.all_eq_true.mp hf i hi
            cases q : o.lookup i with
            | none => rw [v.non i q] at hpi; cases hpi
            | some k1 =>
              rw [q] at h1
              match k1, h1 with
              | 1, h1 =>
                cases q2 : s[i]? with
                | none => rw [q2] at h1; cases h1
                | some x => cases x with
                  | none => rw [q2] at h1; cases h1
                  | some x => cases x <;> first | (rw [q2] at h1; cases h1; done) | skip
                              rename_i ds
                              rw [q2] at h1
                              have h1 : (plB (.lst ds) && !subB (.lst ds) d) = true := h1
                              rw [Bool.and_eq_true] at h1
                              obtain ⟨w', hw', hh⟩ := v.at_ i _ q2
                              rcases hh with ⟨z, _⟩ | ⟨k2, hk2, ow2⟩
                              · rw [q] at z; cases z
                              · rw [q] at hk2
                                cases hk2
                                obtain ⟨p2, vs, ds2, eA, ev2, ed, e1, e2, e3⟩ := ow2
                                cases ed
                                rw [eA] at hpi
                                have : p = p2 := by simpa using hpi
                                subst this
                                have e4 : fzG H G fz ad p = H p := fzG_in ⟨i, hi, by rw [eA]; simp⟩
                                exact ⟨ds, fun _ => ⟨⟨vs, g.sub _ _ (e4.trans e1), e3.mono (v.keepG g), h1.1⟩, by simpa using h1.2⟩⟩
              | 0, h1 => cases h1
              | k1 + 2, h1 => cases h1
          · exact ⟨[], fun h => absurd h hp⟩
        exact ⟨fun p => Classical.choose (this p), fun p hp => (Classical.choose_spec (this p) hp).1, fun p hp => (Classical.choose_spec (this p) hp).2⟩
      obtain ⟨Y, hY, hsb⟩ := hY
      have eG : unG G' fz ad = rmG G' (InF fz ad) := rfl
      rw [eG]
      match k, ow with
      | 0, ⟨h1, r⟩ => exact ⟨h1, r.off hY hsb⟩
      | 1, ⟨p, vs, ds, eA, ev, ed, h1, h2, h3⟩ =>
        subst eA ev ed
        exact ⟨p, vs, ds, rfl, rfl, rfl, h1, by rw [rmG_out (nF p (by simp))]; exact h2, h3.off hY fun p hp => (subB_or (hsb p hp)).2⟩
      | k + 2, ⟨p, ps, dss, eA, ev, ed, h1, h2, h3, h4, h5⟩ =>
        subst eA ev ed
        refine ⟨p, ps, dss, rfl, rfl, rfl, h1, by rw [rmG_out (nF p (by simp))]; exact h2, h3, h4, fun j q ds a b => ?_⟩
        obtain ⟨vs, q1, q2, q3⟩ := h5 j q ds a b
        have hq : q ∈ p :: ps := List.mem_cons_of_mem _ (List.mem_of_getElem? a)
        refine ⟨vs, q1, by rw [rmG_out (nF q hq)]; exact q2, q3.off hY fun p hp => ?_⟩
        have hall : ∀ (l : List (List D)) (j : Nat) (ds : List D), l[j]? = some ds → subBs (.lst (Y p)) (l.map .lst) = false → subBs (.lst (Y p)) ds = false := by
          intro l
          induction l with
          | nil => intro j ds h; cases h
          | cons x l ih =>
            intro j ds h hs
            obtain ⟨s1, s2⟩ := subB_or hs
            cases j with
            | zero => cases h; exact (subB_or s1).2
            | succ j => exact ih j ds h s2
        exact hall dss j ds b (subB_or (hsb p hp)).2
  · rw [if_neg hf0]
    refine ⟨G', _, v.frozen g, ow, fun i p hp hq => ?_⟩
    by_cases hi : i ∈ fz
    · rw [if_pos hi] at hq; cases hq
    · rw [if_neg hi] at hq; exact nA i p hp hq
end
end Fc

set_option Elab.async false
set_option linter.all false
set_option maxRecDepth 100000
set_option maxHeartbeats 4000000
namespace Fc
open PySem PySem.Spec PyProof.Rows L2
section
variable {T : Tab} {M : Nm} {n : Nat} {W : XK} {X : Cx} {K : PySem.W.Frag} {os fz : List Nat} {sa : Option Addr} {H0 G0 Gb G H H' G' : Hp} {σ : L2.St} {s : Env} {o : Ow} {ad : Nat → List Addr}
/-! ### fresh values -/
def tEK (T : Tab) (F : Nat → List D → R D) (M : Nm) (K : PySem.W.Frag) (W : XK) (k : Nat) (e : E) : TE := fun σ H Q => ∃ (G : Hp) (s : Env), Sub G H ∧ Vw M K (mnE e) G σ s ∧ OutK M K W k H G Q (evE T F e s)
theorem pk0 {a : E} {e : Expr} (se : SE T M n W X a e) : PE X e (tEK T (call T n) M X.K W 0 a) := PE.imp se.pe fun σ H Q ⟨G, st, sg, hv, ho⟩ => ⟨G, st, sg, hv, by
  cases q : evE T (call T n) a st with
  | no => rw [q] at ho; exact ho
  | ex c ds => rw [q] at ho; exact ho
  | ok d => rw [q] at ho; exact fun v H' G' g r => ho v H' G' [] g (by simp) ⟨rfl, r⟩⟩
theorem OutK.new1 {Q : VK} {vs : List V} {ds : List D} (h : OutK M K W 1 H G Q (.ok (.lst ds))) (sg : Sub G H) (g : Grow H G H' G') (r : Reps M K G' vs ds) {p : Addr} (hp : H' p = none) : Q (.ref p) (upd H' p (.lst vs)) := by
  have gp : G' p = none := by
    cases q : G' p with
    | none => rfl
    | some u => have := g.into _ _ q; rw [hp] at this; cases this
  refine h (.ref p) _ G' [p] ⟨fun a u e => ?_, g.sub, fun a u e => ?_, g.new⟩ (fun q hq => ?_) ⟨p, vs, ds, rfl, rfl, rfl, upd_same, gp, r⟩
  · have := g.ext a u e
    rw [upd_ne (ne_of_none this hp)]; exact this
  · rw [upd_ne (ne_of_none e gp)]; exact g.into _ _ e
  · have e : q = p := by simpa using hq
    subst e
    cases q1 : H q with
    | none => rfl
    | some u => have := g.ext _ _ q1; rw [hp] at this; cases this
theorem OutK.stepL {k : Nat} {Q : VK} {Q' : List V → Hp → Prop} {r : R (List D)} {f : List D → R D} (h : OutK M K W k H G Q (r >>= f)) (i : ∀ v H1 G1 d, Grow H G H1 G1 → Reps M K G1 v d → r = .ok d → OutK M K W k H1 G1 Q (f d) → Q' v H1) : OutL M K W H G Q' r := by
  cases r with
  | ok d =>
    intro v H' G' g' r'
    refine i v H' G' d g' r' rfl ?_
    have h : OutK M K W k H G Q (f d) := h
    cases q : f d with
    | no => rw [q] at h; exact h
    | ex c ds => rw [q] at h; exact fun cls d H2 G2 g2 r2 => h cls d H2 G2 (g'.trans g2) r2
    | ok d2 => rw [q] at h; exact fun v2 H2 G2 A g2 hA o => h v2 H2 G2 A (g'.trans g2) (fun p hp => by
        cases q1 : H p with
        | none => rfl
        | some u => have := g'.ext _ _ q1; rw [hA p hp] at this; cases this) o
  | ex c ds => exact h
  | no => exact h
theorem OutK.grow {k : Nat} {Q : VK} {r : R D} (h : OutK M K W k H G Q r) (g : Grow H G H' G') : OutK M K W k H' G' Q r := by
  cases r with
  | no => exact h
  | ex c ds => exact fun cls d H2 G2 g2 r2 => h cls d H2 G2 (g.trans g2) r2
  | ok d2 => exact fun v2 H2 G2 A g2 hA o => h v2 H2 G2 A (g.trans g2) (fun p hp => by
        cases q1 : H p with
        | none => rfl
        | some u => have := g.ext _ _ q1; rw [hA p hp] at this; cases this) o
theorem OutK.step {k : Nat} {Q Q' : VK} {r : R D} {f : D → R D} (h : OutK M K W k H G Q (r >>= f)) (i : ∀ v H1 G1 d, Grow H G H1 G1 → Rep M K G1 v d → r = .ok d → OutK M K W k H1 G1 Q (f d) → Q' v H1) : Out M K W H G Q' r := by
  cases r with
  | ok d => exact fun v H' G' g' r' => i v H' G' d g' r' rfl (OutK.grow h g')
  | ex c ds => exact h
  | no => exact h
theorem spK_of {f : Nat} {d : Def} {vs : List V} {ds : List D} {Q : VK} (g : Good T M n W X) (hd : T.fn f = some d) (hi : d.init = false) (sg : Sub G H) (hv : Reps M X.K G vs ds) (ho : OutK M X.K W d.rk H G Q (call T n f ds)) : spF T M X.K n f d vs H Q W := by
  obtain ⟨hl, _⟩ := g.lv.fns f d hd
  have hne : call T n f ds ≠ .no := fun e => by rw [e] at ho; exact ho
  obtain ⟨d', hd', hn⟩ := call_some hne
  rw [hd] at hd'; cases hd'
  unfold spF
  rw [hi]
  exact ⟨G, ds, by rw [hv.length, hn, hl], sg, hv, ho⟩
theorem chk_lst {es : Es} {e : Expr} {N : List Str} {sc : Scope} (h : chkE M N sc (.lst es) e = true) : ∃ es' p, e = .List es' p ∧ es'.length ≤ 1000 ∧ chkEs M N sc es es' = true := by
  cases e <;> first | (cases h; done) | skip
  obtain ⟨h0, h1⟩ := bA h
  exact ⟨_, _, rfl, Nat.le_of_ble_eq_true h0, h1⟩
theorem pk1_mul (g : Good T M n W X) {es : Es} {b : E} {e : Expr} (h : chkE M X.N X.env.scope (.bin .mul (.lst es) b) e = true) : PE X e (tEK T (call T n) M X.K W 1 (.bin .mul (.lst es) b)) := by
  cases e <;> first | (cases h; done) | skip
  rename_i a' o' b' p
  obtain ⟨h1, h2⟩ := bA h
  obtain ⟨h3, h4⟩ := bA h2
  cases o' <;> first | (cases h1; done) | skip
  refine PE.imp (pe_op op_rep (sE (.lst es) g _ h3).pe (sE b g _ h4).pe) fun σ H Q ⟨G, st, sg, hv, ho⟩ => ?_
  have e0 : evE T (call T n) (.bin .mul (.lst es) b) st = (evEs T (call T n) es st >>= fun xs => evE T (call T n) b st >>= fun y => opD T (call T n) .mul (.lst xs) y) := by
    show (evE T (call T n) (.lst es) st >>= fun x => evE T (call T n) b st >>= fun y => opD T (call T n) .mul x y) = _
    have : evE T (call T n) (.lst es) st = (evEs T (call T n) es st >>= fun xs => .ok (.lst xs)) := rfl
    rw [this]
    cases evEs T (call T n) es st <;> rfl
  have e1 : evE T (call T n) (.lst es) st = (evEs T (call T n) es st >>= fun xs => .ok (.lst xs)) := rfl
  refine ⟨G, st, sg, hv.l, ?_⟩
  rw [e1]
  rw [e0] at ho
  cases q : evEs T (call T n) es st with
  | no => rw [q] at ho; exact ho.elim
  | ex c ds => rw [q] at ho; exact ho
  | ok xs =>
    rw [q] at ho
    intro v H1 G1 gr r
    have ho : OutK M X.K W 1 H1 G1 Q (evE T (call T n) b st >>= fun y => opD T (call T n) .mul (.lst xs) y) := OutK.grow ho gr
    refine ⟨G1, st, gr.into, hv.r.up gr.sub, OutK.step ho fun w H2 G2 d g2 r2 e9 ho => ?_⟩
    cases r with
    | lst ha hr =>
      cases d <;> first | exact ho.elim | skip
      rename_i k
      have ho' : OutK M X.K W 1 H2 G2 Q (if xs.length * k.toNat ≤ LIM ∧ -(2 ^ 62) ≤ k ∧ k < 2 ^ 62 then R.ok (D.lst (List.replicate k.toNat xs).flatten) else R.no) := ho
      split at ho'
      case isFalse => exact ho'.elim
      rename_i hc
      refine ⟨_, k, _, rfl, r2.toInt, g2.into _ _ (g2.sub _ _ ha), by omega, by omega, ?_, fun p hp => ?_⟩
      · rw [hr.length, sizeLine_eq]; exact hc.1
      · exact OutK.new1 ho' g2.into (Grow.refl g2.into) ((hr.mono g2.sub).rep k.toNat) hp
theorem pk1 (g : Good T M n W X) : ∀ (a : E) (e : Expr), chkE M X.N X.env.scope a e = true → 1 ≤ frk T 1 a → PE X e (tEK T (call T n) M X.K W 1 a)
  | .lc vs t it c el, e, h, hf => by
    obtain ⟨el', t', it', ifs, scope, p, rfl, h1, h2, h3, h4, h5, h6, h7, h8⟩ := chk_lc h
    have pi := sI it g t' it' h4 h3
    have key : ∀ (s : Shared) (H : Hp) (C : Addr) (cl : List (Str × Addr)) (fp : List Addr), PTs (X.blk s H scope (compEnvC scope cl C X.env) fp) ifs (tC T (call T n) M X.K c) := fun s H C cl fp => by
      rcases h7 with ⟨rfl, rfl⟩ | ⟨x, a, rfl, rfl, h7⟩
      · exact pts_nil
      · rcases sO (.some a) (g.blk s H scope (compEnvC scope cl C X.env) fp) (some x) h7 with ⟨z, _⟩ | ⟨a2, e2, z1, z2, se⟩
        · cases z
        · cases z1; cases z2
          exact pts_one se.pt
    refine PE.imp (pe_lc (te := tE T (call T n) M X.K Wf el) (g := tTg M X.K t) g.calm g.nd pi (blkOk_by h1) (fun s H C cl fp => sG (X := X.blk s H scope (compEnvC scope cl C X.env) fp) g.calm g.nd locAll_blk t t' h5) key (fun s H C cl fp => (sE el (g.blk s H scope (compEnvC scope cl C X.env) fp) el' h8).pe) (fun x => folded_plain (chkI_plain h4))) fun σ H Q ⟨G, st, sg, hv, ho⟩ => ?_
    rw [h2]
    exact lc_reading h6 sg hv ho
  | .lc2 vs vs1 t it t1 it1 el, e, h, hf => by
    obtain ⟨el', t', it', t1', it1', scope, p, rfl, h1, h2, h2b, h3, h3b, h4, h5, h6, h7, h8, h9, h10⟩ := chk_lc2 h
    have pi := sI it g t' it' h4 h3
    refine PE.imp (pe_lc2 (te := tE T (call T n) M X.K Wf el) (g := tTg M X.K t) (g1 := tTg M X.K t1) (wi1 := tI T (call T n) M X.K Wf it1) g.calm g.nd pi (blkOk_by h1) (fun i hi => by rw [h2]; exact h2b i hi) (fun s H C cl fp => sG (X := X.blk s H scope (compEnvC scope cl C X.env) fp) g.calm g.nd locAll_blk t t' h5) (fun s H C cl fp => pts_nil)
      (fun s H C cl fp => sI it1 (g.blk s H scope (compEnvC scope cl C X.env) fp) t1' it1' h7 h3b) (fun s H C cl fp => sG (X := X.blk s H scope (compEnvC scope cl C X.env) fp) g.calm g.nd locAll_blk t1 t1' h8) (fun s H C cl fp => pts_nil)
      (fun s H C cl fp => (sE el (g.blk s H scope (compEnvC scope cl C X.env) fp) el' h10).pe) (fun x => folded_plain (chkI_plain h4)) (fun env x => folded_plain (chkI_plain h7))) fun σ H Q ⟨G, st, sg, hv, ho⟩ => ?_
    rw [h2]
    exact lc2_reading h6 h9 sg hv ho
  | .lst es, e, h, hf => by
    obtain ⟨es', p, rfl, h0, h1⟩ := chk_lst h
    refine PE.imp (pe_lst (sEs es g _ h1)) fun σ H Q ⟨G, st, sg, hv, ho⟩ => ⟨G, st, sg, hv, OutK.stepL (f := fun xs => .ok (.lst xs)) ho fun vs H1 G1 ds g r e ho => ⟨?_, fun q hq => ?_⟩⟩
    · have := evEs_len h1 e; have := r.length; rw [LIM_eq]; unfold LIM; omega
    · exact ho.new1 g.into (Grow.refl g.into) r hq
  | .bi .list es, e, h, hf => by
    cases e <;> first | (cases h; done) | skip
    rename_i fn es' ks p
    cases fn <;> first | (cases h; done) | skip
    cases es' with
    | nil => cases h
    | cons e1 es' => cases ks with
      | cons _ _ => cases h
      | nil =>
        obtain ⟨h1, h2⟩ := bA h
        obtain ⟨h3, h4⟩ := bA h2
        obtain ⟨h5, h6⟩ := bA h4
        obtain ⟨h7, h8⟩ := bA h6
        have hp := plainEs h8
        have hx := of_decide_eq_true h1
        subst hx
        refine PE.imp (pe_callTy call_list_of (gl_of h3) (g.ev.free _ (of_decide_eq_true h7)) (by show bootBuiltins "list" = some (.type "list"); decide +kernel) (sEs es g _ h8) (by show ("list" : Str) ≠ "__name__"; decide) (nm_ok h5).1 (star_plain (hp e1 (by simp))) (back_plain fun e he => hp e (List.mem_cons_of_mem _ he))) fun σ H Q ⟨G, st, sg, hv, ho⟩ => ?_
        refine ⟨G, st, sg, hv, OutK.stepL (f := fun xs => bfD T (call T n) .list xs) ho fun vs H1 G1 ds g r e ho => ?_⟩
        match ds, r, ho with
        | [.lst xs], r, ho =>
          obtain ⟨v, rfl, h1⟩ := reps_1 r
          cases h1 with
          | lst ha hr => exact ⟨_, _, rfl, .inl (.of (g.into _ _ ha)), fun l hl => OutK.new1 (show OutK M X.K W 1 H1 G1 Q (.ok (.lst xs)) from ho) g.into (Grow.refl g.into) hr hl⟩
        | [.tup xs], r, ho =>
          obtain ⟨v, rfl, h1⟩ := reps_1 r
          cases h1 with
          | tup ha hr => exact ⟨_, _, rfl, .inr (.of (g.into _ _ ha)), fun l hl => OutK.new1 (show OutK M X.K W 1 H1 G1 Q (.ok (.lst xs)) from ho) g.into (Grow.refl g.into) hr hl⟩
  | .bi .sorted es, e, h, hf => by
    cases e <;> first | (cases h; done) | skip
    rename_i fn es' ks p
    cases fn <;> first | (cases h; done) | skip
    cases es' with
    | nil => cases h
    | cons e1 es' => cases ks with
      | cons _ _ => cases h
      | nil =>
        obtain ⟨h1, h2⟩ := bA h
        obtain ⟨h3, h4⟩ := bA h2
        obtain ⟨h5, h6⟩ := bA h4
        obtain ⟨h7, h8⟩ := bA h6
        have hp := plainEs h8
        have hx := of_decide_eq_true h1
        subst hx
        refine PE.imp (pe_callB cr_sortedI (gl_of h3) (g.ev.free _ (of_decide_eq_true h7)) (by show bootBuiltins "sorted" = some (.builtin "sorted"); decide +kernel) (sEs es g _ h8) (by show ("sorted" : Str) ≠ "__name__"; decide) (nm_ok h5).1 (star_plain (hp e1 (by simp))) (back_plain fun e he => hp e (List.mem_cons_of_mem _ he))) fun σ H Q ⟨G, st, sg, hv, ho⟩ => ?_
        refine ⟨G, st, sg, hv, OutK.stepL (f := fun xs => bfD T (call T n) .sorted xs) ho fun vs H1 G1 ds g r e ho => ?_⟩
        match ds, r, ho with
        | [.lst xs], r, ho =>
          obtain ⟨v, rfl, h1⟩ := reps_1 r
          cases h1 with
          | lst ha hr =>
            have ho : OutK M X.K W 1 H1 G1 Q (match intsD xs with
              | some ns => .ok (.lst ((sortI ns).map .int))
              | none => .no) := ho
            cases e : intsD xs with
            | none => rw [e] at ho; exact ho.elim
            | some ns =>
              rw [e] at ho
              have ev := hr.intsD e
              subst ev
              refine ⟨_, ns, rfl, .of (g.into _ _ ha), fun ns' p hp hs np => ?_⟩
              rw [sortI_uniq hp hs]
              exact OutK.new1 ho g.into (Grow.refl g.into) (Reps.ints _) np
  | .call f es, e, h, hf => by
    cases e <;> first | (cases h; done) | skip
    rename_i fn es' ks p
    cases fn <;> first | (cases h; done) | skip
    cases ks with
    | cons _ _ => cases h
    | nil =>
      obtain ⟨h1, h2⟩ := bA h
      obtain ⟨h3, h4⟩ := bA h2
      obtain ⟨h5, h6⟩ := bA h4
      have hat := of_decide_eq_true h1
      have pa := sEs es g _ h6
      have hp := plainEs h6
      cases hT : T.fn f with
      | none => unfold frk at hf; rw [hT] at hf; cases hf
      | some d =>
        have hrk : d.rk = 1 := by
          unfold frk at hf
          rw [hT] at hf
          simp only at hf
          split at hf
          · assumption
          · cases hf
        have e0 : ∀ st, evE T (call T n) (.call f es) st = (evEs T (call T n) es st >>= fun xs => call T n f xs) := fun st => by unfold evE; rw [hT]
        have hi := g.ev.ini f d _ hT hat
        have hm := g.ev.glo f d _ hT hat
        have hk := g.ev.kp f d hT
        obtain ⟨hl, fd, F, hb, _⟩ := g.lv.fns f d hT
        rw [hat] at F hk
        have hr : Room (2 * n + 40) X.A := g.room.mono (by omega)
        cases es' with
        | nil =>
          have e1 := es_nil h6
          subst e1
          refine PE.imp (pe_call0 F hr (gl_of h3) hm hk ((hb hi).none rfl) .nil (passG g) (nm_ok h5).1) fun σ H Q ⟨G, st, sg, hv, ho⟩ => ?_
          rw [e0] at ho
          exact spK_of g hT hi sg .nil (by rw [hrk]; exact ho)
        | cons e1 es1 =>
          refine PE.imp (pe_call F hr (gl_of h3) hm hk ((hb hi).none rfl) .nil (passG g) pa (nm_ok h5).1 (star_plain (hp _ (by simp))) (back_plain fun e he => hp e (List.mem_cons_of_mem _ he))) fun σ H Q ⟨G, st, sg, hv, ho⟩ => ?_
          rw [e0] at ho
          refine ⟨G, st, sg, hv, OutK.stepL ho fun v H1 G1 ds gr r _ ho => ?_⟩
          rw [List.append_nil]
          exact spK_of g hT hi gr.into r (by rw [hrk]; exact ho)
  | .var _, _, _, hf => by cases hf
  | .int _, _, _, hf => by cases hf
  | .bl _, _, _, hf => by cases hf
  | .non, _, _, hf => by cases hf
  | .str _, _, _, hf => by cases hf
  | .bin .add _ _, _, _, hf => by cases hf
  | .bin .sub _ _, _, _, hf => by cases hf
  | .bin .fdiv _ _, _, _, hf => by cases hf
  | .bin .mod _ _, _, _, hf => by cases hf
  | .bin .pow _ _, _, _, hf => by cases hf
  | .bin .mul a _, _, h, hf => by
    cases a <;> first | (cases hf; done) | exact pk1_mul g h
  | .neg _, _, _, hf => by cases hf
  | .cmp _ _ _, _, _, hf => by cases hf
  | .cis _ _, _, _, hf => by cases hf
  | .and_ _ _, _, _, hf => by cases hf
  | .or_ _ _, _, _, hf => by cases hf
  | .not_ _, _, _, hf => by cases hf
  | .ite _ _ _, _, _, hf => by cases hf
  | .ix _ _, _, _, hf => by cases hf
  | .sl _ _ _, _, _, hf => by cases hf
  | .tup _, _, _, hf => by cases hf
  | .isi _ _, _, _, hf => by cases hf
  | .fld _ _, _, _, hf => by cases hf
  | .meth _ _ _, _, _, hf => by cases hf
  | .mk _ _ _, _, _, hf => by cases hf
  | .bi .len _, _, _, hf => by cases hf
  | .bi .gcd _, _, _, hf => by cases hf
  | .bi .abs _, _, _, hf => by cases hf
  | .bi .int _, _, _, hf => by cases hf
  | .bi .sum _, _, _, hf => by cases hf
  | .bi .all _, _, _, hf => by cases hf
  | .bi .any _, _, _, hf => by cases hf
  | .bi .tuple _, _, _, hf => by cases hf
  | .bi .min2 _, _, _, hf => by cases hf
  | .bi .max2 _, _, _, hf => by cases hf
  | .bi .lcm _, _, _, hf => by cases hf
  | .bi .maxL _, _, _, hf => by cases hf
end
end Fc

set_option Elab.async false
set_option linter.all false
set_option maxRecDepth 100000
set_option maxHeartbeats 4000000
namespace Fc
open PySem PySem.Spec PyProof.Rows L2
section
variable {T : Tab} {M : Nm} {n : Nat} {W : XK} {X : Cx} {K : PySem.W.Frag} {os fz : List Nat} {sa : Option Addr} {H0 G0 Gb G H H' G' : Hp} {σ : L2.St} {s : Env} {o : Ow} {ad : Nat → List Addr}
def kk (T : Tab) (a : E) : Nat := if frk T 1 a = 0 then 0 else 1
theorem kk0 {a : E} (h : kk T a = 0) : frk T 1 a = 0 := by
  unfold kk at h
  split at h
  · assumption
  · cases h
theorem pkv (g : Good T M n W X) (a : E) (e : Expr) (h : chkE M X.N X.env.scope a e = true) : PE X e (tEK T (call T n) M X.K W (kk T a) a) := by
  unfold kk
  by_cases hf : frk T 1 a = 0
  · rw [if_pos hf]; exact pk0 (sE a g e h)
  · rw [if_neg hf]; exact pk1 g a e h (by omega)
/-- an exception leaves -/
def ExW (M : Nm) (K : PySem.W.Frag) (W : XK) (sa : Option Addr) (H0 G0 Gb : Hp) (c : Nat) (ds : List D) : Prop := ∀ cls d H' G', (∀ b u, some b ≠ sa → H0 b = some u → H' b = some u) → Sub Gb G' → Sub G' H' → (∀ b u, some b ≠ sa → H0 b = some u → G' b = G0 b) → RepX M K G' H' cls d c ds → W cls d H'
namespace Sv
theorem h0 (v : Sv M K os sa H0 G0 Gb G H σ s o ad) {p : Addr} (h : H p = none) : H0 p = none := by
  cases q : H0 p with
  | none => rfl
  | some u => obtain ⟨u', h'⟩ := v.al p u q; rw [h] at h'; cases h'
theorem exw (v : Sv M K os sa H0 G0 Gb G H σ s o ad) (g : Grow H (fzG H G fz ad) H' G') {cls : Value} {d : Option Addr} {c : Nat} {ds : List D} (h : ExW M K W sa H0 G0 Gb c ds) (r : RepX M K G' H' cls d c ds) : W cls d H' :=
  h cls d H' G' (fun b u hb e => g.ext _ _ (v.ext b u hb e)) (v.gro.trans (v.keepG g)) g.into (fun b u hb e => (v.newG g hb e).2) r
/-- a value -/
theorem rd {F : Nat → List D → R D} {mg : Str → Option Value} (ev : Env1 T M K mg) (v : Sv M K os sa H0 G0 Gb G H σ s o ad) {e : E} (hm : ∀ i ∈ mnE e, i ∈ os → i ∈ fz) {Q : VK} (h : match evE T F e s with
    | .ok d => ∀ w H' G2 ad2 A, Sv M K os sa H0 G0 Gb G2 H' σ s (fzO T fz e d s o) ad2 → (∀ p ∈ A, H0 p = none) → (∀ i p, p ∈ A → p ∉ ad2 i) → OwnR M K H' G2 (kk T e) A w d → Q w H'
    | .ex c ds => ExW M K W sa H0 G0 Gb c ds
    | .no => False) : tEK T F M K W (kk T e) e σ H Q := by
  refine ⟨fzG H G fz ad, s, v.intoF, v.vw hm, ?_⟩
  cases q : evE T F e s with
  | no => rw [q] at h; exact h
  | ex c ds => rw [q] at h; exact fun cls d H' G' g r => v.exw g h r
  | ok d =>
    rw [q] at h
    intro w H' G' A g hA ow
    obtain ⟨G2, ad2, v2, ow2, nA⟩ := v.value ev g hA kk0 ow
    exact h w H' G2 ad2 A v2 (fun p hp => v.h0 (hA p hp)) nA ow2
/-- a test -/
theorem rdT {F : Nat → List D → R D} (v : Sv M K os sa H0 G0 Gb G H σ s o ad) {e : E} {Q : Bool → Hp → Prop} (h : match evE T F e s with
    | .ok (.bl b) => ∀ H' G2, Sv M K os sa H0 G0 Gb G2 H' σ s o ad → Q b H'
    | .ex c ds => ExW M K W sa H0 G0 Gb c ds
    | _ => False) : tT T F M K W e σ H Q := by
  refine ⟨fzG H G os ad, s, v.intoF, v.vw (fun i _ hi => hi), ?_⟩
  cases q : evE T F e s with
  | no => rw [q] at h; exact h
  | ex c ds => rw [q] at h; exact fun cls d H' G' g r => v.exw g h r
  | ok d =>
    rw [q] at h
    cases d <;> first | exact h.elim | skip
    exact fun H' G' g => h H' _ (v.after g)
/-- an index, read in an environment that agrees -/
theorem rdI {F : Nat → List D → R D} (v : Sv M K os sa H0 G0 Gb G H σ s o ad) {s' : Env} (hl : s'.length = s.length) {e : E} (hs : ∀ i ∈ mnE e, s'[i]? = s[i]?) {i : Int} (he : evE T F e s' = .ok (.int i)) {Q : VK} (h : ∀ H' G2, Sv M K os sa H0 G0 Gb G2 H' σ s o ad → Sub G G2 → (∀ b u, H b = some u → H' b = some u) → Q (.int i) H') : tE T F M K W e σ H Q := by
  have vw := v.vw (ms := mnE e) (fz := os) (fun i _ hi => hi)
  refine ⟨fzG H G os ad, s', v.intoF, ⟨hl.trans vw.len, fun i hi d hd => vw.at_ i hi d (by rw [← hs i hi]; exact hd)⟩, ?_⟩
  rw [he]
  intro w H' G' g r
  cases r
  exact h H' _ (v.after g) (v.keepU g) g.ext
/-- what a loop walks over -/
theorem rdW {F : Nat → List D → R D} (v : Sv M K os sa H0 G0 Gb G H σ s o ad) {it : It} (hm : ∀ i ∈ mnI it, i ∈ os → i ∈ fz) {Q : L2.It → Hp → Prop} (h : match evI T F it s with
    | .ok xs => ∀ J H' G' ad2, Sv M K os sa H0 G0 Gb G' H' σ s (dropO fz o) ad2 → JOk M K J xs G' → xs.length ≤ LIM → Q J H'
    | .ex c ds => ExW M K W sa H0 G0 Gb c ds
    | .no => False) : tI T F M K W it σ H Q := by
  refine ⟨fzG H G fz ad, s, v.intoF, v.vw hm, ?_⟩
  cases q : evI T F it s with
  | no => rw [q] at h; exact h
  | ex c ds => rw [q] at h; exact fun cls d H' G' g r => v.exw g h r
  | ok xs =>
    rw [q] at h
    exact fun J H' G' g j hl => h J H' G' _ (v.frozen g) j hl
/-! ### steps of the state -/
theorem gb {Gc : Hp} (v : Sv M K os sa H0 G0 Gb G H σ s o ad) (h : Sub Gc G) : Sv M K os sa H0 G0 Gc G H σ s o ad := { v with gro := h }
/-- new own lists become plain -/
theorem absorb (v : Sv M K os sa H0 G0 Gb G H σ s o ad) {k : Nat} {A : List Addr} {w : V} {d : D} (hA : ∀ p ∈ A, H0 p = none) (nA : ∀ i p, p ∈ A → p ∉ ad i) (ow : OwnR M K H G k A w d) : ∃ G2, Sub G G2 ∧ Sv M K os sa H0 G0 Gb G2 H σ s o ad ∧ Rep M K G2 w d := by
  classical
  let G2 : Hp := fun p => if p ∈ A then H p else G p
  have gn : ∀ p ∈ A, G p = none ∨ G p = H p := fun p _ => by
    cases q : G p with
    | none => exact .inl rfl
    | some u => exact .inr (v.sub _ _ q).symm
  have sub : Sub G G2 := fun p u h => by
    show (if p ∈ A then H p else G p) = some u
    by_cases hp : p ∈ A
    · rw [if_pos hp]; exact v.sub _ _ h
    · rw [if_neg hp]; exact h
  have out : ∀ i p, p ∈ ad i → G2 p = G p := fun i p hp => by
    show (if p ∈ A then H p else G p) = _
    rw [if_neg fun h => nA i p h hp]
  refine ⟨G2, sub, ⟨v.len, fun p u h => ?_, v.ext, v.al, v.sf, v.gro.trans sub, fun b u hb h => ?_, v.own, v.non, v.fr, fun i p hp => ?_, v.dis, fun i d hd => ?_⟩, ow.all sub fun p hp => if_pos hp⟩
  · have h : (if p ∈ A then H p else G p) = some u := h
    by_cases hp : p ∈ A
    · rw [if_pos hp] at h; exact h
    · rw [if_neg hp] at h; exact v.sub _ _ h
  · show (if b ∈ A then H b else G b) = _
    rw [if_neg fun hp => by rw [hA b hp] at h; cases h]
    exact v.new b u hb h
  · rw [out i p hp]; exact v.nG i p hp
  · obtain ⟨x, hx, h⟩ := v.at_ i d hd
    refine ⟨x, hx, ?_⟩
    rcases h with ⟨h1, r⟩ | ⟨k, hk, ow⟩
    · exact .inl ⟨h1, r.mono sub⟩
    · exact .inr ⟨k, hk, ow.grow (fun _ _ _ e => e) sub fun p hp e => by rw [out i p hp]; exact e⟩
theorem selfC_congr {s' : Env} {o' : Ow} (h1 : s'[0]? = s[0]?) (h2 : o'.lookup 0 = o.lookup 0) : selfC s' o' = selfC s o := by
  unfold selfC; rw [h1, h2]
theorem selfC_some {c : Nat} (h : selfC s o = some c) : ∃ z, o.lookup 0 = some z := by
  unfold selfC at h
  cases q : o.lookup 0 with
  | none => rw [q] at h; cases h
  | some z => exact ⟨z, rfl⟩
theorem selfC_set {i : Nat} {d : Option D} (hi : o.lookup i = none) : selfC (s.set i d) o = selfC s o := by
  by_cases h0 : i = 0
  · subst h0; unfold selfC; rw [hi]
  · exact selfC_congr (List.getElem?_set_ne h0) rfl
theorem get_set {α : Type} {l : List α} {i j : Nat} {x y : α} (h : (l.set i x)[j]? = some y) : (i = j ∧ x = y ∧ i < l.length) ∨ (i ≠ j ∧ l[j]? = some y) := by
  by_cases hij : i = j
  · subst hij
    by_cases hl : i < l.length
    · rw [List.getElem?_set_self hl] at h
      exact .inl ⟨rfl, Option.some.inj h, hl⟩
    · rw [List.getElem?_eq_none (by rw [List.length_set]; omega)] at h; cases h
  · rw [List.getElem?_set_ne hij] at h
    exact .inr ⟨hij, h⟩
/-- a plain value into a slot -/
theorem put0 (v : Sv M K os sa H0 G0 Gb G H σ s o ad) {i : Nat} {w : V} {d : D} (hi : o.lookup i = none) (r : Rep M K G w d) : Sv M K os sa H0 G0 Gb G H (σ.set i (some w)) (s.set i (some d)) o ad := by
  refine ⟨by rw [List.length_set, List.length_set, v.len], v.sub, v.ext, v.al, v.sf, v.gro, v.new, v.own, v.non, v.fr, fun j p hp => ?_, v.dis, fun j d' hd => ?_⟩
  · rw [selfC_set hi]; exact v.nG j p hp
  · rcases get_set hd with ⟨rfl, e, hl⟩ | ⟨hij, e⟩
    · cases e
      exact ⟨w, by rw [List.getElem?_set_self (by rw [← v.len]; exact hl)], .inl ⟨hi, r⟩⟩
    · rw [List.getElem?_set_ne hij]
      exact v.at_ j d' e
/-- an own list into a slot -/
theorem put1 (v : Sv M K os sa H0 G0 Gb G H σ s o ad) {i : Nat} {w : V} {d : D} {A : List Addr} (hi : o.lookup i = none) (ho : i ∈ os) (hA : ∀ p ∈ A, H0 p = none) (nA : ∀ i p, p ∈ A → p ∉ ad i) (ow : OwnR M K H G 1 A w d) : ∃ ad2, Sv M K os sa H0 G0 Gb G H (σ.set i (some w)) (s.set i (some d)) ((i, 1) :: o) ad2 := by
  obtain ⟨p, vs, ds, eA, ev, ed, h1, h2, h3⟩ := ow
  subst eA ev ed
  have lk : ∀ j, ((i, 1) :: o).lookup j = if j = i then some 1 else o.lookup j := fun j => by
    rw [List.lookup_cons]
    by_cases hj : j = i
    · subst hj; rw [beq_self_eq_true, if_pos rfl]
    · have : (j == i) = false := beq_eq_false_iff_ne.mpr hj
      rw [this, if_neg hj]
  have sc : ∀ c, selfC s o = some c → i ≠ 0 ∧ selfC (s.set i (some (.lst ds))) ((i, 1) :: o) = some c := fun c hc => by
    have h0 : i ≠ 0 := fun e => by
      subst e
      obtain ⟨z, q⟩ := selfC_some hc
      rw [hi] at q; cases q
    exact ⟨h0, (selfC_congr (List.getElem?_set_ne h0) (by rw [lk 0, if_neg (Ne.symm h0)])).trans hc⟩
  have e0 := v.non i hi
  refine ⟨fun j => if j = i then [p] else ad j, ⟨by rw [List.length_set, List.length_set, v.len], v.sub, v.ext, v.al, v.sf, v.gro, v.new, fun j k h => ?_, fun j h => ?_, fun j q hq => ?_, fun j q hq => ?_, fun a b q hab ha hb => ?_, fun j d' hd => ?_⟩⟩
  · rw [lk] at h
    by_cases hj : j = i
    · subst hj; exact ho
    · rw [if_neg hj] at h; exact v.own j k h
  · rw [lk] at h
    by_cases hj : j = i
    · subst hj; rw [if_pos rfl] at h; cases h
    · rw [if_neg hj] at h ⊢; exact v.non j h
  · by_cases hj : j = i
    · subst hj; rw [if_pos rfl] at hq
      exact .inl (hA q hq)
    · rw [if_neg hj] at hq; exact v.fr j q hq
  · by_cases hj : j = i
    · subst hj; rw [if_pos rfl] at hq
      have : q = p := by simpa using hq
      subst this
      exact ⟨h2, .inl ⟨_, h1⟩⟩
    · rw [if_neg hj] at hq
      obtain ⟨g1, g2⟩ := v.nG j q hq
      refine ⟨g1, ?_⟩
      rcases g2 with g2 | ⟨c, dx, fs, e1, e2, e3⟩
      · exact .inl g2
      · exact .inr ⟨c, dx, fs, e1, e2, (sc c e3).2⟩
  · by_cases h1' : a = i
    · subst h1'
      rw [if_pos rfl] at ha
      rw [if_neg (Ne.symm hab)] at hb
      exact nA b q ha hb
    · rw [if_neg h1'] at ha
      by_cases h2' : b = i
      · subst h2'; rw [if_pos rfl] at hb
        exact nA a q hb ha
      · rw [if_neg h2'] at hb
        exact v.dis a b q hab ha hb
  · rcases get_set hd with ⟨rfl, e, hl⟩ | ⟨hij, e⟩
    · cases e
      refine ⟨.ref p, by rw [List.getElem?_set_self (by rw [← v.len]; exact hl)], .inr ⟨1, by rw [lk, if_pos rfl], ?_⟩⟩
      rw [if_pos rfl]
      exact ⟨p, vs, ds, rfl, rfl, rfl, h1, h2, h3⟩
    · rw [List.getElem?_set_ne hij, lk, if_neg (Ne.symm hij), if_neg (Ne.symm hij)]
      exact v.at_ j d' e
theorem dropped (v : Sv M K os sa H0 G0 Gb G H σ s o ad) (fz : List Nat) : ∃ G2 ad2, Sub G G2 ∧ Sv M K os sa H0 G0 Gb G2 H σ s (dropO fz o) ad2 ∧ ∀ i p, p ∈ ad2 i → p ∈ ad i := by
  classical
  exact ⟨_, _, v.subF, v.freeze fz, fun i p hp => by
    by_cases hi : i ∈ fz
    · rw [if_pos hi] at hp; cases hp
    · rw [if_neg hi] at hp; exact hp⟩
theorem droppedK (v : Sv M K os sa H0 G0 Gb G H σ s o ad) (fz : List Nat) {k : Nat} {A : List Addr} {w : V} {d : D} (nA : ∀ i p, p ∈ A → p ∉ ad i) (ow : OwnR M K H G k A w d) : ∃ G2 ad2, Sub G G2 ∧ Sv M K os sa H0 G0 Gb G2 H σ s (dropO fz o) ad2 ∧ (∀ i p, p ∈ A → p ∉ ad2 i) ∧ OwnR M K H G2 k A w d := by
  classical
  refine ⟨_, _, v.subF, v.freeze fz, fun i p hA hp => ?_, ow.grow (fun _ _ _ e => e) v.subF fun p hp e => ?_⟩
  · by_cases hi : i ∈ fz
    · rw [if_pos hi] at hp; cases hp
    · rw [if_neg hi] at hp; exact nA i p hA hp
  · rw [fzG_out fun ⟨i, _, h⟩ => nA i p hp h]; exact e
/-- slots forgotten -/
theorem wiped (v : Sv M K os sa H0 G0 Gb G H σ s o ad) (fg : List Nat) : ∃ G2 ad2, Sub G G2 ∧ Sv M K os sa H0 G0 Gb G2 H σ (wp fg s) (dropO fg o) ad2 := by
  obtain ⟨G2, ad2, h1, v2, _⟩ := v.dropped fg
  refine ⟨G2, ad2, h1, ⟨by rw [wp_length, v2.len], v2.sub, v2.ext, v2.al, v2.sf, v2.gro, v2.new, v2.own, v2.non, v2.fr, fun i p hp => ?_, v2.dis, fun i d hd => ?_⟩⟩
  · obtain ⟨g1, g2⟩ := v2.nG i p hp
    refine ⟨g1, ?_⟩
    rcases g2 with g2 | ⟨c, dx, fs, e1, e2, e3⟩
    · exact .inl g2
    · refine .inr ⟨c, dx, fs, e1, e2, ?_⟩
      subst e1
      have h0 : 0 ∉ fg := fun hm => by
        obtain ⟨z, q⟩ := selfC_some e3
        rw [lk_drop, if_pos hm] at q
        cases q
      exact (selfC_congr (by rw [wp_get, if_neg h0]) rfl).trans e3
  · rw [wp_get] at hd
    split at hd
    · split at hd <;> cases hd
    · exact v2.at_ i d hd
theorem asg_get {t : Tg} : ∀ {d : D} {s s' : Env}, asg t d s = .ok s' → s'.length = s.length ∧ ∀ i, i ∉ tgS t → s'[i]? = s[i]? := by
  induction t with
  | nm i =>
    intro d s s' h
    cases h
    exact ⟨List.length_set .., fun j hj => List.getElem?_set_ne fun e => hj (by simp [tgS, e])⟩
  | nil =>
    intro d s s' h
    cases d <;> try (cases h; done)
    rename_i ds
    cases ds with
    | nil => cases h; exact ⟨rfl, fun _ _ => rfl⟩
    | cons _ _ => cases h
  | cons t ts ih1 ih2 =>
    intro d s s' h
    cases d <;> try (cases h; done)
    rename_i ds
    cases ds with
    | nil => cases h
    | cons d ds =>
      obtain ⟨s1, h1, h2⟩ := asg_cons h
      obtain ⟨l1, g1⟩ := ih1 h1
      obtain ⟨l2, g2⟩ := ih2 h2
      exact ⟨l2.trans l1, fun i hi => by
        have hi' : i ∉ tgS t ++ tgS ts := hi
        rw [g2 i fun z => hi' (List.mem_append_right _ z), g1 i fun z => hi' (List.mem_append_left _ z)]⟩
/-- behind a store into a target whose slots are not own -/
theorem stored (v : Sv M K os sa H0 G0 Gb G H σ s o ad) {t : Tg} {d : D} {s' : Env} {σ' : L2.St} (hn : ∀ i ∈ tgS t, o.lookup i = none) (ha : asg t d s = .ok s') (ar : AsgRel M K t d G σ σ') : Sv M K os sa H0 G0 Gb G H σ' s' o ad := by
  obtain ⟨l1, g1⟩ := asg_get ha
  have vw := ar.vw [] s s' ha ⟨v.len, fun i hi => by cases hi⟩
  refine ⟨vw.len, v.sub, v.ext, v.al, v.sf, v.gro, v.new, v.own, v.non, v.fr, fun j p hp => ?_, v.dis, fun j d' hd => ?_⟩
  · obtain ⟨q1, q2⟩ := v.nG j p hp
    refine ⟨q1, ?_⟩
    rcases q2 with q2 | ⟨c, dx, fs, e1, e2, e3⟩
    · exact .inl q2
    · refine .inr ⟨c, dx, fs, e1, e2, ?_⟩
      subst e1
      have h0 : 0 ∉ tgS t := fun hm => by
        obtain ⟨z, q⟩ := selfC_some e3
        rw [hn 0 hm] at q
        cases q
      exact (selfC_congr (g1 0 h0) rfl).trans e3
  · by_cases hj : j ∈ tgS t
    · obtain ⟨w, h1, h2⟩ := vw.at_ j (by simpa using hj) d' hd
      exact ⟨w, h1, .inl ⟨hn j hj, h2⟩⟩
    · rw [g1 j hj] at hd
      rw [ar.out j hj]
      exact v.at_ j d' hd
/-- an own list, found -/
theorem own1 (v : Sv M K os sa H0 G0 Gb G H σ s o ad) {x : Nat} {ds : List D} (h : ownL 1 x s o = .ok ds) : ∃ p vs, σ[x]? = some (some (.ref p)) ∧ ad x = [p] ∧ H p = some (.lst vs) ∧ G p = none ∧ Reps M K G vs ds ∧ o.lookup x = some 1 ∧ s[x]? = some (some (.lst ds)) := by
  unfold ownL at h
  split at h
  · rename_i j ds' e1 e2
    split at h
    · cases h
      rename_i ej
      subst ej
      obtain ⟨w, hw, q⟩ := v.at_ x _ e2
      rcases q with ⟨q, _⟩ | ⟨k, hk2, ow⟩
      · rw [e1] at q; cases q
      rw [e1] at hk2
      cases hk2
      obtain ⟨p, vs, ds2, eA, ev, ed, h1, h2, h3⟩ := ow
      subst ev
      cases ed
      exact ⟨p, vs, hw, eA, h1, h2, h3, e1, e2⟩
    · cases h
  · cases h
/-- an own list changes -/
theorem upd1 (v : Sv M K os sa H0 G0 Gb G H σ s o ad) {x : Nat} {p : Addr} {vs vs' : List V} {ds ds' : List D} (h1 : σ[x]? = some (some (.ref p))) (h2 : ad x = [p]) (h3 : H p = some (.lst vs)) (h4 : G p = none) (h5 : o.lookup x = some 1) (h6 : s[x]? = some (some (.lst ds))) (r : Reps M K G vs' ds') :
    Sv M K os sa H0 G0 Gb G (upd H p (.lst vs')) σ (s.set x (some (.lst ds'))) o ad := by
  have hp : p ∈ ad x := by rw [h2]; simp
  have fr : ∀ b u, some b ≠ sa → H0 b = some u → b ≠ p := fun b u hb h e => by
    subst e
    rcases v.fr x b hp with q | q
    · rw [q] at h; cases h
    · exact hb q
  refine ⟨by rw [List.length_set, v.len], fun a u e => ?_, fun b u hb h => ?_, fun b u h => ?_, fun a ha => ?_, v.gro, v.new, v.own, v.non, v.fr, fun j q hq => ?_, v.dis, fun j d' hd => ?_⟩
  · rw [upd_ne (ne_of_none e h4)]; exact v.sub _ _ e
  · rw [upd_ne (fr b u hb h)]; exact v.ext b u hb h
  · by_cases hb : b = p
    · subst hb; exact ⟨_, upd_same⟩
    · rw [upd_ne hb]; exact v.al b u h
  · obtain ⟨C, dx, fs, q⟩ := v.sf a ha
    refine ⟨C, dx, fs, ?_⟩
    rw [upd_ne fun e => by subst e; rw [h3] at q; cases q]; exact q
  · obtain ⟨g1, g2⟩ := v.nG j q hq
    refine ⟨g1, ?_⟩
    by_cases e : q = p
    · subst e; exact .inl ⟨_, upd_same⟩
    · rw [upd_ne e]
      rcases g2 with g2 | ⟨c, dx, fs, e1, e2, e3⟩
      · exact .inl g2
      · refine .inr ⟨c, dx, fs, e1, e2, ?_⟩
        subst e1
        by_cases hx : x = 0
        · subst hx
          rw [h2] at hq
          exact absurd (by simpa using hq) e
        · exact (selfC_congr (List.getElem?_set_ne hx) rfl).trans e3
  · rcases get_set hd with ⟨rfl, e, hl⟩ | ⟨hij, e⟩
    · cases e
      exact ⟨_, h1, .inr ⟨1, h5, by rw [h2]; exact ⟨p, vs', ds', rfl, rfl, rfl, upd_same, h4, r⟩⟩⟩
    · obtain ⟨w, hw, q⟩ := v.at_ j d' e
      refine ⟨w, hw, ?_⟩
      rcases q with q | ⟨k, hk, ow⟩
      · exact .inl q
      · exact .inr ⟨k, hk, ow.grow (fun q hq u e => by rw [upd_ne fun z => v.dis x j p hij hp (by rw [← z]; exact hq)]; exact e) (Sub.refl _) fun _ _ e => e⟩
/-- a field of the instance that an __init__ fills -/
theorem updS (v : Sv M K os sa H0 G0 Gb G H σ s o ad) {c k : Nat} {ks : List Nat} {ds : List D} {r : Env} {j : Nat} {w : V} {d : D} (h1 : o.lookup 0 = some j) (h2 : s = some (.obj c ks ds) :: r) (hk9 : k < M.nf) (hw : Rep M K G w d) :
    ∃ a dx fs, σ[0]? = some (some (.ref a)) ∧ H a = some (.ins (M.C K c) dx fs) ∧ M.Nms fs ks ∧ Sv M K os sa H0 G0 Gb G (upd H a (.ins (M.C K c) dx (fs ++ [(M.fd k, w)]))) σ (some (.obj c (ks ++ [k]) (ds ++ [d])) :: r) o ad := by
  subst h2
  obtain ⟨x, hx, q⟩ := v.at_ 0 _ rfl
  rcases q with ⟨q, _⟩ | ⟨k', hk, a, dx, fs, eA, es, ev, h3, h4, h5, h6⟩
  · rw [h1] at q; cases q
  subst ev
  have hp : a ∈ ad 0 := by rw [eA]; simp
  refine ⟨a, dx, fs, hx, h3, h5, ⟨v.len, fun b u e => ?_, fun b u hb h => ?_, fun b u h => ?_, fun b hb => ?_, v.gro, v.new, v.own, v.non, v.fr, fun i q hq => ?_, v.dis, fun i d' hd => ?_⟩⟩
  · rw [upd_ne (ne_of_none e h4)]; exact v.sub _ _ e
  · rw [upd_ne fun e => hb (by rw [e, es])]; exact v.ext b u hb h
  · by_cases hb : b = a
    · subst hb; exact ⟨_, upd_same⟩
    · rw [upd_ne hb]; exact v.al b u h
  · rw [es] at hb
    cases hb
    exact ⟨_, _, _, upd_same⟩
  · obtain ⟨g1, g2⟩ := v.nG i q hq
    refine ⟨g1, ?_⟩
    by_cases e : q = a
    · subst e
      refine .inr ⟨c, dx, _, ?_, upd_same, ?_⟩
      · by_cases hi : i = 0
        · exact hi
        · exact absurd hq (v.dis 0 i q (Ne.symm hi) hp)
      · unfold selfC; rw [h1]; rfl
    · rw [upd_ne e]
      rcases g2 with g2 | ⟨c2, dx2, fs2, e1, e2, e3⟩
      · exact .inl g2
      · subst e1
        rw [eA] at hq
        exact absurd (by simpa using hq) e
  · cases i with
    | zero =>
      have : d' = .obj c (ks ++ [k]) (ds ++ [d]) := by simpa using hd.symm
      subst this
      refine ⟨_, hx, .inr ⟨j, h1, a, dx, _, eA, es, rfl, upd_same, h4, ?_, ?_⟩⟩
      · refine ⟨by rw [List.map_append, List.map_append, h5.1]; rfl, fun k' hk' => ?_⟩
        rcases List.mem_append.mp hk' with z | z
        · exact h5.2 k' z
        · have : k' = k := by simpa using z
          rw [this]; exact hk9
      · rw [List.map_append]; exact h6.append (.cons hw .nil)
    | succ i =>
      obtain ⟨w', hw', q⟩ := v.at_ (i + 1) d' hd
      refine ⟨w', hw', ?_⟩
      rcases q with q | ⟨k, hk, ow⟩
      · exact .inl q
      · exact .inr ⟨k, hk, ow.grow (fun q hq u e => by rw [upd_ne fun z => v.dis 0 (i + 1) a (by omega) hp (by rw [← z]; exact hq)]; exact e) (Sub.refl _) fun _ _ e => e⟩
theorem _root_.Fc.OwnS.off {P : Addr → Prop} {Y : Addr → List D} {k : Nat} {A : List Addr} {w : V} {d : D} (hY : ∀ p, P p → ∃ vs, G p = some (.lst vs) ∧ Reps M K G vs (Y p) ∧ plB (.lst (Y p)) = true) (ow : OwnS M K sa H G k A w d) (hs : ∀ p, P p → subB (.lst (Y p)) d = false) : OwnS M K sa H (rmG G P) k A w d := by
  have rn : ∀ {q : Addr}, G q = none → rmG G P q = none := fun {q} h => by
    by_cases hq : P q
    · exact rmG_in hq
    · rw [rmG_out hq]; exact h
  have own : ∀ {d : D}, OwnR M K H G k A w d → (∀ p, P p → subB (.lst (Y p)) d = false) → OwnR M K H (rmG G P) k A w d := fun {d} ow hs => by
    match k, ow with
    | 0, ⟨h1, r⟩ => exact ⟨h1, r.off hY hs⟩
    | 1, ⟨p, vs, ds, eA, ev, ed, h1, h2, h3⟩ =>
      subst eA ev ed
      exact ⟨p, vs, ds, rfl, rfl, rfl, h1, rn h2, h3.off hY fun p hp => (subB_or (hs p hp)).2⟩
    | k + 2, ⟨p, ps, dss, eA, ev, ed, h1, h2, h3, h4, h5⟩ =>
      subst eA ev ed
      refine ⟨p, ps, dss, rfl, rfl, rfl, h1, rn h2, h3, h4, fun j q ds a b => ?_⟩
      obtain ⟨vs, q1, q2, q3⟩ := h5 j q ds a b
      refine ⟨vs, q1, rn q2, q3.off hY fun p hp => ?_⟩
      have hall : ∀ (l : List (List D)) (j : Nat) (ds : List D), l[j]? = some ds → subBs (.lst (Y p)) (l.map .lst) = false → subBs (.lst (Y p)) ds = false := by
        intro l
        induction l with
        | nil => intro j ds h; cases h
        | cons x l ih =>
          intro j ds h hs
          obtain ⟨s1, s2⟩ := subB_or hs
          cases j with
          | zero => cases h; exact (subB_or s1).2
          | succ j => exact ih j ds h s2
      exact hall dss j ds b (subB_or (hs p hp)).2
  cases d with
  | obj c ks ds =>
    obtain ⟨a, dx, fs, h1, h2, h3, h4, h5, h6, h7⟩ := ow
    exact ⟨a, dx, fs, h1, h2, h3, h4, rn h5, h6, h7.off hY hs⟩
  | _ => exact own ow hs
/-- a list that stays, of which nothing else holds, becomes own -/
theorem thaw (v : Sv M K os sa H0 G0 Gb G H σ s o ad) {x : Nat} {p : Addr} {vs : List V} {ds : List D} (hx : s[x]? = some (some (.lst ds))) (ho : o.lookup x = none) (hxo : x ∈ os) (hσ : σ[x]? = some (some (.ref p))) (hp0 : H0 p = none) (hb : Gb p = none) (hg : G p = some (.lst vs)) (hr : Reps M K G vs ds) (pl : plB (.lst ds) = true) (hs0 : subBs (.lst ds) ds = false)
    (hs : ∀ j d, j ≠ x → s[j]? = some (some d) → subB (.lst ds) d = false) : ∃ G2 ad2, Sv M K os sa H0 G0 Gb G2 H σ s ((x, 1) :: o) ad2 := by
  have hY : ∀ q, q = p → ∃ vs, G q = some (.lst vs) ∧ Reps M K G vs ((fun _ => ds) q) ∧ plB (.lst ((fun _ => ds) q)) = true := fun q e => by subst e; exact ⟨vs, hg, hr, pl⟩
  have lk : ∀ j, ((x, 1) :: o).lookup j = if j = x then some 1 else o.lookup j := fun j => by
    rw [List.lookup_cons]
    by_cases hj : j = x
    · subst hj; rw [beq_self_eq_true, if_pos rfl]
    · have : (j == x) = false := beq_eq_false_iff_ne.mpr hj
      rw [this, if_neg hj]
  have sc : ∀ c, selfC s o = some c → selfC s ((x, 1) :: o) = some c := fun c hc => by
    have h0 : x ≠ 0 := fun e => by
      subst e
      obtain ⟨z, q⟩ := selfC_some hc
      rw [ho] at q; cases q
    exact (selfC_congr rfl (by rw [lk 0, if_neg (Ne.symm h0)])).trans hc
  have e0 := v.non x ho
  have rin : ∀ q, q = p → rmG G (fun q => q = p) q = none := fun q h => rmG_in (P := fun q => q = p) h
  have rout : ∀ q, ¬ q = p → rmG G (fun q => q = p) q = G q := fun q h => rmG_out (P := fun q => q = p) h
  have np : ∀ j, p ∉ ad j := fun j hj => by
    have := (v.nG j p hj).1
    rw [hg] at this; cases this
  refine ⟨rmG G (fun q => q = p), fun j => if j = x then [p] else ad j, ⟨v.len, fun q u h => ?_, v.ext, v.al, v.sf, fun q u h => ?_, fun b u hbs h => ?_, fun j k h => ?_, fun j h => ?_, fun j q hq => ?_, fun j q hq => ?_, fun a b q hab ha hbb => ?_, fun j d' hd => ?_⟩⟩
  · by_cases hq : q = p
    · rw [rin _ hq] at h; cases h
    · rw [rout _ hq] at h; exact v.sub _ _ h
  · by_cases hq : q = p
    · subst hq; rw [hb] at h; cases h
    · rw [rout _ hq]; exact v.gro _ _ h
  · have hq : b ≠ p := fun e => by subst e; rw [hp0] at h; cases h
    rw [rout _ hq]; exact v.new b u hbs h
  · rw [lk] at h
    by_cases hj : j = x
    · subst hj; exact hxo
    · rw [if_neg hj] at h; exact v.own j k h
  · rw [lk] at h
    by_cases hj : j = x
    · subst hj; rw [if_pos rfl] at h; cases h
    · rw [if_neg hj] at h ⊢; exact v.non j h
  · by_cases hj : j = x
    · subst hj; rw [if_pos rfl] at hq
      have : q = p := by simpa using hq
      subst this
      exact .inl hp0
    · rw [if_neg hj] at hq; exact v.fr j q hq
  · by_cases hj : j = x
    · subst hj; rw [if_pos rfl] at hq
      have : q = p := by simpa using hq
      subst this
      exact ⟨rin _ rfl, .inl ⟨_, v.sub _ _ hg⟩⟩
    · rw [if_neg hj] at hq
      obtain ⟨g1, g2⟩ := v.nG j q hq
      refine ⟨?_, ?_⟩
      · by_cases e : q = p
        · exact rin _ e
        · rw [rout _ e]; exact g1
      · rcases g2 with g2 | ⟨c, dx, fs, e1, e2, e3⟩
        · exact .inl g2
        · exact .inr ⟨c, dx, fs, e1, e2, sc c e3⟩
  · by_cases h1' : a = x
    · subst h1'
      rw [if_pos rfl] at ha
      rw [if_neg (Ne.symm hab)] at hbb
      have : q = p := by simpa using ha
      subst this
      exact np b hbb
    · rw [if_neg h1'] at ha
      by_cases h2' : b = x
      · subst h2'; rw [if_pos rfl] at hbb
        have : q = p := by simpa using hbb
        subst this
        exact np a ha
      · rw [if_neg h2'] at hbb
        exact v.dis a b q hab ha hbb
  · by_cases hj : j = x
    · subst hj
      rw [hx] at hd
      cases hd
      refine ⟨.ref p, hσ, .inr ⟨1, by rw [lk, if_pos rfl], ?_⟩⟩
      rw [if_pos rfl]
      exact ⟨p, vs, ds, rfl, rfl, rfl, v.sub _ _ hg, rin _ rfl, hr.off hY fun _ _ => hs0⟩
    · obtain ⟨w, hw, h⟩ := v.at_ j d' hd
      refine ⟨w, hw, ?_⟩
      rw [lk, if_neg hj, if_neg hj]
      have hsj := hs j d' hj hd
      rcases h with ⟨h1, r⟩ | ⟨k, hk, ow⟩
      · exact .inl ⟨h1, r.off hY fun _ _ => hsj⟩
      · exact .inr ⟨k, hk, ow.off hY fun _ _ => hsj⟩
theorem _root_.Fc.AsgRel.mono {t : Tg} {d : D} {σ' : L2.St} (ar : AsgRel M K t d G σ σ') (e : Sub G G') : AsgRel M K t d G' σ σ' where
  len := ar.len
  out := ar.out
  vw := fun ms s s' ha hv => by
    obtain ⟨l1, g1⟩ := asg_get ha
    have v0 := ar.vw [] s s' ha ⟨hv.len, fun i hi => by cases hi⟩
    refine ⟨v0.len, fun i hi d' hd => ?_⟩
    by_cases hj : i ∈ tgS t
    · obtain ⟨w, h1, h2⟩ := v0.at_ i (by simpa using hj) d' hd
      exact ⟨w, h1, h2.mono e⟩
    · rw [g1 i hj] at hd
      rw [ar.out i hj]
      exact hv.at_ i ((List.mem_append.mp hi).resolve_right hj) d' hd
end Sv
end
end Fc

set_option Elab.async false
set_option linter.all false
set_option maxRecDepth 100000
set_option maxHeartbeats 4000000
namespace Fc
open PySem PySem.Spec PyProof.Rows L2
/-! ### a statement of the text against one of ours -/
def cov (ms fz os : List Nat) : Bool := ms.all fun i => !os.contains i || fz.contains i
def isLc : Expr → Bool
  | .ListComp .. => true
  | _ => false
def isTup : Expr → Bool
  | .Tuple .. => true
  | _ => false
/-- a comprehension's value, stored at once -/
def lcB (sc : Scope) (y : Str) (py p : Pos) (scope : Scope) : Bool := sc.names.lookup y == some .local && (py.line == p.line && !(scope.names.any fun (n, k) => n == y && (k == .local || k == .cell)))
section
variable (M : Nm) (N : List Str) (os : List Nat) (rk : Nat) (sc : Scope)
def nmX (x : Nat) : Expr → Bool
  | .Name y _ => decide (N[x]? = some y) && (vis sc y && nmOk y)
  | _ => false
def ixX (x : Nat) (a : E) : Expr → Bool
  | .Subscript o i _ => nmX N sc x o && chkE M N sc a i
  | _ => false
mutual
def chkS : S → Stmt → Bool
  | .set i k fz e, st => (match st with
    | .Assign [.Name y py] e' _ => decide (N[i]? = some y) && (loc sc y && (cov (mnE e) fz os && ((Nat.beq k 0 || os.contains i) && chkE M N sc e e')))
    | _ => false)
  | .unp t fz e, st => (match st with
    | .Assign [.Tuple es k p] e' _ => chkTg N sc t (.Tuple es k p) && (cov (mnE e) fz os && (!isTup e' && chkE M N sc e e'))
    | _ => false)
  | .unpT t fz e ms x, st => (match st with
    | .Assign [.Tuple es k p] e' _ => (os.contains x && ((tgS t).contains x && (mnE e).all fun i => ms.contains i)) && (chkTg N sc t (.Tuple es k p) && (cov (mnE e) fz os && (!isTup e' && chkE M N sc e e')))
    | _ => false)
  | .par _ _ _ _ _, _ => false
  | .swap x a b, st => (match st with
    | .Assign [.Tuple [t1, t2] _ _] (.Tuple [v1, v2] _ _) _ => ixX M N sc x a t1 && (ixX M N sc x b t2 && (ixX M N sc x b v1 && (ixX M N sc x a v2 && (!(mnE a).contains x && !(mnE b).contains x))))
    | _ => false)
  | .setix x fz i e, st => (match st with
    | .Assign [.Subscript o i' _] e' _ => nmX N sc x o && (chkE M N sc i i' && (cov (mnE e) fz os && chkE M N sc e e'))
    | _ => false)
  | .setix2 _ _ _ _ _, _ => false
  | .app x fz e, st => (match st with
    | .Expr (.Call (.Attribute o m ap) [e'] [] cp) _ => nmX N sc x o && (decide (m = "append") && ((ap.endLine == cp.line) && (cov (mnE e) fz os && chkE M N sc e e')))
    | _ => false)
  | .setf k fz e, st => (match st with
    | .Assign [.Attribute o f _] e' _ => nmX N sc 0 o && (decide (f = M.fd k) && (Nat.blt k M.nf && (cov (mnE e) fz os && chkE M N sc e e')))
    | _ => false)
  | .ret k e, st => (match st with
    | .Return (some e') _ => decide (k = rk) && chkE M N sc e e'
    | _ => false)
  | .retN, st => (match st with
    | .Return none _ => decide (rk = 0)
    | _ => false)
  | .if_ t a b, st => (match st with
    | .If t' a' b' _ => chkE M N sc t t' && (chkSs a a' && chkSs b b')
    | _ => false)
  | .for_ t it fz fg b, st => (match st with
    | .For t' it' b' [] _ => chkI M N sc it it' && (tupI it t' && (chkTg N sc t t' && (cov (mnI it) fz os && chkSs b b')))
    | _ => false)
  | .whl t fg b, st => (match st with
    | .While t' b' [] _ => chkE M N sc t t' && chkSs b b'
    | _ => false)
  | .brk, st => (match st with
    | .Break _ => true
    | _ => false)
  | .cnt, st => (match st with
    | .Continue _ => true
    | _ => false)
  | .pass, st => (match st with
    | .Pass _ => true
    | _ => false)
  | .rais _ _, st => true
  | .exp e, st => (match st with
    | .Expr e' _ => !isLc e' && chkE M N sc e e'
    | _ => false)
  | .trye _ _ _ _, st => true
def chkSs : Ss → List Stmt → Bool
  | .nil, l => (match l with
    | [] => true
    | _ => false)
  | .cons s ss, l => (match l with
    | st :: r => chkS s st && chkSs ss r
    | _ => false)
end
end
/-! ### readings -/
section
variable {T : Tab} {M : Nm} {n : Nat} {W : XK} {X : Cx} {K : PySem.W.Frag} {os fz : List Nat} {sa : Option Addr} {rk : Nat} {H0 G0 Gb G H H' G' : Hp} {σ : L2.St} {s : Env} {o : Ow} {ad : Nat → List Addr}
theorem cov_ok {ms fz os : List Nat} (h : cov ms fz os = true) : ∀ i ∈ ms, i ∈ os → i ∈ fz := fun i hi ho => by
  have := List.all_eq_true.mp h i hi
  rw [Bool.or_eq_true] at this
  rcases this with q | q
  · simp [ho] at q
  · simpa using q
structure GS (T : Tab) (M : Nm) (n : Nat) (W : XK) (X : Cx) : Prop extends Good T M n W X where
  hp : PassesOwn (model X.prog X.w) X.A X.env X.xe
  la : LocAll X X.env.scope
  fk : X.env.scope.kind = .function
/-- a value that leaves -/
def RetW (M : Nm) (K : PySem.W.Frag) (sa : Option Addr) (H0 G0 Gb : Hp) (rk : Nat) (Q : VK) (d : D) : Prop := ∀ v H' G' A, (∀ b u, some b ≠ sa → H0 b = some u → H' b = some u) → Sub Gb G' → Sub G' H' → (∀ b u, some b ≠ sa → H0 b = some u → G' b = G0 b) → (∀ p ∈ A, H0 p = none) → OwnR M K H' G' rk A v d → Q v H'
def OutS (M : Nm) (K : PySem.W.Frag) (W : XK) (os : List Nat) (sa : Option Addr) (H0 G0 Gb : Hp) (rk : Nat) (D : Ends) : R Fl → Prop
  | .ok (.nx s o) => ∀ σ H G ad, Sv M K os sa H0 G0 Gb G H σ s o ad → D.nx σ H
  | .ok (.bk s o) => ∀ σ H G ad, Sv M K os sa H0 G0 Gb G H σ s o ad → D.bk σ H
  | .ok (.ct s o) => ∀ σ H G ad, Sv M K os sa H0 G0 Gb G H σ s o ad → D.ct σ H
  | .ok (.rt d) => RetW M K sa H0 G0 Gb rk D.rt d
  | .ex c ds => ExW M K W sa H0 G0 Gb c ds
  | .no => False
def rS (T : Tab) (M : Nm) (n : Nat) (W : XK) (K : PySem.W.Frag) (os : List Nat) (sa : Option Addr) (H0 G0 : Hp) (rk : Nat) (st : S) : TS := fun D σ H => ∃ Gb G s o ad, Sv M K os sa H0 G0 Gb G H σ s o ad ∧ OutS M K W os sa H0 G0 Gb rk D (exS T (call T n) st s o)
def rSs (T : Tab) (M : Nm) (n : Nat) (W : XK) (K : PySem.W.Frag) (os : List Nat) (sa : Option Addr) (H0 G0 : Hp) (rk : Nat) (ss : Ss) : TS := fun D σ H => ∃ Gb G s o ad, Sv M K os sa H0 G0 Gb G H σ s o ad ∧ OutS M K W os sa H0 G0 Gb rk D (exSs T (call T n) ss s o)
theorem PS.imp {st : Stmt} {t t' : TS} (h : PS X st t) (i : ∀ D σ H, t' D σ H → t D σ H) : PS X st t' := ⟨fun pins s σ H D I q => h.run pins s σ H D I (i _ _ _ q)⟩
theorem PSs.imp {st : List Stmt} {t t' : TS} (h : PSs X st t) (i : ∀ D σ H, t' D σ H → t D σ H) : PSs X st t' := ⟨fun pins s σ H D I q => h.run pins s σ H D I (i _ _ _ q)⟩
/-! ### small facts -/
theorem sw_plain {e : Expr} {t : Expr} {l : Nat} {env : PySem.Env} (h : plainX e = true) (hl : isLc e = false) : swapsWith e (some t) l env = pure false := by
  cases e <;> first | rfl | (cases h; done) | (cases hl; done)
theorem sw_plainN {e : Expr} {l : Nat} {env : PySem.Env} (h : plainX e = true) (hl : isLc e = false) : swapsWith e none l env = pure false := by
  cases e <;> first | rfl | (cases h; done) | (cases hl; done)
theorem sw_other {e t : Expr} {l : Nat} {env : PySem.Env} (h : plainX e = true) (ht : ∀ y p, t ≠ .Name y p) : swapsWith e (some t) l env = pure false := by
  cases t <;> first
    | exact absurd rfl (ht _ _)
    | (cases e <;> first | rfl | (cases h; done))
theorem sws_none {t e : Expr} {env : PySem.Env} (h : isTup e = false) : swappedStores [t] e env = pure none := by
  cases t <;> cases e <;> first | rfl | (cases h; done)
theorem sws_none1 {t e : Expr} {env : PySem.Env} (h : isTup t = false) (hl : ∀ ts p, t ≠ .List ts p) : swappedStores [t] e env = pure none := by
  cases t <;> first
    | exact absurd rfl (hl _ _)
    | (cases e <;> first | rfl | (cases h; done))
theorem sws_sub {o1 i1 o2 i2 v1 v2 : Expr} {p1 p2 p3 p4 : Pos} {k1 k2 : Nat} {env : PySem.Env} (h1 : plainX v1 = true) (h2 : plainX v2 = true) : swappedStores [.Tuple [.Subscript o1 i1 p1, .Subscript o2 i2 p2] k1 p3] (.Tuple [v1, v2] k2 p4) env = pure none := by
  unfold swappedStores
  have : ([v1, v2].any fun | .Starred .. => true | _ => false) = false := by
    cases v1 <;> first | (cases h1; done) | (cases v2 <;> first | (cases h2; done) | rfl)
  simp only [this]
  by_cases hb : (env.blockKind != .function) = true
  · simp [hb]
  · simp [hb]
theorem nmX_ok {N : List Str} {sc : Scope} {x : Nat} {e : Expr} (h : nmX N sc x e = true) : ∃ y p, e = .Name y p ∧ N[x]? = some y ∧ vis sc y = true ∧ nmOk y = true := by
  cases e <;> first | (cases h; done) | skip
  obtain ⟨h1, h2⟩ := bA h
  obtain ⟨h3, h4⟩ := bA h2
  exact ⟨_, _, rfl, of_decide_eq_true h1, h3, h4⟩
theorem pe_nm {x : Nat} {y : Str} {p : Pos} (h1 : X.N[x]? = some y) (h2 : vis X.env.scope y = true) (h3 : nmOk y = true) : PE X (.Name y p) (tVar x) := pe_var h1 (vis_ok h2) (nm_ok h3).1 (nm_ok h3).2
theorem lk_fzO {e : E} {d : D} {x k : Nat} (h : (fzO T fz e d s o).lookup x = some k) : o.lookup x = some k := by
  unfold fzO at h
  split at h
  · exact h
  · rw [lk_drop] at h
    split at h
    · cases h
    · exact h
theorem fzG_nil : fzG H G [] ad = G := funext fun p => fzG_out fun ⟨i, hi, _⟩ => by cases hi
theorem unG_nil : unG G [] ad = G := funext fun p => unG_out fun ⟨i, hi, _⟩ => by cases hi
theorem Sv.grown (v : Sv M K os sa H0 G0 Gb G H σ s o ad) (g : Grow H G H' G') : Sv M K os sa H0 G0 Gb G' H' σ s o ad := by
  have g' : Grow H (fzG H G [] ad) H' G' := by rw [fzG_nil]; exact g
  have := v.after g'
  rw [unG_nil] at this
  exact this
theorem Sv.ret0 (v : Sv M K os sa H0 G0 Gb G H σ s o ad) {Q : VK} {w : V} {d : D} (h : RetW M K sa H0 G0 Gb 0 Q d) (r : Rep M K G w d) : Q w H :=
  h w H G [] v.ext v.gro v.sub v.new (by simp) ⟨rfl, r⟩
theorem sw_lc {elt : Expr} {gs : List Comprehension} {scope : Scope} {pos py : Pos} {y : Str} {l : Nat} {env : PySem.Env} (hk : env.scope.kind = .function) : swapsWith (.ListComp elt gs scope pos) (some (.Name y py)) l env = pure (lcB env.scope y py pos scope) := by
  have hb : env.blockKind = .function := by unfold Env.blockKind; rw [hk]; rfl
  unfold swapsWith
  show pure (env.blockKind == .function && env.kindOf y == some .local && py.line == pos.line && !(scope.names.any fun (n, k) => n == y && (k == .local || k == .cell))) = _
  rw [hb]
  unfold lcB
  have : (ScopeKind.function == ScopeKind.function) = true := rfl
  rw [this, Bool.true_and, Bool.and_assoc]
  rfl
theorem kk_lc {vs : List Nat} {t : Tg} {it : It} {c : Eo} {e : E} : kk T (.lc vs t it c e) = 1 := by
  have : frk T 1 (.lc vs t it c e) = 1 + frk T 0 e := rfl
  unfold kk
  rw [this, if_neg (by omega)]
/-- the value of an assignment to a name -/
theorem ps_setX (g : GS T M n W X) {i : Nat} {y : Str} {py pos : Pos} {a : E} {e : Expr} (hi : X.N[i]? = some y) (hy : loc X.env.scope y = true) (h : chkE M X.N X.env.scope a e = true) :
    PS X (.Assign [.Name y py] e pos) (tAsg (tEK T (call T n) M X.K W (kk T a) a) (gName i)) := by
  by_cases hc : isLc e = true
  case neg =>
    obtain ⟨l1, l2⟩ := g.la y hy
    exact ps_set g.nd hi l1 (pkv g.toGood a e h) (sw_plain (chkE_plain h) (by simpa using hc)) l2
  · cases e <;> first | (cases hc; done) | skip
    rename_i elt gens scope p
    have hsb := sw_lc (elt := elt) (gs := gens) (scope := scope) (l := pos.line) (y := y) (pos := p) (py := py) g.fk
    by_cases hb : lcB X.env.scope y py p scope = true
    case neg =>
      obtain ⟨l1, l2⟩ := g.la y hy
      rw [show lcB X.env.scope y py p scope = false by simpa using hb] at hsb
      exact ps_set g.nd hi l1 (pkv g.toGood a _ h) hsb l2
    have hsw := hsb
    rw [hb] at hsw
    have hyl : X.env.scope.names.lookup y = some .local := eq_of_beq (bA hb).1
    cases a <;> first | (cases h; done) | skip
    · rename_i vs t it c el
      obtain ⟨el', t', it', ifs, scope', p', e', q1, q2, q3, q4, q5, q6, q7, q8⟩ := chk_lc h
      cases e'
      have pi := sI it g.toGood t' it' q4 q3
      have key : ∀ (s : Shared) (H : Hp) (C : Addr) (cl : List (Str × Addr)) (fp : List Addr), PTs (X.blk s H scope (compEnvC scope cl C X.env) fp) ifs (tC T (call T n) M X.K c) := fun s H C cl fp => by
        rcases q7 with ⟨rfl, rfl⟩ | ⟨x, a, rfl, rfl, q7⟩
        · exact pts_nil
        · rcases sO (.some a) (g.toGood.blk s H scope (compEnvC scope cl C X.env) fp) (some x) q7 with ⟨z, _⟩ | ⟨a2, e2, z1, z2, se⟩
          · cases z
          · cases z1; cases z2
            exact pts_one se.pt
      refine PS.imp (ps_setLc (te := tE T (call T n) M X.K Wf el) (g := tTg M X.K t) g.calm g.nd hi hyl hsw pi (blkOk_by q1) (fun s H C cl fp => sG (X := X.blk s H scope (compEnvC scope cl C X.env) fp) g.calm g.nd locAll_blk t t' q5) key (fun s H C cl fp => (sE el (g.toGood.blk s H scope (compEnvC scope cl C X.env) fp) _ q8).pe) (fun x => folded_plain (chkI_plain q4))) fun D σ H h => ?_
      rw [kk_lc] at h
      have h : tEK T (call T n) M X.K W 1 (.lc vs t it c el) σ H fun x H1 => gName i x σ H1 D.nx := h
      obtain ⟨G, st, sg, hv, ho⟩ := h
      rw [q2]
      exact lc_reading q6 sg hv ho
    · rename_i vs vs1 t it t1 it1 el
      obtain ⟨el', t', it', t1', it1', scope', p', e', q1, q2, q2b, q3, q3b, q4, q5, q6, q7, q8, q9, q10⟩ := chk_lc2 h
      cases e'
      have pi := sI it g.toGood t' it' q4 q3
      refine PS.imp (ps_setLc2 (te := tE T (call T n) M X.K Wf el) (g := tTg M X.K t) (g1 := tTg M X.K t1) (wi1 := tI T (call T n) M X.K Wf it1) g.calm g.nd hi hyl hsw pi (blkOk_by q1) (fun i hi => by rw [q2]; exact q2b i hi) (fun s H C cl fp => sG (X := X.blk s H scope (compEnvC scope cl C X.env) fp) g.calm g.nd locAll_blk t t' q5) (fun s H C cl fp => pts_nil)
        (fun s H C cl fp => sI it1 (g.toGood.blk s H scope (compEnvC scope cl C X.env) fp) t1' it1' q7 q3b) (fun s H C cl fp => sG (X := X.blk s H scope (compEnvC scope cl C X.env) fp) g.calm g.nd locAll_blk t1 t1' q8) (fun s H C cl fp => pts_nil)
        (fun s H C cl fp => (sE el (g.toGood.blk s H scope (compEnvC scope cl C X.env) fp) _ q10).pe) (fun x => folded_plain (chkI_plain q4)) (fun env x => folded_plain (chkI_plain q7))) fun D σ H h => ?_
      have h : tEK T (call T n) M X.K W 1 (.lc2 vs vs1 t it t1 it1 el) σ H fun x H1 => gName i x σ H1 D.nx := h
      obtain ⟨G, st, sg, hv, ho⟩ := h
      rw [q2]
      exact lc2_reading q6 q9 sg hv ho
end
end Fc

set_option Elab.async false
set_option linter.all false
set_option maxRecDepth 100000
set_option maxHeartbeats 4000000
namespace Fc
open PySem PySem.Spec PyProof.Rows L2
section
variable {T : Tab} {M : Nm} {n : Nat} {W : XK} {X : Cx} {os fz : List Nat} {sa : Option Addr} {rk : Nat} {H0 G0 Gb G H H' G' : Hp} {σ : L2.St} {s : Env} {o : Ow} {ad : Nat → List Addr}
/-! ### statements -/
theorem sub_ha {op i : Expr} {p : Pos} {env : PySem.Env} (h : plainX i = true) : ∀ v, assign (.Subscript op i p) env v = (do
      let ov ← holding [v] (eval op env)
      let iv ← holding [v, ov] (eval i env)
      standAt p
      holding [v, ov, iv] (setItem ov iv v)
      release [v, ov, iv] []) := by
  intro v
  cases i <;> first | rfl | (cases h; done)
theorem OwnR.lst {M : Nm} {K : PySem.W.Frag} {k : Nat} {A : List Addr} {w : V} {d : D} (ow : OwnR M K H G k A w d) : ∀ p ∈ A, ∃ vs, H p = some (.lst vs) := by
  match k, ow with
  | 0, ⟨h, _⟩ => intro p hp; rw [h] at hp; cases hp
  | 1, ⟨p, vs, ds, eA, ev, ed, h1, h2, h3⟩ =>
    subst eA
    intro q hq
    have : q = p := by simpa using hq
    rw [this]; exact ⟨_, h1⟩
  | k + 2, ⟨p, ps, dss, eA, ev, ed, h1, h2, h3, h4, h5⟩ =>
    subst eA
    intro q hq
    rcases List.mem_cons.mp hq with e | hq
    · rw [e]; exact ⟨_, h1⟩
    · obtain ⟨j, hj, e⟩ := List.getElem_of_mem hq
      have a1 : ps[j]? = some q := by rw [← e]; exact List.getElem?_eq_getElem hj
      have a2 : dss[j]? = some dss[j] := List.getElem?_eq_getElem (by omega)
      obtain ⟨vs, h, _⟩ := h5 j q _ a1 a2
      exact ⟨vs, h⟩
theorem st_set (g : GS T M n W X) {i k : Nat} {fz : List Nat} {e : E} {y : Str} {py pos : Pos} {e' : Expr} (hi : X.N[i]? = some y) (hy : loc X.env.scope y = true) (hc : cov (mnE e) fz os = true) (hk : k = 0 ∨ i ∈ os) (h : chkE M X.N X.env.scope e e' = true) :
    PS X (.Assign [.Name y py] e' pos) (rS T M n W X.K os sa H0 G0 rk (.set i k fz e)) := by
  refine PS.imp (ps_setX g hi hy h) fun D σ H ⟨Gb, G, s, o, ad, v, ho⟩ => ?_
  have e0 : exS T (call T n) (.set i k fz e) s o = if Nat.ble k (frk T k e) && Nat.ble k 1 then (evE T (call T n) e s >>= fun d => .ok (.nx (s.set i (some d)) (setO i k (fzO T fz e d s o)))) else .no := rfl
  rw [e0] at ho
  split at ho
  case isFalse => exact ho.elim
  rename_i hkk
  obtain ⟨hk1, hk2⟩ := bA hkk
  refine v.rd g.ev (cov_ok hc) ?_
  cases q : evE T (call T n) e s with
  | no => rw [q] at ho; exact ho
  | ex c ds => rw [q] at ho; exact ho
  | ok d =>
    rw [q] at ho
    have ho : OutS M X.K W os sa H0 G0 Gb rk D (.ok (.nx (s.set i (some d)) (setO i k (fzO T fz e d s o)))) := ho
    intro w H' G2 ad2 A v2 hA nA ow
    show D.nx (σ.set i (some w)) H'
    obtain ⟨G3, ad3, s3, v3, nA3, ow3⟩ := v2.droppedK [i] nA ow
    have hn : (dropO [i] (fzO T fz e d s o)).lookup i = none := by rw [lk_drop, if_pos (by simp)]
    have hk3 := Nat.le_of_ble_eq_true hk2
    by_cases hk0 : k = 0
    · subst hk0
      obtain ⟨G4, s4, v4, r4⟩ := v3.absorb hA nA3 ow3
      exact ho _ _ _ _ (v4.put0 hn r4)
    · have k1 : k = 1 := by omega
      subst k1
      have hf : 1 ≤ frk T 1 e := Nat.le_of_ble_eq_true hk1
      have hkk : kk T e = 1 := by unfold kk; rw [if_neg (by omega)]
      rw [hkk] at ow3
      obtain ⟨ad4, v4⟩ := v3.put1 hn (hk.resolve_left (by omega)) hA nA3 ow3
      exact ho _ _ _ _ v4
theorem st_unp (g : GS T M n W X) {t : Tg} {fz : List Nat} {e : E} {es : List Expr} {k : Nat} {p pos : Pos} {e' : Expr} (ht : chkTg X.N X.env.scope t (.Tuple es k p) = true) (hc : cov (mnE e) fz os = true) (htup : isTup e' = false) (h : chkE M X.N X.env.scope e e' = true) :
    PS X (.Assign [.Tuple es k p] e' pos) (rS T M n W X.K os sa H0 G0 rk (.unp t fz e)) := by
  refine PS.imp (ps_asg (pkv g.toGood e e' h) (sG (M := M) g.calm g.nd g.la t (.Tuple es k p) ht) (sw_other (t := .Tuple es k p) (l := pos.line) (env := X.env) (chkE_plain h) (by intro _ _ z; cases z)) (sws_none htup)) fun D σ H ⟨Gb, G, s, o, ad, v, ho⟩ => ?_
  have e0 : exS T (call T n) (.unp t fz e) s o = (evE T (call T n) e s >>= fun d => match asg t d s with
      | .ok s' => .ok (.nx s' (dropO (tgS t) (fzO T fz e d s o)))
      | _ => .no) := rfl
  rw [e0] at ho
  refine v.rd g.ev (cov_ok hc) ?_
  cases q : evE T (call T n) e s with
  | no => rw [q] at ho; exact ho
  | ex c ds => rw [q] at ho; exact ho
  | ok d =>
    rw [q] at ho
    have ho : OutS M X.K W os sa H0 G0 Gb rk D (match asg t d s with
      | .ok s' => .ok (.nx s' (dropO (tgS t) (fzO T fz e d s o)))
      | _ => .no) := ho
    cases qa : asg t d s with
    | no => rw [qa] at ho; exact ho.elim
    | ex c ds => rw [qa] at ho; exact ho.elim
    | ok s' =>
      rw [qa] at ho
      intro w H' G2 ad2 A v2 hA nA ow
      obtain ⟨G3, ad3, s3, v3, nA3, ow3⟩ := v2.droppedK (tgS t) nA ow
      obtain ⟨G4, s4, v4, r4⟩ := v3.absorb hA nA3 ow3
      refine ⟨G4, d, v4.sub, r4, ⟨_, s', qa⟩, fun σ' ar => ho _ _ _ _ (v4.stored (fun i hi => by rw [lk_drop, if_pos hi]) qa ar)⟩
theorem st_unpT (g : GS T M n W X) {t : Tg} {fz ms : List Nat} {x : Nat} {e : E} {es : List Expr} {k : Nat} {p pos : Pos} {e' : Expr} (hxo : x ∈ os) (hxt : x ∈ tgS t) (hms : ∀ i ∈ mnE e, i ∈ ms) (ht : chkTg X.N X.env.scope t (.Tuple es k p) = true) (hc : cov (mnE e) fz os = true) (htup : isTup e' = false) (h : chkE M X.N X.env.scope e e' = true) :
    PS X (.Assign [.Tuple es k p] e' pos) (rS T M n W X.K os sa H0 G0 rk (.unpT t fz e ms x)) := by
  classical
  refine PS.imp (ps_asg (pk0 (sE e g.toGood e' h)) (sG (M := M) g.calm g.nd g.la t (.Tuple es k p) ht) (sw_other (t := .Tuple es k p) (l := pos.line) (env := X.env) (chkE_plain h) (by intro _ _ z; cases z)) (sws_none htup)) fun D σ H ⟨Gb, G, s, o, ad, v, ho⟩ => ?_
  have e0 : exS T (call T n) (.unpT t fz e ms x) s o = (evE T (call T n) e s >>= fun d => match asg t d s with
      | .ok s' => .ok (.nx s' (if newT ms x s s' then (x, 1) :: dropO (tgS t) (dropO fz o) else dropO (tgS t) (dropO fz o)))
      | _ => .no) := rfl
  rw [e0] at ho
  have hmn : ∀ i ∈ mnE e, i ∈ os → i ∈ fz := cov_ok hc
  have hv := v.vw (ms := mnE e) (fz := fz) hmn
  cases q : evE T (call T n) e s with
  | no => rw [q] at ho; exact ho.elim
  | ex c ds =>
    rw [q] at ho
    refine ⟨fzG H G fz ad, s, v.intoF, hv, ?_⟩
    rw [q]
    exact fun cls d H' G' g r => v.exw g ho r
  | ok d =>
    rw [q] at ho
    have ho : OutS M X.K W os sa H0 G0 Gb rk D (match asg t d s with
      | .ok s' => .ok (.nx s' (if newT ms x s s' then (x, 1) :: dropO (tgS t) (dropO fz o) else dropO (tgS t) (dropO fz o)))
      | _ => .no) := ho
    cases qa : asg t d s with
    | no => rw [qa] at ho; exact ho.elim
    | ex c ds => rw [qa] at ho; exact ho.elim
    | ok s' =>
      rw [qa] at ho
      have ho : OutS M X.K W os sa H0 G0 Gb rk D (.ok (.nx s' (if newT ms x s s' then (x, 1) :: dropO (tgS t) (dropO fz o) else dropO (tgS t) (dropO fz o)))) := ho
      by_cases hn : newT ms x s s' = true
      case neg =>
        rw [if_neg hn] at ho
        refine ⟨fzG H G fz ad, s, v.intoF, hv, ?_⟩
        rw [q]
        intro w H' G' A gr hA ow
        obtain ⟨_, r⟩ := ow
        have v3 := (v.frozen gr).freeze (tgS t)
        have sG3 : Sub G' (fzG H' G' (tgS t) fun i => if i ∈ fz then [] else ad i) := (v.frozen gr).subF
        exact ⟨G', d, gr.into, r, ⟨_, s', qa⟩, fun σ' ar => ho _ _ _ _ (v3.stored (fun i hi => by rw [lk_drop, if_pos hi]) qa (ar.mono sG3))⟩
      case pos =>
        rw [if_pos hn] at ho
        unfold newT at hn
        cases qx : s'[x]? with
        | none => rw [qx] at hn; cases hn
        | some dx => cases dx with
          | none => rw [qx] at hn; cases hn
          | some dx => cases dx <;> first | (rw [qx] at hn; cases hn; done) | skip
                       rename_i ds
                       rw [qx] at hn
                       have hn : (plB (.lst ds) && !subBs (.lst ds) ds && (ms.all fun i => match s[i]? with
                          | some (some d) => !subB (.lst ds) d
                          | _ => true) && ((List.range s'.length).all fun j => j == x || (match s'[j]? with
                          | some (some d) => !subB (.lst ds) d
                          | _ => true))) = true := hn
                       rw [Bool.and_eq_true, Bool.and_eq_true, Bool.and_eq_true] at hn
                       obtain ⟨⟨⟨pl, hs0⟩, hms2⟩, hall⟩ := hn
                       have hsub : ∀ i ∈ mnE e, ∀ d, s[i]? = some (some d) → subB (.lst ds) d = false := fun i hi d hd => by
                         have := List.all_eq_true.mp hms2 i (hms i hi)
                         rw [hd] at this
                         simpa using this
                       have hl : ∀ i, ∃ S : Addr → Prop, (∀ p, S p → i ∈ mnE e ∧ ∃ d, s[i]? = some (some d)) ∧ (i ∈ mnE e → ∀ d, s[i]? = some (some d) → ∃ w, σ[i]? = some (some w) ∧ (∀ G', (∀ p, S p → G' p = fzG H G fz ad p) → Rep M X.K G' w d) ∧ ∀ p, S p → ∀ vs, fzG H G fz ad p = some (.lst vs) → ∃ x, (∀ G', (∀ p, S p → G' p = fzG H G fz ad p) → Reps M X.K G' vs x) ∧ ∀ y, subB y d = false → eqP y (.lst x) = false ∧ subBs y x = false) := fun i => by
                         by_cases hi : i ∈ mnE e ∧ ∃ d, s[i]? = some (some d)
                         · obtain ⟨h1, d, hd⟩ := hi
                           obtain ⟨w, hw, r⟩ := hv.at_ i h1 d hd
                           obtain ⟨S, s1, s2⟩ := r.least (hsub i h1 d hd)
                           exact ⟨S, fun _ _ => ⟨h1, d, hd⟩, fun _ d' hd' => by rw [hd] at hd'; cases hd'; exact ⟨w, hw, s1, s2⟩⟩
                         · exact ⟨fun _ => False, fun _ h => h.elim, fun h1 d hd => absurd ⟨h1, d, hd⟩ hi⟩
                       let S := fun i => Classical.choose (hl i)
                       have hS := fun i => Classical.choose_spec (hl i)
                       let Gm : Hp := fun p => if ∃ i, S i p then fzG H G fz ad p else none
                       have gmI : ∀ i p, S i p → Gm p = fzG H G fz ad p := fun i p hp => if_pos ⟨i, hp⟩
                       have gmS : Sub Gm (fzG H G fz ad) := fun p u hu => by
                         have hu : (if ∃ i, S i p then fzG H G fz ad p else none) = some u := hu
                         split at hu
                         · exact hu
                         · cases hu
                       refine ⟨Gm, s, gmS.trans v.intoF, ⟨hv.len, fun i hi d hd => ?_⟩, ?_⟩
                       · obtain ⟨w, hw, r, _⟩ := (hS i).2 hi d hd
                         exact ⟨w, hw, r Gm fun p hp => gmI i p hp⟩
                       rw [q]
                       intro w H' G' A gr hA ow
                       obtain ⟨_, r⟩ := ow
                       let G2 : Hp := fun p => match H p with
                         | none => G' p
                         | some _ => fzG H G fz ad p
                       have g2n : ∀ p, H p = none → G2 p = G' p := fun p hp => by show (match H p with | none => G' p | some _ => fzG H G fz ad p) = _; rw [hp]
                       have g2s : ∀ p u, H p = some u → G2 p = fzG H G fz ad p := fun p u hp => by show (match H p with | none => G' p | some _ => fzG H G fz ad p) = _; rw [hp]
                       have sub2 : Sub G' G2 := fun p u hu => by
                         cases hp : H p with
                         | none => rw [g2n p hp]; exact hu
                         | some o => rw [g2s p o hp]; rw [gr.new p o hp] at hu; exact gmS p u hu
                       have gr2 : Grow H (fzG H G fz ad) H' G2 := ⟨gr.ext, fun p u hu => by rw [g2s p u (v.intoF _ _ hu)]; exact hu, fun p u hu => by
                         cases hp : H p with
                         | none => rw [g2n p hp] at hu; exact gr.into _ _ hu
                         | some o => rw [g2s p o hp] at hu; exact gr.ext _ _ (v.intoF _ _ hu), fun p u hu => g2s p u hu⟩
                       have v3 := (v.frozen gr2).freeze (tgS t)
                       have sG3 := sub2.trans ((v.frozen gr2).subF (fz := tgS t))
                       refine ⟨G', d, gr.into, r, ⟨_, s', qa⟩, fun σ' ar => ?_⟩
                       have v4 := v3.stored (fun i hi => by rw [lk_drop, if_pos hi]) qa (ar.mono sG3)
                       obtain ⟨wx, hwx, rx⟩ := (ar.vw [] s s' qa ⟨v.len, fun i hi => by cases hi⟩).at_ x (by simpa using hxt) _ qx
                       cases rx with
                       | lst hg hr =>
                         rename_i p vs
                         have hHp : H p = none := by
                           cases hp : H p with
                           | none => rfl
                           | some u =>
                             have e1 : Gm p = some (.lst vs) := by rw [← gr.new p u hp]; exact hg
                             have e2 : ∃ i, S i p := by
                               by_cases z : ∃ i, S i p
                               · exact z
                               · have : Gm p = none := if_neg z
                                 rw [this] at e1; cases e1
                             obtain ⟨i, hi⟩ := e2
                             obtain ⟨hm, di, hdi⟩ := (hS i).1 p hi
                             obtain ⟨wi, _, _, q2⟩ := (hS i).2 hm di hdi
                             obtain ⟨x', x1, x2⟩ := q2 p hi vs (gmS _ _ e1)
                             have r2 := (x1 Gm fun p hp => gmI i p hp).mono gr.sub
                             obtain ⟨x3, x4⟩ := x2 _ (hsub i hm di hdi)
                             have pl' : plBs ds = true := pl
                             have := Reps.uniq hr pl' r2 x4
                             subst this
                             rw [eqP_refl _ pl] at x3
                             cases x3
                         have hGb : Gb p = none := by
                           cases hp : Gb p with
                           | none => rfl
                           | some u =>
                             have := v.sub _ _ (v.gro _ _ hp)
                             rw [hHp] at this; cases this
                         obtain ⟨G5, ad5, v5⟩ := v4.thaw qx (by rw [lk_drop, if_pos hxt]) hxo hwx (v.h0 hHp) hGb (sG3 _ _ hg) (hr.mono sG3) pl (by simpa using hs0) fun j d' hj hd => by
                           have hlt : j < s'.length := (List.getElem?_eq_some_iff.mp hd).1
                           have := List.all_eq_true.mp hall j (List.mem_range.mpr hlt)
                           rw [hd, Bool.or_eq_true] at this
                           rcases this with z | z
                           · exact absurd (eq_of_beq z) hj
                           · simpa using z
                         exact ho _ _ _ _ v5
theorem putI_ok {ds es : List D} {i : Int} {d : D} (h : putI ds i d = .ok es) : ∃ j, ixN ds.length i = some j ∧ es = ds.set j d := by
  unfold putI at h
  cases q : ixN ds.length i with
  | none => rw [q] at h; cases h
  | some j => rw [q] at h; cases h; exact ⟨j, rfl, rfl⟩
theorem st_setix (g : GS T M n W X) {x : Nat} {fz : List Nat} {i e : E} {op i' e' : Expr} {p pos : Pos} (hx : nmX X.N X.env.scope x op = true) (hi : chkE M X.N X.env.scope i i' = true) (hc : cov (mnE e) fz os = true) (h : chkE M X.N X.env.scope e e' = true) :
    PS X (.Assign [.Subscript op i' p] e' pos) (rS T M n W X.K os sa H0 G0 rk (.setix x fz i e)) := by
  obtain ⟨y, py, rfl, h1, h2, h3⟩ := nmX_ok hx
  refine PS.imp (ps_asg (pkv g.toGood e e' h) (pg_sub (pe_nm h1 h2 h3) (sE i g.toGood i' hi).pe set_list (sub_ha (chkE_plain hi))) (sw_other (t := .Subscript (.Name y py) i' p) (l := pos.line) (env := X.env) (chkE_plain h) (by intro _ _ z; cases z)) (sws_none1 rfl (by intro _ _ z; cases z))) fun D σ H ⟨Gb, G, s, o, ad, v, ho⟩ => ?_
  have e0 : exS T (call T n) (.setix x fz i e) s o = (evE T (call T n) e s >>= fun d => match evE T (call T n) i s with
      | .ok (.int k) => (ownL 1 x s (fzO T fz e d s o) >>= fun ds => putI ds k d >>= fun es => .ok (.nx (s.set x (some (.lst es))) (fzO T fz e d s o)))
      | _ => .no) := rfl
  rw [e0] at ho
  refine v.rd g.ev (cov_ok hc) ?_
  cases q : evE T (call T n) e s with
  | no => rw [q] at ho; exact ho
  | ex c ds => rw [q] at ho; exact ho
  | ok d =>
    rw [q] at ho
    have ho : OutS M X.K W os sa H0 G0 Gb rk D (match evE T (call T n) i s with
      | .ok (.int k) => (ownL 1 x s (fzO T fz e d s o) >>= fun ds => putI ds k d >>= fun es => .ok (.nx (s.set x (some (.lst es))) (fzO T fz e d s o)))
      | _ => .no) := ho
    cases qi : evE T (call T n) i s with
    | no => rw [qi] at ho; exact ho.elim
    | ex c ds => rw [qi] at ho; exact ho.elim
    | ok di =>
      rw [qi] at ho
      cases di <;> first | exact ho.elim | skip
      rename_i k
      have ho : OutS M X.K W os sa H0 G0 Gb rk D (ownL 1 x s (fzO T fz e d s o) >>= fun ds => putI ds k d >>= fun es => .ok (.nx (s.set x (some (.lst es))) (fzO T fz e d s o))) := ho
      cases qo : ownL 1 x s (fzO T fz e d s o) with
      | no => rw [qo] at ho; exact ho.elim
      | ex c ds => exfalso; unfold ownL at qo; split at qo <;> first | (split at qo <;> cases qo) | cases qo
      | ok ds =>
        rw [qo] at ho
        have ho : OutS M X.K W os sa H0 G0 Gb rk D (putI ds k d >>= fun es => .ok (.nx (s.set x (some (.lst es))) (fzO T fz e d s o))) := ho
        cases qp : putI ds k d with
        | no => rw [qp] at ho; exact ho.elim
        | ex c ds => exfalso; unfold putI at qp; split at qp <;> cases qp
        | ok es =>
          rw [qp] at ho
          have ho : OutS M X.K W os sa H0 G0 Gb rk D (.ok (.nx (s.set x (some (.lst es))) (fzO T fz e d s o))) := ho
          obtain ⟨j, hj, rfl⟩ := putI_ok qp
          intro w H' G2 ad2 A v2 hA nA ow
          obtain ⟨G3, s3, v3, r3⟩ := v2.absorb hA nA ow
          obtain ⟨p0, vs0, o1, _⟩ := v3.own1 qo
          refine ⟨.ref p0, o1, v3.rdI rfl (fun _ _ => rfl) qi fun H4 G4 v4 s4 _ => ?_⟩
          obtain ⟨p1, vs1, o1', o2, o3, o4, o5, o6, o7⟩ := v4.own1 qo
          have ep : p1 = p0 := by rw [o1] at o1'; cases o1'; rfl
          subst ep
          refine ⟨p1, vs1, k, j, rfl, rfl, o3, by rw [o5.length]; exact hj, ?_⟩
          exact ho _ _ _ _ (v4.upd1 o1' o2 o3 o4 o6 o7 (o5.set (r3.mono s4) j))
theorem st_app (g : GS T M n W X) {x : Nat} {fz : List Nat} {e : E} {op e' : Expr} {m : Str} {ap cp pos : Pos} (hx : nmX X.N X.env.scope x op = true) (hm : m = "append") (hl : (ap.endLine == cp.line) = true) (hc : cov (mnE e) fz os = true) (h : chkE M X.N X.env.scope e e' = true) :
    PS X (.Expr (.Call (.Attribute op m ap) [e'] [] cp) pos) (rS T M n W X.K os sa H0 G0 rk (.app x fz e)) := by
  obtain ⟨y, py, rfl, h1, h2, h3⟩ := nmX_ok hx
  subst hm
  have hst := star_plain (es := []) (env := X.env) (chkE_plain h)
  have hall : ∀ a ∈ [e'], plainX a = true := fun a ha => by
    have : a = e' := by simpa using ha
    rw [this]; exact chkE_plain h
  refine PS.imp (ps_expr (pe_bm PySem.F.plainAttrs_list PySem.F.slot_list_append PySem.F.type_list_append mt_append (pe_nm h1 h2 h3) (pa_cons (pkv g.toGood e e' h) pa_nil hst) rfl (by rw [back_plain2 hall]; rfl) hl hst rfl)) fun D σ H ⟨Gb, G, s, o, ad, v, ho⟩ => ?_
  have e0 : exS T (call T n) (.app x fz e) s o = (ownL 1 x s o >>= fun _ => evE T (call T n) e s >>= fun d => ownL 1 x s (fzO T fz e d s o) >>= fun ds => if Nat.blt ds.length LIM then .ok (.nx (s.set x (some (.lst (ds ++ [d])))) (fzO T fz e d s o)) else .no) := rfl
  rw [e0] at ho
  cases qo0 : ownL 1 x s o with
  | no => rw [qo0] at ho; exact ho.elim
  | ex c ds => exfalso; unfold ownL at qo0; split at qo0 <;> first | (split at qo0 <;> cases qo0) | cases qo0
  | ok ds0 =>
    rw [qo0] at ho
    have ho : OutS M X.K W os sa H0 G0 Gb rk D (evE T (call T n) e s >>= fun d => ownL 1 x s (fzO T fz e d s o) >>= fun ds => if Nat.blt ds.length LIM then .ok (.nx (s.set x (some (.lst (ds ++ [d])))) (fzO T fz e d s o)) else .no) := ho
    obtain ⟨p0, vs0, k1, _, k2, _⟩ := v.own1 qo0
    refine ⟨.ref p0, k1, .inl ⟨rfl, _, SqL.of k2⟩, ?_⟩
    show tEK T (call T n) M X.K W (kk T e) e σ H _
    refine v.rd g.ev (cov_ok hc) ?_
    cases q : evE T (call T n) e s with
    | no => rw [q] at ho; exact ho.elim
    | ex c ds => rw [q] at ho; exact ho
    | ok d =>
      rw [q] at ho
      have ho : OutS M X.K W os sa H0 G0 Gb rk D (ownL 1 x s (fzO T fz e d s o) >>= fun ds => if Nat.blt ds.length LIM then .ok (.nx (s.set x (some (.lst (ds ++ [d])))) (fzO T fz e d s o)) else .no) := ho
      cases qo : ownL 1 x s (fzO T fz e d s o) with
      | no => rw [qo] at ho; exact ho.elim
      | ex c ds => exfalso; unfold ownL at qo; split at qo <;> first | (split at qo <;> cases qo) | cases qo
      | ok ds =>
        rw [qo] at ho
        have ho : OutS M X.K W os sa H0 G0 Gb rk D (if Nat.blt ds.length LIM then .ok (.nx (s.set x (some (.lst (ds ++ [d])))) (fzO T fz e d s o)) else .no) := ho
        split at ho
        case isFalse => exact ho.elim
        rename_i hlim
        intro w H' G2 ad2 A v2 hA nA ow
        obtain ⟨G3, s3, v3, r3⟩ := v2.absorb hA nA ow
        obtain ⟨p1, vs1, o1', o2, o3, o4, o5, o6, o7⟩ := v3.own1 qo
        have ep : p1 = p0 := by rw [k1] at o1'; cases o1'; rfl
        subst ep
        refine ⟨p1, vs1, w, rfl, rfl, o3, ?_, ?_⟩
        · rw [o5.length, LIM_eq]
          unfold Nat.blt at hlim
          exact Nat.le_of_ble_eq_true hlim
        · exact ho _ _ _ _ (v3.upd1 o1' o2 o3 o4 o6 o7 (o5.append (.cons r3 .nil)))
theorem putF_new {f : Str} {v : V} : ∀ {fs : List (Str × V)}, f ∉ fs.map (·.1) → putF f v fs = fs ++ [(f, v)]
  | [], _ => rfl
  | (y, w) :: fs, h => by
    have h1 : y ≠ f := fun e => h (by rw [e]; simp)
    unfold putF
    rw [if_neg h1, putF_new (fun e => h (by rw [List.map_cons]; exact List.mem_cons_of_mem _ e))]
    rfl
theorem st_setf (g : GS T M n W X) {k : Nat} {fz : List Nat} {e : E} {op e' : Expr} {f : Str} {p pos : Pos} (hx : nmX X.N X.env.scope 0 op = true) (hf : f = M.fd k) (hk9 : k < M.nf) (hc : cov (mnE e) fz os = true) (h : chkE M X.N X.env.scope e e' = true) :
    PS X (.Assign [.Attribute op f p] e' pos) (rS T M n W X.K os sa H0 G0 rk (.setf k fz e)) := by
  obtain ⟨y, py, rfl, h1, h2, h3⟩ := nmX_ok hx
  subst hf
  refine PS.imp (ps_fld (pe_nm h1 h2 h3) (pkv g.toGood e e' h) (sw_other (t := .Attribute (.Name y py) (M.fd k) p) (chkE_plain h) (by intro _ _ z; cases z))) fun D σ H ⟨Gb, G, s, o, ad, v, ho⟩ => ?_
  have e0 : exS T (call T n) (.setf k fz e) s o = (evE T (call T n) e s >>= fun d => match (fzO T fz e d s o).lookup 0, s with
      | some _, some (.obj c ks ds) :: r => if ks.contains k || !(Nat.blt ks.length 100) || (T.init c).isNone then .no else .ok (.nx (some (.obj c (ks ++ [k]) (ds ++ [d])) :: r) (fzO T fz e d s o))
      | _, _ => .no) := rfl
  rw [e0] at ho
  refine v.rd g.ev (cov_ok hc) ?_
  cases q : evE T (call T n) e s with
  | no => rw [q] at ho; exact ho
  | ex c ds => rw [q] at ho; exact ho
  | ok d =>
    rw [q] at ho
    have ho : OutS M X.K W os sa H0 G0 Gb rk D (match (fzO T fz e d s o).lookup 0, s with
      | some _, some (.obj c ks ds) :: r => if ks.contains k || !(Nat.blt ks.length 100) || (T.init c).isNone then .no else .ok (.nx (some (.obj c (ks ++ [k]) (ds ++ [d])) :: r) (fzO T fz e d s o))
      | _, _ => .no) := ho
    intro w H' G2 ad2 A v2 hA nA ow
    obtain ⟨G3, s3, v3, r3⟩ := v2.absorb hA nA ow
    split at ho
    case h_2 => exact ho.elim
    rename_i z c ks ds r _ hz
    split at ho
    case isTrue => exact ho.elim
    rename_i hc3
    simp only [Bool.or_eq_true, not_or, Bool.not_eq_true, Bool.not_eq_false', Option.isNone_iff_eq_none] at hc3
    obtain ⟨⟨c1, c2⟩, c3⟩ := hc3
    obtain ⟨a, dx, fs, q1, q2, q3, v4⟩ := v3.updS (k := k) hz rfl hk9 r3
    have hT : ∃ p, T.init c = some p := Option.ne_none_iff_exists'.mp c3
    obtain ⟨p0, hp0⟩ := hT
    obtain ⟨hC, _⟩ := g.ev.cls c p0.1 p0.2 hp0
    have hnew : M.fd k ∉ fs.map (·.1) := fun hm => by
      rw [q3.1] at hm
      obtain ⟨k2, hk2, e2⟩ := List.mem_map.mp hm
      have := g.ev.fdi _ _ (q3.2 k2 hk2) hk9 e2
      subst this
      simp [hk2] at c1
    refine ⟨.ref a, q1, a, _, dx, fs, rfl, q2, hC, g.ev.noat c p0 k hp0 hk9, ?_, ?_⟩
    · have := congrArg List.length q3.1
      rw [List.length_map, List.length_map] at this
      unfold Nat.blt at c2
      have := Nat.le_of_ble_eq_true c2
      omega
    · rw [putF_new hnew]
      exact ho _ _ _ _ v4
theorem st_ret (g : GS T M n W X) {k : Nat} {e : E} {e' : Expr} {pos : Pos} (hk : k = rk) (h : chkE M X.N X.env.scope e e' = true) : PS X (.Return (some e') pos) (rS T M n W X.K os sa H0 G0 rk (.ret k e)) := by
  subst hk
  by_cases hv : k ≠ 0 ∧ ∃ i, e = .var i
  · obtain ⟨hk, i, rfl⟩ := hv
    cases e' <;> first | (cases h; done) | skip
    rename_i x p
    obtain ⟨h1, h2⟩ := bA h
    obtain ⟨h3, h4⟩ := bA h2
    refine PS.imp (ps_ret (pe_nm (of_decide_eq_true h1) h3 h4)) fun D σ H ⟨Gb, G, s, o, ad, v, ho⟩ => ?_
    have e0 : exS T (call T n) (.ret k (.var i)) s o = (evE T (call T n) (.var i) s >>= fun d => if k = 0 then .ok (.rt d) else (match o.lookup i, d with
        | some j, .lst _ => if k = j then .ok (.rt d) else .no
        | _, _ => .no)) := rfl
    rw [e0] at ho
    have e1 : evE T (call T n) (.var i) s = (match s[i]? with
      | some (some d) => .ok d
      | _ => .no) := rfl
    rw [e1] at ho
    split at ho
    case h_2 => exact ho.elim
    rename_i d hd
    have ho : OutS M X.K W os sa H0 G0 Gb k D (if k = 0 then .ok (.rt d) else (match (generalizing := false) o.lookup i, d with
        | some j, .lst _ => if k = j then .ok (.rt d) else .no
        | _, _ => .no)) := ho
    rw [if_neg hk] at ho
    split at ho
    case h_2 => exact ho.elim
    rename_i j ds ql _
    split at ho
    case isFalse => exact ho.elim
    rename_i ej
    subst ej
    obtain ⟨w, hw, q⟩ := v.at_ i _ hd
    refine ⟨w, hw, ?_⟩
    rcases q with ⟨q, _⟩ | ⟨k', hk', ow⟩
    · rw [ql] at q; cases q
    rw [ql] at hk'
    cases hk'
    have ow : OwnR M X.K H G k (ad i) w (.lst ds) := ow
    refine ho w H G (ad i) v.ext v.gro v.sub v.new (fun p hp => ?_) ow
    rcases v.fr i p hp with z | z
    · exact z
    · obtain ⟨C, dx, fs, q1⟩ := v.sf p z.symm
      obtain ⟨vs, q2⟩ := OwnR.lst ow p hp
      rw [q1] at q2; cases q2
  · refine PS.imp (ps_ret (pkv g.toGood e e' h)) fun D σ H ⟨Gb, G, s, o, ad, v, ho⟩ => ?_
    have v' := v.freeze os
    have e0 : exS T (call T n) (.ret k e) s o = (evE T (call T n) e s >>= fun d => if k = 0 then .ok (.rt d) else if Nat.ble k (frk T k e) && Nat.ble k 1 then .ok (.rt d) else .no) := by
      by_cases hk : k = 0
      · subst hk; rfl
      · cases e <;> first | rfl | exact absurd ⟨hk, _, rfl⟩ hv
    rw [e0] at ho
    show tEK T (call T n) M X.K W (kk T e) e σ H _
    refine v.rd (fz := os) g.ev (fun i _ hi => hi) ?_
    cases q : evE T (call T n) e s with
    | no => rw [q] at ho; exact ho.elim
    | ex c ds => rw [q] at ho; exact ho
    | ok d =>
      rw [q] at ho
      have ho : OutS M X.K W os sa H0 G0 Gb k D (if k = 0 then .ok (.rt d) else if Nat.ble k (frk T k e) && Nat.ble k 1 then .ok (.rt d) else .no) := ho
      intro w H' G2 ad2 A v2 hA nA ow
      by_cases hk : k = 0
      · subst hk
        rw [if_pos rfl] at ho
        obtain ⟨G3, s3, v3, r3⟩ := v2.absorb hA nA ow
        exact v3.ret0 ho r3
      · rw [if_neg hk] at ho
        split at ho
        case isFalse => exact ho.elim
        rename_i hb
        obtain ⟨b1, b2⟩ := bA hb
        have b3 := Nat.le_of_ble_eq_true b2
        have k1 : k = 1 := by omega
        subst k1
        have hf : 1 ≤ frk T 1 e := Nat.le_of_ble_eq_true b1
        have hkk : kk T e = 1 := by unfold kk; rw [if_neg (by omega)]
        rw [hkk] at ow
        exact ho w H' G2 A v2.ext v2.gro v2.sub v2.new hA ow
/-- x[a], x[b] = x[b], x[a] -/
theorem ixX_ok {x : Nat} {a : E} {e : Expr} {N : List Str} {sc : Scope} (h : ixX M N sc x a e = true) : ∃ y p i q, e = .Subscript (.Name y p) i q ∧ N[x]? = some y ∧ vis sc y = true ∧ nmOk y = true ∧ chkE M N sc a i = true := by
  cases e <;> first | (cases h; done) | skip
  obtain ⟨h1, h2⟩ := bA h
  obtain ⟨y, p, rfl, h3, h4, h5⟩ := nmX_ok h1
  exact ⟨y, p, _, _, rfl, h3, h4, h5, h2⟩
theorem st_swap (g : GS T M n W X) {x : Nat} {a b : E} {t1 t2 v1 v2 : Expr} {k1 k2 : Nat} {p1 p2 pos : Pos} (c1 : ixX M X.N X.env.scope x a t1 = true) (c2 : ixX M X.N X.env.scope x b t2 = true) (c3 : ixX M X.N X.env.scope x b v1 = true) (c4 : ixX M X.N X.env.scope x a v2 = true) (hna : x ∉ mnE a) (hnb : x ∉ mnE b) :
    PS X (.Assign [.Tuple [t1, t2] k1 p1] (.Tuple [v1, v2] k2 p2) pos) (rS T M n W X.K os sa H0 G0 rk (.swap x a b)) := by
  obtain ⟨y1, q1, i1, r1, rfl, a1, a2, a3, a4⟩ := ixX_ok c1
  obtain ⟨y2, q2, i2, r2, rfl, b1, b2, b3, b4⟩ := ixX_ok c2
  obtain ⟨y3, q3, i3, r3, rfl, d1, d2, d3, d4⟩ := ixX_ok c3
  obtain ⟨y4, q4, i4, r4, rfl, f1, f2, f3, f4⟩ := ixX_ok c4
  have hv : PE X (.Tuple [.Subscript (.Name y3 q3) i3 r3, .Subscript (.Name y4 q4) i4 r4] k2 p2) (tTup (tCons (tOp (rIxL X.K) (tVar x) (tE T (call T n) M X.K W b)) (tCons (tOp (rIxL X.K) (tVar x) (tE T (call T n) M X.K W a)) tNil))) :=
    pe_tup (pa_cons (pe_ix ix_list (pe_nm d1 d2 d3) (sE b g.toGood i3 d4).pe (ix_plain (chkE_plain d4))) (pa_cons (pe_ix ix_list (pe_nm f1 f2 f3) (sE a g.toGood i4 f4).pe (ix_plain (chkE_plain f4))) pa_nil))
  have hg : PG X (.Tuple [.Subscript (.Name y1 q1) i1 r1, .Subscript (.Name y2 q2) i2 r2] k1 p1) (gTup X.K 2 (gCons (gSub (tVar x) (tE T (call T n) M X.K W a) rSetL) (gCons (gSub (tVar x) (tE T (call T n) M X.K W b) rSetL) gNil))) :=
    pg_tup g.calm (pgs_cons (pg_sub (pe_nm a1 a2 a3) (sE a g.toGood i1 a4).pe set_list (sub_ha (chkE_plain a4))) (pgs_cons (pg_sub (pe_nm b1 b2 b3) (sE b g.toGood i2 b4).pe set_list (sub_ha (chkE_plain b4))) pgs_nil))
  refine PS.imp (ps_asg hv hg rfl (sws_sub rfl rfl)) fun D σ H ⟨Gb, G, s, o, ad, v, ho⟩ => ?_
  have e0 : exS T (call T n) (.swap x a b) s o = (match evE T (call T n) a s, evE T (call T n) b s with
      | .ok (.int i), .ok (.int j) => (ownL 1 x s o >>= fun ds => match L2.atI ds i, L2.atI ds j with
          | some u, some v => (putI ds i v >>= fun es => putI es j u >>= fun es => .ok (.nx (s.set x (some (.lst es))) o))
          | _, _ => .no)
      | _, _ => .no) := rfl
  rw [e0] at ho
  split at ho
  case h_2 => exact ho.elim
  rename_i i j qa qb
  cases qo : ownL 1 x s o with
  | no => rw [qo] at ho; exact ho.elim
  | ex c ds => exfalso; unfold ownL at qo; split at qo <;> first | (split at qo <;> cases qo) | cases qo
  | ok ds =>
    rw [qo] at ho
    have ho : OutS M X.K W os sa H0 G0 Gb rk D (match L2.atI ds i, L2.atI ds j with
          | some u, some v => (putI ds i v >>= fun es => putI es j u >>= fun es => .ok (.nx (s.set x (some (.lst es))) o))
          | _, _ => .no) := ho
    split at ho
    case h_2 => exact ho.elim
    rename_i du dv qu qv
    cases qp : putI ds i dv with
    | no => rw [qp] at ho; exact ho.elim
    | ex c ds => exfalso; unfold putI at qp; split at qp <;> cases qp
    | ok es =>
      rw [qp] at ho
      have ho : OutS M X.K W os sa H0 G0 Gb rk D (putI es j du >>= fun es => .ok (.nx (s.set x (some (.lst es))) o)) := ho
      cases qp2 : putI es j du with
      | no => rw [qp2] at ho; exact ho.elim
      | ex c ds => exfalso; unfold putI at qp2; split at qp2 <;> cases qp2
      | ok es2 =>
        rw [qp2] at ho
        have ho : OutS M X.K W os sa H0 G0 Gb rk D (.ok (.nx (s.set x (some (.lst es2))) o)) := ho
        obtain ⟨ji, hji, rfl⟩ := putI_ok qp
        obtain ⟨jj, hjj, rfl⟩ := putI_ok qp2
        obtain ⟨p, vs, o1, _⟩ := v.own1 qo
        have same : ∀ {p' : Addr}, σ[x]? = some (some (.ref p')) → p' = p := fun {p'} e => by rw [o1] at e; cases e; rfl
        refine ⟨.ref p, o1, v.rdI rfl (fun _ _ => rfl) qb fun H1 G1 v1 s1 _ => ?_⟩
        obtain ⟨p1, vs1, a1, a2, a3, a4, a5, a6, a7⟩ := v1.own1 qo
        obtain ⟨wv, hwv, rwv⟩ := atI_some qv a5
        refine ⟨p1, vs1, j, wv, by rw [same a1], rfl, SqL.of a3, hwv, ?_⟩
        refine ⟨.ref p, o1, v1.rdI rfl (fun _ _ => rfl) qa fun H2 G2 v2 s2 _ => ?_⟩
        obtain ⟨p2, vs2, b1, b2, b3, b4, b5, b6, b7⟩ := v2.own1 qo
        obtain ⟨wu, hwu, rwu⟩ := atI_some qu b5
        refine ⟨p2, vs2, i, wu, by rw [same b1], rfl, SqL.of b3, hwu, ?_⟩
        show [wv, wu].length ≤ sizeLine ∧ _
        refine ⟨by show 2 ≤ sizeLine; decide, fun q hq => ?_⟩
        have gl := Grow.laid (o := .tup [wv, wu]) v2.sub hq
        have v3 := v2.grown gl
        refine ⟨q, [wv, wu], rfl, .of upd_same, rfl, wv, [wu], rfl, ?_⟩
        refine ⟨.ref p, o1, v3.rdI rfl (fun _ _ => rfl) qa fun H4 G4 v4 s4 _ => ?_⟩
        obtain ⟨p4, vs4, d1, d2, d3, d4, d5, d6, d7⟩ := v4.own1 qo
        refine ⟨p4, vs4, i, ji, by rw [same d1], rfl, d3, by rw [d5.length]; exact hji, ?_⟩
        have v5 := v4.upd1 d1 d2 d3 d4 d6 d7 (d5.set (rwv.mono ((s2.trans gl.sub).trans s4)) ji)
        refine ⟨wu, [], rfl, .ref p, o1, v5.rdI (s' := s) (by rw [List.length_set]) (fun k hk => by rw [List.getElem?_set_ne (by intro e; subst e; exact hnb hk)]) qb fun H6 G6 v6 s6 _ => ?_⟩
        have hlen : x < s.length := (List.getElem?_eq_some_iff.mp d7).1
        have qo6 : ownL 1 x (s.set x (some (.lst (ds.set ji dv)))) o = .ok (ds.set ji dv) := by
          unfold ownL
          rw [d6, List.getElem?_set_self hlen]
          rfl
        obtain ⟨p6, vs6, f1, f2, f3, f4, f5, f6, f7⟩ := v6.own1 qo6
        refine ⟨p6, vs6, j, jj, by rw [same f1], rfl, f3, by rw [f5.length]; exact hjj, rfl, ?_⟩
        have v7 := v6.upd1 f1 f2 f3 f4 f6 f7 (f5.set (rwu.mono ((gl.sub.trans s4).trans s6)) jj)
        rw [List.set_set] at v7
        exact ho _ _ _ _ v7
end
end Fc

set_option Elab.async false
set_option linter.all false
set_option maxRecDepth 100000
set_option maxHeartbeats 4000000
namespace Fc
open PySem PySem.Spec PyProof.Rows L2
section
variable {T : Tab} {M : Nm} {n : Nat} {W : XK} {X : Cx} {os fz : List Nat} {sa : Option Addr} {rk : Nat} {H0 G0 Gb G H H' G' : Hp} {σ : L2.St} {s : Env} {o : Ow} {ad : Nat → List Addr}
/-! ### flow -/
def nxF (k : Env → Ow → R Fl) : R Fl → R Fl
  | .ok (.nx s' o') => k s' o'
  | .ok (.ct s' o') => k s' o'
  | .ok (.bk s' o') => .ok (.nx s' o')
  | .ok (.rt d) => .ok (.rt d)
  | .ex c ds => .ex c ds
  | .no => .no
theorem forR_cons (f : Fc.D → Env → Ow → R Fl) (x : Fc.D) (xs : List Fc.D) (s : Env) (o : Ow) : forR f (x :: xs) s o = nxF (forR f xs) (f x s o) := by
  cases h : f x s o with
  | no => simp only [forR, nxF, h]
  | ex c ds => simp only [forR, nxF, h]
  | ok fl => cases fl <;> simp only [forR, nxF, h]
def nxW (k : Env → Ow → R Fl) : R (Bool × Fl) → R Fl
  | .ok (false, r) => .ok r
  | .ok (true, .nx s' o') => k s' o'
  | .ok (true, .ct s' o') => k s' o'
  | .ok (true, .bk s' o') => .ok (.nx s' o')
  | .ok (true, .rt d) => .ok (.rt d)
  | .ex c ds => .ex c ds
  | .no => .no
theorem whlR_succ (f : Env → Ow → R (Bool × Fl)) (m : Nat) (s : Env) (o : Ow) : whlR f (m + 1) s o = nxW (whlR f m) (f s o) := by
  cases h : f s o with
  | no => simp only [whlR, nxW, h]
  | ex c ds => simp only [whlR, nxW, h]
  | ok p =>
    obtain ⟨b, fl⟩ := p
    cases b <;> cases fl <;> simp only [whlR, nxW, h]
theorem st_if (g : GS T M n W X) {t : E} {a b : Ss} {t' : Expr} {a' b' : List Stmt} {pos : Pos} (h : chkE M X.N X.env.scope t t' = true) (ha : PSs X a' (rSs T M n W X.K os sa H0 G0 rk a)) (hb : PSs X b' (rSs T M n W X.K os sa H0 G0 rk b)) :
    PS X (.If t' a' b' pos) (rS T M n W X.K os sa H0 G0 rk (.if_ t a b)) := by
  refine PS.imp (ps_if (sE t g.toGood t' h).pt ha hb) fun D σ H ⟨Gb, G, s, o, ad, v, ho⟩ => ?_
  have e0 : exS T (call T n) (.if_ t a b) s o = (evE T (call T n) t s >>= fun d => match d with
    | .bl true => exSs T (call T n) a s o
    | .bl false => exSs T (call T n) b s o
    | _ => .no) := rfl
  rw [e0] at ho
  refine v.rdT ?_
  cases q : evE T (call T n) t s with
  | no => rw [q] at ho; exact ho
  | ex c ds => rw [q] at ho; exact ho
  | ok d =>
    rw [q] at ho
    cases d <;> first | exact ho.elim | skip
    rename_i c
    intro H' G2 v2
    cases c with
    | true => rw [if_pos rfl]; exact ⟨Gb, G2, s, o, ad, v2, ho⟩
    | false => rw [if_neg Bool.false_ne_true]; exact ⟨Gb, G2, s, o, ad, v2, ho⟩
/-- a body's end, in a loop -/
theorem OutS.turn {D : Ends} {N : L2.St → Hp → Prop} {fg : List Nat} {r : R Fl} {Gc : Hp} {K : PySem.W.Frag} (hs : Sub Gb Gc)
    (hno : r ≠ .no)
    (hx : ∀ c ds, r = .ex c ds → ExW M K W sa H0 G0 Gb c ds)
    (hr : ∀ d, r = .ok (.rt d) → RetW M K sa H0 G0 Gb rk D.rt d)
    (hb : ∀ s o, r = .ok (.bk s o) → ∀ σ H G ad, Sv M K os sa H0 G0 Gb G H σ (wp fg s) (dropO fg o) ad → D.nx σ H)
    (hn : ∀ s o, (r = .ok (.nx s o) ∨ r = .ok (.ct s o)) → ∀ σ H G ad, Sv M K os sa H0 G0 Gc G H σ (wp fg s) (dropO fg o) ad → N σ H) :
    OutS M K W os sa H0 G0 Gc rk { D with nx := N, ct := N, bk := D.nx } r := by
  cases r with
  | no => exact absurd rfl hno
  | ex c ds => exact fun cls d H' G' h1 h2 h3 h4 => hx c ds rfl cls d H' G' h1 (hs.trans h2) h3 h4
  | ok f =>
    cases f with
    | nx s o =>
      intro σ H G ad v
      obtain ⟨G2, ad2, _, v2⟩ := v.wiped fg
      exact hn s o (.inl rfl) _ _ _ _ v2
    | ct s o =>
      intro σ H G ad v
      obtain ⟨G2, ad2, _, v2⟩ := v.wiped fg
      exact hn s o (.inr rfl) _ _ _ _ v2
    | bk s o =>
      intro σ H G ad v
      obtain ⟨G2, ad2, _, v2⟩ := v.wiped fg
      exact hb s o rfl _ _ _ _ (v2.gb (hs.trans v2.gro))
    | rt d => exact fun w H' G' A h1 h2 h3 h4 h5 h6 => hr d rfl w H' G' A h1 (hs.trans h2) h3 h4 h5 h6
theorem st_for (g : GS T M n W X) {t : Tg} {it : It} {fz fg : List Nat} {b : Ss} {t' it' : Expr} {b' : List Stmt} {pos : Pos} (h1 : chkI M X.N X.env.scope it it' = true) (h2 : tupI it t' = true) (h3 : chkTg X.N X.env.scope t t' = true) (h4 : cov (mnI it) fz os = true)
    (hb : PSs X b' (rSs T M n W X.K os sa H0 G0 rk b)) : PS X (.For t' it' b' [] pos) (rS T M n W X.K os sa H0 G0 rk (.for_ t it fz fg b)) := by
  refine PS.imp (ps_for g.hp g.calm (sI it g.toGood t' it' h1 h2) (sG (M := M) g.calm g.nd g.la t t' h3) hb (fun x => folded_plain (chkI_plain h1))) fun D σ H ⟨Gb, G, s, o, ad, v, ho⟩ => ?_
  generalize hf : (fun (x : Fc.D) (s : Env) (o : Ow) => (match asg t x s with
      | .ok s' => (exSs T (call T n) b s' (dropO (tgS t) o) >>= fun r => .ok (wpF fg r))
      | _ => .no : Fc.R Fl)) = f
  have e0 : exS T (call T n) (.for_ t it fz fg b) s o = (evI T (call T n) it s >>= fun xs => forR f xs (wp fg s) (dropO fg (dropO fz o))) := by rw [← hf]; rfl
  rw [e0] at ho
  refine v.rdW (cov_ok h4) ?_
  cases q : evI T (call T n) it s with
  | no => rw [q] at ho; exact ho
  | ex c ds => rw [q] at ho; exact ho
  | ok xs =>
    rw [q] at ho
    have ho : OutS M X.K W os sa H0 G0 Gb rk D (forR f xs (wp fg s) (dropO fg (dropO fz o))) := ho
    intro J H1 G1 ad1 v1 jok hlen
    obtain ⟨G2, ad2, s2, v2⟩ := v1.wiped fg
    have gb12 : Sub Gb G1 := v1.gro
    refine ⟨fun i m σ H => m = xs.length - i ∧ i ≤ xs.length ∧ ∃ G s o ad, Sv M X.K os sa H0 G0 G1 G H σ s o ad ∧ OutS M X.K W os sa H0 G0 Gb rk D (forR f (xs.drop i) s o),
      ⟨xs.length, by simp, Nat.zero_le _, G2, _, _, ad2, v2.gb s2, by simpa using ho⟩, ?_⟩
    rintro i m σ H ⟨rfl, hi, G, s, o, ad, v, ho⟩
    by_cases hlt : i < xs.length
    · have edrop : xs.drop i = xs[i] :: xs.drop (i + 1) := List.drop_eq_getElem_cons hlt
      rw [edrop] at ho
      refine .inr ⟨jok.go i H G v.gro v.sub hlt, fun σ H => xs.length - (i + 1) = xs.length - (i + 1) ∧ i + 1 ≤ xs.length ∧ ∃ G s o ad, Sv M X.K os sa H0 G0 G1 G H σ s o ad ∧ OutS M X.K W os sa H0 G0 Gb rk D (forR f (xs.drop (i + 1)) s o), fun σ' H' h => ⟨xs.length - (i + 1), by omega, h⟩, fun x H' y => ?_⟩
      obtain ⟨G3, d, g3, hd, rd⟩ := jok.yld i H G x H' v.gro v.sub hlt y
      have ex : xs[i] = d := by rw [List.getElem?_eq_getElem hlt] at hd; exact Option.some.inj hd
      have v3 := v.grown g3
      rw [ex] at ho
      rw [forR_cons] at ho
      generalize hr : f d s o = r at ho
      rw [← hf] at hr
      simp only at hr
      cases qa : asg t d s with
      | no => rw [qa] at hr; subst hr; exact ho.elim
      | ex c ds => rw [qa] at hr; subst hr; exact ho.elim
      | ok s' =>
        rw [qa] at hr
        have hr : (exSs T (call T n) b s' (dropO (tgS t) o) >>= fun r => .ok (wpF fg r)) = r := hr
        obtain ⟨G4, ad4, s4, v4, _⟩ := v3.dropped (tgS t)
        refine ⟨G4, d, v4.sub, rd.mono s4, ⟨_, s', qa⟩, fun σ' ar => ?_⟩
        have v5 := v4.stored (fun i hi => by rw [lk_drop, if_pos hi]) qa ar
        refine ⟨G1, G4, s', _, ad4, v5, ?_⟩
        generalize hb' : exSs T (call T n) b s' (dropO (tgS t) o) = rb at hr
        cases rb with
        | no => subst hr; exact ho.elim
        | ex c ds => subst hr; exact OutS.turn (fg := fg) gb12 (by simp) (fun c' ds' e => by cases e; exact ho) (fun d e => by cases e) (fun s o e => by cases e) fun s o e => e.elim (fun e => by cases e) (fun e => by cases e)
        | ok fl =>
          subst hr
          cases fl with
          | nx s2 o2 => exact OutS.turn (fg := fg) gb12 (by simp) (fun c' ds' e => by cases e) (fun d e => by cases e) (fun s o e => by cases e) fun s o e => e.elim (fun e => by cases e <;> exact fun σ H G ad v => ⟨rfl, hlt, G, _, _, ad, v, ho⟩) (fun e => by cases e <;> exact fun σ H G ad v => ⟨rfl, hlt, G, _, _, ad, v, ho⟩)
          | ct s2 o2 => exact OutS.turn (fg := fg) gb12 (by simp) (fun c' ds' e => by cases e) (fun d e => by cases e) (fun s o e => by cases e) fun s o e => e.elim (fun e => by cases e <;> exact fun σ H G ad v => ⟨rfl, hlt, G, _, _, ad, v, ho⟩) (fun e => by cases e <;> exact fun σ H G ad v => ⟨rfl, hlt, G, _, _, ad, v, ho⟩)
          | bk s2 o2 => exact OutS.turn (fg := fg) gb12 (by simp) (fun c' ds' e => by cases e) (fun d e => by cases e) (fun s o e => by cases e; exact ho) fun s o e => e.elim (fun e => by cases e) (fun e => by cases e)
          | rt d => exact OutS.turn (fg := fg) gb12 (by simp) (fun c' ds' e => by cases e) (fun d e => by cases e; exact ho) (fun s o e => by cases e) fun s o e => e.elim (fun e => by cases e) (fun e => by cases e)
    · have ei : i = xs.length := by omega
      refine .inl ⟨by rw [ei]; exact jok.stop H G v.gro v.sub, ?_⟩
      rw [ei, List.drop_length] at ho
      exact ho _ _ _ _ (v.gb (gb12.trans v.gro))
theorem st_whl (g : GS T M n W X) {t : E} {fg : List Nat} {b : Ss} {t' : Expr} {b' : List Stmt} {pos : Pos} (h1 : chkE M X.N X.env.scope t t' = true) (hb : PSs X b' (rSs T M n W X.K os sa H0 G0 rk b)) :
    PS X (.While t' b' [] pos) (rS T M n W X.K os sa H0 G0 rk (.whl t fg b)) := by
  refine PS.imp (ps_while g.hp (sE t g.toGood t' h1).pt hb) fun D σ H ⟨Gb, G, s, o, ad, v, ho⟩ => ?_
  generalize hf : (fun (s : Env) (o : Ow) => (evE T (call T n) t s >>= fun d => match d with
      | .bl true => (exSs T (call T n) b s o >>= fun r => .ok (true, wpF fg r))
      | .bl false => .ok (false, .nx s o)
      | _ => .no : Fc.R (Bool × Fl))) = f
  have e0 : exS T (call T n) (.whl t fg b) s o = whlR f WF (wp fg s) (dropO fg o) := by rw [← hf]; rfl
  rw [e0] at ho
  obtain ⟨G2, ad2, s2, v2⟩ := v.wiped fg
  refine ⟨fun m σ H => ∃ G s o ad, Sv M X.K os sa H0 G0 Gb G H σ s o ad ∧ OutS M X.K W os sa H0 G0 Gb rk D (whlR f m s o), ⟨WF, G2, _, _, ad2, v2, ho⟩, ?_⟩
  rintro m σ H ⟨G, s, o, ad, v, ho⟩
  cases m with
  | zero => exact ho.elim
  | succ m =>
    rw [whlR_succ] at ho
    generalize hr : f s o = r at ho
    rw [← hf] at hr
    simp only at hr
    refine v.rdT ?_
    cases q : evE T (call T n) t s with
    | no => rw [q] at hr; subst hr; exact ho
    | ex c ds => rw [q] at hr; subst hr; exact ho
    | ok d =>
      rw [q] at hr
      cases d <;> first | (subst hr; exact ho.elim) | skip
      rename_i c
      intro H' G3 v3
      cases c with
      | false => rw [if_neg Bool.false_ne_true]; subst hr; exact ho _ _ _ _ v3
      | true =>
        rw [if_pos rfl]
        have hr : (exSs T (call T n) b s o >>= fun r => .ok (true, wpF fg r)) = r := hr
        refine ⟨fun σ H => ∃ G s o ad, Sv M X.K os sa H0 G0 Gb G H σ s o ad ∧ OutS M X.K W os sa H0 G0 Gb rk D (whlR f m s o), fun σ' H' h => ⟨m, by omega, h⟩, Gb, G3, s, o, ad, v3, ?_⟩
        generalize hb' : exSs T (call T n) b s o = rb at hr
        cases rb with
        | no => subst hr; exact ho.elim
        | ex c ds => subst hr; exact OutS.turn (fg := fg) (Sub.refl _) (by simp) (fun c' ds' e => by cases e; exact ho) (fun d e => by cases e) (fun s o e => by cases e) fun s o e => e.elim (fun e => by cases e) (fun e => by cases e)
        | ok fl =>
          subst hr
          cases fl with
          | nx s2 o2 => exact OutS.turn (fg := fg) (Sub.refl _) (by simp) (fun c' ds' e => by cases e) (fun d e => by cases e) (fun s o e => by cases e) fun s o e => e.elim (fun e => by cases e <;> exact fun σ H G ad v => ⟨G, _, _, ad, v, ho⟩) (fun e => by cases e <;> exact fun σ H G ad v => ⟨G, _, _, ad, v, ho⟩)
          | ct s2 o2 => exact OutS.turn (fg := fg) (Sub.refl _) (by simp) (fun c' ds' e => by cases e) (fun d e => by cases e) (fun s o e => by cases e) fun s o e => e.elim (fun e => by cases e <;> exact fun σ H G ad v => ⟨G, _, _, ad, v, ho⟩) (fun e => by cases e <;> exact fun σ H G ad v => ⟨G, _, _, ad, v, ho⟩)
          | bk s2 o2 => exact OutS.turn (fg := fg) (Sub.refl _) (by simp) (fun c' ds' e => by cases e) (fun d e => by cases e) (fun s o e => by cases e; exact ho) fun s o e => e.elim (fun e => by cases e) (fun e => by cases e)
          | rt d => exact OutS.turn (fg := fg) (Sub.refl _) (by simp) (fun c' ds' e => by cases e) (fun d e => by cases e; exact ho) (fun s o e => by cases e) fun s o e => e.elim (fun e => by cases e) (fun e => by cases e)
end
end Fc

set_option Elab.async false
set_option linter.all false
set_option maxRecDepth 100000
set_option maxHeartbeats 4000000
namespace Fc
open PySem PySem.Spec PyProof.Rows L2
section
variable {T : Tab} {M : Nm} {n : Nat} {W : XK} {X : Cx} {os fz : List Nat} {sa : Option Addr} {rk : Nat} {H0 G0 Gb G H H' G' : Hp} {σ : L2.St} {s : Env} {o : Ow} {ad : Nat → List Addr}
mutual
theorem sS (g : GS T M n W X) : ∀ (st : S) (stmt : Stmt), chkS M X.N os rk X.env.scope st stmt = true → PS X stmt (rS T M n W X.K os sa H0 G0 rk st)
  | .set i k fz e, stmt, h => by
    cases stmt <;> first | (cases h; done) | skip
    rename_i ts e' pos
    cases ts with
    | nil => cases h
    | cons t ts => cases ts with
      | cons _ _ => cases t <;> cases h
      | nil =>
        cases t <;> first | (cases h; done) | skip
        obtain ⟨h1, h⟩ := bA h
        obtain ⟨h2, h⟩ := bA h
        obtain ⟨h3, h⟩ := bA h
        obtain ⟨h4, h6⟩ := bA h
        rw [Bool.or_eq_true] at h4
        exact st_set g (of_decide_eq_true h1) h2 h3 (h4.elim (fun z => .inl (Nat.eq_of_beq_eq_true z)) fun z => .inr (by simpa using z)) h6
  | .unp t fz e, stmt, h => by
    cases stmt <;> first | (cases h; done) | skip
    rename_i ts e' pos
    cases ts with
    | nil => cases h
    | cons t ts => cases ts with
      | cons _ _ => cases t <;> cases h
      | nil =>
        cases t <;> first | (cases h; done) | skip
        obtain ⟨h1, h⟩ := bA h
        obtain ⟨h2, h⟩ := bA h
        obtain ⟨h3, h4⟩ := bA h
        exact st_unp g h1 h2 (by simpa using h3) h4
  | .unpT t fz e ms x, stmt, h => by
    cases stmt <;> first | (cases h; done) | skip
    rename_i ts e' pos
    cases ts with
    | nil => cases h
    | cons t ts => cases ts with
      | cons _ _ => cases t <;> cases h
      | nil =>
        cases t <;> first | (cases h; done) | skip
        obtain ⟨h0, h⟩ := bA h
        obtain ⟨h5, h6⟩ := bA h0
        obtain ⟨h7, h8⟩ := bA h6
        obtain ⟨h1, h⟩ := bA h
        obtain ⟨h2, h⟩ := bA h
        obtain ⟨h3, h4⟩ := bA h
        exact st_unpT g (by simpa using h5) (by simpa using h7) (fun i hi => by simpa using List.all_eq_true.mp h8 i hi) h1 h2 (by simpa using h3) h4
  | .par _ _ _ _ _, stmt, h => by cases h
  | .swap x a b, stmt, h => by
    cases stmt <;> first | (cases h; done) | skip
    rename_i ts e' pos
    cases ts with
    | nil => cases h
    | cons t ts => cases ts with
      | cons _ _ => cases t <;> first | (cases h; done) | (rename_i es _ _; rcases es with _ | ⟨_, _ | ⟨_, _ | _⟩⟩ <;> cases h)
      | nil =>
        cases t <;> first | (cases h; done) | skip
        rename_i es k1 p1
        rcases es with _ | ⟨t1, _ | ⟨t2, _ | ⟨_, _⟩⟩⟩ <;> first | (cases h; done) | skip
        cases e' <;> first | (cases h; done) | skip
        rename_i vs k2 p2
        rcases vs with _ | ⟨v1, _ | ⟨v2, _ | ⟨_, _⟩⟩⟩ <;> first | (cases h; done) | skip
        obtain ⟨h1, h⟩ := bA h
        obtain ⟨h2, h⟩ := bA h
        obtain ⟨h3, h⟩ := bA h
        obtain ⟨h4, h⟩ := bA h
        obtain ⟨h5, h6⟩ := bA h
        exact st_swap g h1 h2 h3 h4 (by simpa using h5) (by simpa using h6)
  | .setix x fz i e, stmt, h => by
    cases stmt <;> first | (cases h; done) | skip
    rename_i ts e' pos
    cases ts with
    | nil => cases h
    | cons t ts => cases ts with
      | cons _ _ => cases t <;> cases h
      | nil =>
        cases t <;> first | (cases h; done) | skip
        obtain ⟨h1, h⟩ := bA h
        obtain ⟨h2, h⟩ := bA h
        obtain ⟨h3, h4⟩ := bA h
        exact st_setix g h1 h2 h3 h4
  | .setix2 _ _ _ _ _, stmt, h => by cases h
  | .app x fz e, stmt, h => by
    cases stmt <;> first | (cases h; done) | skip
    rename_i e' pos
    cases e' <;> first | (cases h; done) | skip
    rename_i fn args ks cp
    cases fn <;> first | (cases h; done) | skip
    rename_i op m ap
    cases args with
    | nil => cases h
    | cons a as => cases as with
      | cons _ _ => cases h
      | nil => cases ks with
        | cons _ _ => cases h
        | nil =>
          obtain ⟨h1, h⟩ := bA h
          obtain ⟨h2, h⟩ := bA h
          obtain ⟨h3, h⟩ := bA h
          obtain ⟨h4, h5⟩ := bA h
          exact st_app g h1 (of_decide_eq_true h2) h3 h4 h5
  | .setf k fz e, stmt, h => by
    cases stmt <;> first | (cases h; done) | skip
    rename_i ts e' pos
    cases ts with
    | nil => cases h
    | cons t ts => cases ts with
      | cons _ _ => cases t <;> cases h
      | nil =>
        cases t <;> first | (cases h; done) | skip
        obtain ⟨h1, h⟩ := bA h
        obtain ⟨h2, h⟩ := bA h
        obtain ⟨h2b, h⟩ := bA h
        obtain ⟨h3, h4⟩ := bA h
        exact st_setf g h1 (of_decide_eq_true h2) (Nat.le_of_ble_eq_true h2b) h3 h4
  | .ret k e, stmt, h => by
    cases stmt <;> first | (cases h; done) | skip
    rename_i eo pos
    cases eo with
    | none => cases h
    | some e' =>
      obtain ⟨h1, h2⟩ := bA h
      exact st_ret g (of_decide_eq_true h1) h2
  | .retN, stmt, h => by
    cases stmt <;> first | (cases h; done) | skip
    rename_i eo pos
    cases eo with
    | some _ => cases h
    | none =>
      have h0 : rk = 0 := of_decide_eq_true h
      subst h0
      exact PS.imp ps_retN fun D σ H ⟨Gb, G, s, o, ad, v, ho⟩ => v.ret0 (show RetW M X.K sa H0 G0 Gb 0 D.rt .non from ho) .non
  | .if_ t a b, stmt, h => by
    cases stmt <;> first | (cases h; done) | skip
    obtain ⟨h1, h⟩ := bA h
    obtain ⟨h2, h3⟩ := bA h
    exact st_if g h1 (sSs g a _ h2) (sSs g b _ h3)
  | .for_ t it fz fg b, stmt, h => by
    cases stmt <;> first | (cases h; done) | skip
    rename_i t' it' b' oe pos
    cases oe with
    | cons _ _ => cases h
    | nil =>
      obtain ⟨h1, h⟩ := bA h
      obtain ⟨h2, h⟩ := bA h
      obtain ⟨h3, h⟩ := bA h
      obtain ⟨h4, h5⟩ := bA h
      exact st_for g h1 h2 h3 h4 (sSs g b _ h5)
  | .whl t fg b, stmt, h => by
    cases stmt <;> first | (cases h; done) | skip
    rename_i t' b' oe pos
    cases oe with
    | cons _ _ => cases h
    | nil =>
      obtain ⟨h1, h2⟩ := bA h
      exact st_whl g h1 (sSs g b _ h2)
  | .brk, stmt, h => by
    cases stmt <;> first | (cases h; done) | skip
    exact PS.imp ps_break fun D σ H ⟨Gb, G, s, o, ad, v, ho⟩ => (show ∀ σ H G ad, Sv M X.K os sa H0 G0 Gb G H σ s o ad → D.bk σ H from ho) _ _ _ _ v
  | .cnt, stmt, h => by
    cases stmt <;> first | (cases h; done) | skip
    exact PS.imp ps_continue fun D σ H ⟨Gb, G, s, o, ad, v, ho⟩ => (show ∀ σ H G ad, Sv M X.K os sa H0 G0 Gb G H σ s o ad → D.ct σ H from ho) _ _ _ _ v
  | .pass, stmt, h => by
    cases stmt <;> first | (cases h; done) | skip
    exact PS.imp ps_pass fun D σ H ⟨Gb, G, s, o, ad, v, ho⟩ => (show ∀ σ H G ad, Sv M X.K os sa H0 G0 Gb G H σ s o ad → D.nx σ H from ho) _ _ _ _ v
  | .rais _ _, stmt, h => PS.imp ps_never fun D σ H ⟨Gb, G, s, o, ad, v, ho⟩ => ho
  | .exp e, stmt, h => by
    cases stmt <;> first | (cases h; done) | skip
    rename_i e' pos
    obtain ⟨h1, h2⟩ := bA h
    refine PS.imp (ps_expr (sE e g.toGood e' h2).pe (sw_plainN (chkE_plain h2) (by simpa using h1))) fun D σ H ⟨Gb, G, s, o, ad, v, ho⟩ => ?_
    have e0 : exS T (call T n) (.exp e) s o = (evE T (call T n) e s >>= fun _ => .ok (.nx s o)) := rfl
    rw [e0] at ho
    refine ⟨fzG H G os ad, s, v.intoF, v.vw (fun i _ hi => hi), ?_⟩
    cases q : evE T (call T n) e s with
    | no => rw [q] at ho; exact ho
    | ex c ds => rw [q] at ho; exact fun cls d H' G' g r => v.exw g ho r
    | ok d => rw [q] at ho; exact fun w H' G' g r => (show ∀ σ H G ad, Sv M X.K os sa H0 G0 Gb G H σ s o ad → D.nx σ H from ho) _ _ _ _ (v.after g)
  | .trye _ _ _ _, stmt, h => PS.imp ps_never fun D σ H ⟨Gb, G, s, o, ad, v, ho⟩ => ho
theorem sSs (g : GS T M n W X) : ∀ (ss : Ss) (l : List Stmt), chkSs M X.N os rk X.env.scope ss l = true → PSs X l (rSs T M n W X.K os sa H0 G0 rk ss)
  | .nil, l, h => by
    cases l with
    | cons _ _ => cases h
    | nil => exact PSs.imp pss_nil fun D σ H ⟨Gb, G, s, o, ad, v, ho⟩ => (show ∀ σ H G ad, Sv M X.K os sa H0 G0 Gb G H σ s o ad → D.nx σ H from ho) _ _ _ _ v
  | .cons st ss, l, h => by
    cases l with
    | nil => cases h
    | cons stmt l =>
      obtain ⟨h1, h2⟩ := bA h
      refine PSs.imp (pss_cons (sS g st stmt h1) (sSs g ss l h2)) fun D σ H ⟨Gb, G, s, o, ad, v, ho⟩ => ?_
      refine ⟨Gb, G, s, o, ad, v, ?_⟩
      have e0 : exSs T (call T n) (.cons st ss) s o = (match exS T (call T n) st s o with
        | .ok (.nx s' o') => exSs T (call T n) ss s' o'
        | .ok f => .ok f
        | .ex c ds => .ex c ds
        | .no => .no) := rfl
      rw [e0] at ho
      cases q : exS T (call T n) st s o with
      | no => rw [q] at ho; exact ho
      | ex c ds => rw [q] at ho; exact ho
      | ok f =>
        rw [q] at ho
        cases f with
        | nx s' o' => exact fun σ H G ad v => ⟨Gb, G, s', o', ad, v, ho⟩
        | bk s' o' => exact ho
        | ct s' o' => exact ho
        | rt d => exact ho
end
end
end Fc

set_option Elab.async false
set_option linter.all false
set_option maxRecDepth 100000
set_option maxHeartbeats 4000000
namespace Fc
open PySem PySem.Spec PyProof.Rows L2
section
variable {T : Tab} {M : Nm} {n : Nat} {K : PySem.W.Frag} {H G : Hp}
/-- a def of the text, as one of ours -/
structure OneD (T : Tab) (M : Nm) (K : PySem.W.Frag) (f : Nat) (d : Def) (N : List Str) (fd : FuncData) : Prop where
  ex : ∃ x qual params body scope kws, FunD K x qual params body scope [] kws (He.fAd K (M.at_ f)) fd ∧ FnScope N (M.ps f) scope ∧ chkSs M N d.owns d.rk scope d.body body = true
  nl : N.length = d.nl
  np : (M.ps f).length = d.np
  own : d.init = true → d.owns.contains 0 = true ∧ d.rk = 0
theorem start_get {N : List Str} {vs : List V} {ds : List D} {k : Nat} (r : Reps M K G vs ds) (i : Nat) (d : D) (h : (ds.map some ++ List.replicate k none)[i]? = some (some d)) : ∃ v, (L2.start N vs)[i]? = some (some v) ∧ Rep M K G v d := by
  by_cases hi : i < ds.length
  · rw [List.getElem?_append_left (by simpa using hi), List.getElem?_map] at h
    have h1 : ds[i]? = some d := by
      cases q : ds[i]? with
      | none => rw [q] at h; cases h
      | some x => rw [q] at h; cases h; rfl
    obtain ⟨v, hv, rv⟩ := r.get h1
    refine ⟨v, ?_, rv⟩
    unfold L2.start
    rw [List.getElem?_append_left (by rw [List.length_map, r.length]; exact hi), List.getElem?_map, hv]
    rfl
  · rw [List.getElem?_append_right (by simpa using hi), List.getElem?_replicate] at h
    split at h <;> cases h
theorem start_len {N : List Str} {vs : List V} {ds : List D} {nl np : Nat} (r : Reps M K G vs ds) (h1 : N.length = nl) (h2 : ds.length = np) (h3 : np ≤ nl) : (ds.map some ++ List.replicate (nl - np) (none : Option D)).length = (L2.start N vs).length := by
  unfold L2.start
  simp only [List.length_append, List.length_map, List.length_replicate]
  have := r.length
  omega
theorem ok_def {P : Program} {w : World} {mg : Str → Option Value} {base : Heap} (ev : Env1 T M K mg) (lv : Lv T M P w K mg base n) {f : Nat} {d : Def} {N : List Str} {fd : FuncData} (hd : T.fn f = some d) (O : OneD T M K f d N fd) :
    FnOk P w K mg base (CX P w) (2 * n + 42) (He.fAd K (M.at_ f)) fd (M.ps f) (spF T M K (n + 1) f d) := by
  obtain ⟨x, qual, params, body, scope, kws, F, S, chk⟩ := O.ex
  have hnp : d.np ≤ d.nl := by
    have := congrArg List.length S.pre
    rw [List.length_take, O.np, O.nl] at this
    omega
  refine FunD.ok (N := N) F S (fun vs H Q E h => ?_) fun cdv A outer s H vs Q E hr h => ?_
  · unfold spF at h
    cases hi : d.init with
    | false => rw [hi] at h; obtain ⟨_, _, h1, _⟩ := h; exact h1
    | true => rw [hi] at h; obtain ⟨_, _, _, _, _, _, _, h1, _⟩ := h; exact h1
  · let X := cxOf (CX P w) P w K mg base N qual scope (He.fAd K (M.at_ f)) cdv A outer s H E
    have good : Good T M n E X := ⟨rfl, hr, S.nd, takes_of (X := X) rfl rfl rfl rfl, ev, lv⟩
    have gs : GS T M n E X := ⟨good, passes_of (X := X) rfl, fun y hy => ⟨loc_ok hy, .inl rfl⟩, S.kind⟩
    unfold spF at h
    cases hi : d.init with
    | false =>
      rw [hi] at h
      obtain ⟨G, ds, h1, h2, h3, ho⟩ := h
      refine ⟨_, sSs (sa := none) (H0 := H) (G0 := G) gs d.body body chk, ?_⟩
      have hlen : ds.length = d.np := by rw [← h3.length, h1, O.np]
      refine ⟨G, G, inS d ds, [], fun _ => [], ?_, ?_⟩
      · refine ⟨start_len h3 O.nl hlen hnp, h2, fun b u _ h => h, fun b u h => ⟨u, h⟩, (fun a h => by cases h), Sub.refl _, fun b u _ _ => rfl, (fun i k h => by cases h), fun i _ => rfl, (fun i p h => by cases h), (fun i p h => by cases h), (fun i j p _ h => by cases h), fun i d' hd' => ?_⟩
        obtain ⟨v, hv, r⟩ := start_get h3 i d' hd'
        exact ⟨v, hv, .inl ⟨rfl, r⟩⟩
      · have e0 : call T (n + 1) f ds = endF d.rk (exSs T (call T n) d.body (inS d ds) []) := by
          show (match T.fn f with
            | some d => runDef T (call T n) d ds
            | none => .no) = _
          rw [hd]
          show runDef T (call T n) d ds = _
          unfold runDef
          rw [if_pos hlen, hi]
        rw [e0] at ho
        cases q : exSs T (call T n) d.body (inS d ds) [] with
        | no => rw [q] at ho; exact ho
        | ex c ds => rw [q] at ho; exact fun cls d' H' G' a1 a2 a3 a4 r => ho cls d' H' G' ⟨fun b u e => a1 b u (by simp) e, a2, a3, fun b u e => a4 b u (by simp) e⟩ r
        | ok fl =>
          rw [q] at ho
          cases fl with
          | bk s o => exact ho.elim
          | ct s o => exact ho.elim
          | rt v => exact fun w H' G' A a1 a2 a3 a4 hA ow => ho w H' G' A ⟨fun b u e => a1 b u (by simp) e, a2, a3, fun b u e => a4 b u (by simp) e⟩ hA ow
          | nx s' o' =>
            intro σ H' G' ad v
            have ho : OutK M K E d.rk H G Q (if d.rk = 0 then .ok .non else .no) := ho
            split at ho
            case isFalse => exact ho.elim
            rename_i hrk
            rw [hrk] at ho
            exact ho .non H' G' [] ⟨fun b u e => v.ext b u (by simp) e, v.gro, v.sub, fun b u e => v.new b u (by simp) e⟩ (by simp) ⟨rfl, .non⟩
    | true =>
      rw [hi] at h
      obtain ⟨G, ds, a, dx, c, vr, rfl, h1, ha, ga, h2, h3, ho⟩ := h
      obtain ⟨w1, w2⟩ := O.own hi
      refine ⟨_, sSs (sa := some a) (H0 := H) (G0 := G) gs d.body body chk, ?_⟩
      have hlen : (D.obj c [] [] :: ds).length = d.np := by
        rw [List.length_cons, ← h3.length, ← O.np, ← h1]; rfl
      refine ⟨G, G, inS d (D.obj c [] [] :: ds), [(0, 1)], fun i => if i = 0 then [a] else [], ?_, ?_⟩
      · refine ⟨?_, h2, fun b u _ h => h, fun b u h => ⟨u, h⟩, (fun b h => by cases h; exact ⟨_, _, _, ha⟩), Sub.refl _, fun b u _ _ => rfl, fun i k h => ?_, fun i h => ?_, fun i p h => ?_, fun i p h => ?_, fun i j p hij h => ?_, fun i d' hd' => ?_⟩
        · unfold L2.start inS
          simp only [List.length_append, List.length_map, List.length_replicate, List.length_cons]
          have := h3.length
          have := O.nl
          simp only [List.length_cons] at hlen
          omega
        · rw [List.lookup_cons] at h
          by_cases h0 : i = 0
          · subst h0; simpa using w1
          · have : (i == 0) = false := beq_eq_false_iff_ne.mpr h0
            rw [this] at h; cases h
        · rw [List.lookup_cons] at h
          by_cases h0 : i = 0
          · subst h0; rw [beq_self_eq_true] at h; cases h
          · rw [if_neg h0]
        · by_cases h0 : i = 0
          · subst h0
            rw [if_pos rfl] at h
            have : p = a := by simpa using h
            subst this
            exact .inr rfl
          · rw [if_neg h0] at h; cases h
        · by_cases h0 : i = 0
          · subst h0
            rw [if_pos rfl] at h
            have : p = a := by simpa using h
            subst this
            exact ⟨ga, .inr ⟨c, dx, [], rfl, ha, rfl⟩⟩
          · rw [if_neg h0] at h; cases h
        · intro h'
          by_cases h0 : i = 0
          · subst h0
            rw [if_neg (Ne.symm hij)] at h'; cases h'
          · rw [if_neg h0] at h; cases h
        · cases i with
          | zero =>
            have h9 : some (some (D.obj c [] [])) = some (some d') := hd'
            cases h9
            exact ⟨.ref a, rfl, .inr ⟨1, rfl, a, dx, [], rfl, rfl, rfl, ha, ga, ⟨rfl, by simp⟩, .nil⟩⟩
          | succ i =>
            have hd2 : (ds.map some ++ List.replicate (d.nl - d.np) none)[i]? = some (some d') := hd'
            by_cases hi : i < ds.length
            · rw [List.getElem?_append_left (by simpa using hi), List.getElem?_map] at hd2
              have h1 : ds[i]? = some d' := by
                cases q : ds[i]? with
                | none => rw [q] at hd2; cases hd2
                | some x => rw [q] at hd2; cases hd2; rfl
              obtain ⟨v, hv, rv⟩ := h3.get h1
              refine ⟨v, ?_, .inl ⟨rfl, rv⟩⟩
              unfold L2.start
              rw [List.getElem?_append_left (by rw [List.length_map, List.length_cons, h3.length]; omega), List.getElem?_map, List.getElem?_cons_succ, hv]
              rfl
            · rw [List.getElem?_append_right (by simpa using hi), List.getElem?_replicate] at hd2
              split at hd2 <;> cases hd2
      · have e0 : call T (n + 1) f (.obj c [] [] :: ds) = endI (exSs T (call T n) d.body (inS d (D.obj c [] [] :: ds)) [(0, 1)]) := by
          show (match T.fn f with
            | some d => runDef T (call T n) d (D.obj c [] [] :: ds)
            | none => .no) = _
          rw [hd]
          show runDef T (call T n) d (D.obj c [] [] :: ds) = _
          unfold runDef
          rw [if_pos hlen, hi]
        rw [e0] at ho
        rw [w2]
        cases q : exSs T (call T n) d.body (inS d (D.obj c [] [] :: ds)) [(0, 1)] with
        | no => rw [q] at ho; exact ho
        | ex c' ds' => rw [q] at ho; exact fun cls d' H' G' a1 a2 a3 a4 r => ho cls d' H' G' (fun b u hb e => a1 b u (by simpa using hb) e) a2 a3 (fun b u hb e => a4 b u (by simpa using hb) e) r
        | ok fl =>
          rw [q] at ho
          cases fl with
          | bk s o => exact ho.elim
          | ct s o => exact ho.elim
          | rt v => exact ho.elim
          | nx s' o2 =>
          cases s' with
          | nil => exact ho.elim
          | cons x r2 =>
          cases x with
          | none => exact ho.elim
          | some d2 =>
          cases d2 <;> try exact ho.elim
          rename_i c2 ks2 ds2
          have ho : OutI M K E a H G Q (if (o2.lookup 0).isSome then .ok (.obj c2 ks2 ds2) else .no) := ho
          split at ho
          case isFalse => exact ho.elim
          rename_i hs
          obtain ⟨k, hk⟩ := Option.isSome_iff_exists.mp hs
          intro σ H' G' ad v
          obtain ⟨u, hu, z⟩ := v.at_ 0 _ rfl
          rcases z with ⟨z, _⟩ | ⟨k', hk', ow⟩
          · rw [hk] at z; cases z
          have ow' : OwnS M K (some a) H' G' k' (ad 0) u (.obj c2 ks2 ds2) := ow
          obtain ⟨a2, dx2, fs2, eA, es, rfl, b1, b2, b3, b4⟩ := ow
          cases es
          have ha0 : InF [0] ad a := ⟨0, by simp, by rw [eA]; simp⟩
          refine ho H' (fzG H' G' [0] ad) (fun b u hb e => v.ext b u (by simpa using hb) e) (v.gro.trans v.subF) v.intoF (fun b u hb e => ?_) ?_
          · have := v.newG (fz := [0]) (Grow.refl v.intoF) (b := b) (u := u) (by simpa using hb) e
            exact this.2
          · exact .obj ((fzG_in ha0).trans b1) b3 (b4.mono v.subF)
/-- how a def's arguments bind, for each use -/
structure BindD (T : Tab) (M : Nm) (K : PySem.W.Frag) (f : Nat) (d : Def) (fd : FuncData) : Prop where
  nml : d.init = false → BindF M K fd (M.ps f) none
  mkr : ∀ c kw, T.init c = some (f, kw) → BindF M K fd (M.ps f) (kw.map fun d => (M.kw c, d))
structure Text (T : Tab) (M : Nm) (K : PySem.W.Frag) : Prop where
  one : ∀ f d, T.fn f = some d → ∃ N fd, OneD T M K f d N fd ∧ BindD T M K f d fd
theorem sp_zero {f : Nat} {d : Def} {vs : List V} {Q : VK} {E : XK} (h : spF T M K 0 f d vs H Q E) : False := by
  unfold spF at h
  cases hi : d.init with
  | false => rw [hi] at h; obtain ⟨_, _, _, _, _, h⟩ := h; exact h
  | true => rw [hi] at h; obtain ⟨_, _, _, _, _, _, _, _, _, _, _, _, h⟩ := h; exact h
theorem lv_all {P : Program} {w : World} {mg : Str → Option Value} {base : Heap} (ev : Env1 T M K mg) (X : Text T M K) : ∀ n, Lv T M P w K mg base n
  | 0 => ⟨fun f d hd => by
    obtain ⟨N, fd, O, B⟩ := X.one f d hd
    exact ⟨O.np, fd, ⟨fun vs H Q E h => (sp_zero h).elim, fun A outer s H args us vs Q E hr e0 hb hv hs => (sp_zero hs).elim⟩, B.nml, B.mkr⟩⟩
  | n + 1 => ⟨fun f d hd => by
    obtain ⟨N, fd, O, B⟩ := X.one f d hd
    exact ⟨O.np, fd, ok_def ev (lv_all ev X n) hd O, B.nml, B.mkr⟩⟩
end
end Fc

set_option Elab.async false
set_option linter.all false
set_option maxRecDepth 100000
set_option maxHeartbeats 4000000
namespace Fc
open PySem PySem.Spec PyProof.Rows L2
/-! ### tables as lists -/
structure TL where
  fns : List (Nat × Def)
  mts : List ((Nat × Nat) × Nat)
  inis : List (Nat × (Nat × Option D))
def TL.tab (L : TL) : Tab where
  fn := fun f => L.fns.lookup f
  mt := fun c m => L.mts.lookup (c, m)
  init := fun c => L.inis.lookup c
  exs := fun _ _ => false
structure NL where
  ats : List (Nat × (Str × Option Str))
  pss : List (Nat × List Str)
  cls : List (Nat × Str)
  fds : List Str
  mts : List Str
  kws : List (Nat × Str)
  frees : List Str
def NL.nm (N : NL) : Nm where
  at_ := fun f => (N.ats.lookup f).getD ("", none)
  ps := fun f => (N.pss.lookup f).getD []
  cl := fun c => (N.cls.lookup c).getD ""
  fd := fun k => N.fds.getD k ""
  mt := fun k => N.mts.getD k ""
  kw := fun c => (N.kws.lookup c).getD ""
  frees := N.frees
  nf := N.fds.length
  nm := N.mts.length
theorem mem_lk {α β : Type} [BEq α] [LawfulBEq α] {a : α} {b : β} : ∀ {l : List (α × β)}, l.lookup a = some b → (a, b) ∈ l
  | [], h => by cases h
  | (x, y) :: l, h => by
    rw [List.lookup_cons] at h
    cases e : a == x with
    | true =>
      rw [e] at h
      cases h
      rw [eq_of_beq e]
      exact List.mem_cons_self
    | false =>
      rw [e] at h
      exact List.mem_cons_of_mem _ (mem_lk h)
def dOk (o : Option Def) (b : Bool) : Bool := match o with
  | some d => d.init == b
  | none => false
def tyNs : List String := ["int", "bool", "list", "tuple"]
def tyNs2 : List String := ["int", "bool", "list", "tuple", "NoneType"]
def nodupB : List Str → Bool
  | [] => true
  | x :: xs => !xs.contains x && nodupB xs
theorem nodupB_ok : ∀ {l : List Str}, nodupB l = true → l.Nodup
  | [], _ => .nil
  | x :: xs, h => by
    obtain ⟨h1, h2⟩ := bA h
    exact List.nodup_cons.mpr ⟨by simpa using h1, nodupB_ok h2⟩
def clB (L : TL) (N : NL) (K : PySem.W.Frag) (p : Nat × (Nat × Option D)) : Bool :=
  decide (N.nm.at_ p.2.1 = (N.nm.cl p.1, some ("__init__" : Str))) && ((He.Fa.cls (N.nm.cl p.1)).ok K && ((He.Fa.mkr (N.nm.cl p.1)).ok K && ((He.Fa.glo (N.nm.cl p.1)).ok K && (dOk (L.fns.lookup p.2.1) true && ((p.2.2.isNone || Nat.ble 2 (N.nm.ps p.2.1).length) &&
    ((N.fds.all fun x => (He.Fa.noat (N.nm.cl p.1) x).ok K) && ((tyNs.all fun t => decide (PySem.W.kitOne K (.ref (N.nm.C K p.1)) (.type t) = some false)) && ((tyNs2.all fun t => decide (PySem.W.kitOne K (.type t) (.ref (N.nm.C K p.1)) = some false)) &&
      ((L.inis.all fun q => decide (PySem.W.kitOne K (.ref (N.nm.C K p.1)) (.ref (N.nm.C K q.1)) = some (p.1 == q.1))) && (He.eqO (PySem.W.findIn K (.ref (N.nm.C K p.1)) "__class__") (some (some (.builtin "object.__class__"))) && (PySem.W.selfFirst K (N.nm.C K p.1) && decide (PySem.W.mroIn K (N.nm.C K p.1) (.type "object") = some true))))))))))))
def envB (L : TL) (N : NL) (K : PySem.W.Frag) : Bool :=
  (L.fns.all fun p => PySem.W.keepIn K (.ref (He.fAd K (N.nm.at_ p.1))) && (match (N.nm.at_ p.1).2 with
    | none => !p.2.init && (He.Fa.glo (N.nm.at_ p.1).1).ok K
    | some _ => true)) &&
  ((L.mts.all fun p => decide (N.nm.at_ p.2 = (N.nm.cl p.1.1, some (N.nm.mt p.1.2))) && ((He.Fa.meth (N.nm.cl p.1.1) (N.nm.mt p.1.2)).ok K && (dOk (L.fns.lookup p.2) false && (L.inis.lookup p.1.1).isSome))) &&
  ((L.inis.all (clB L N K)) && ((N.frees.all fun x => (He.Fa.free x).ok K) && (He.eqO (PySem.W.nsIn K mainGlobals "gcd") (some (some (.builtin "math.gcd"))) &&
  ((He.eqO (PySem.W.specialIn K (.builtin "object.__class__") "__get__") (some (some (.builtin "getset_descriptor.__get__"))) && decide (PySem.W.takesIn K (.builtin "object.__class__") = some true)) &&
  (nodupB N.fds && (N.mts.all fun m => !N.fds.contains m))))))) && (decide (N.nm.mt 0 = "__eq__") && (decide (N.nm.mt 1 = "__len__") && (decide (N.nm.mt 2 = "__add__") && decide (N.nm.mt 3 = "__sub__"))))
theorem getD_mem {l : List Str} {k : Nat} (h : k < l.length) : l.getD k "" ∈ l := by
  rw [List.getD_eq_getElem?_getD, List.getElem?_eq_getElem h]
  exact List.getElem_mem h
theorem dOk_ok {o : Option Def} {b : Bool} (h : dOk o b = true) : ∃ d, o = some d ∧ d.init = b := by
  cases o with
  | none => cases h
  | some d => exact ⟨d, rfl, eq_of_beq h⟩
theorem env_ok {L : TL} {N : NL} {K : PySem.W.Frag} {h : Heap} {mg : Str → Option Value} (X : K.In h) (G : h.Ns mainGlobals mg) (c : envB L N K = true) : Env1 L.tab N.nm K mg := by
  obtain ⟨c, cm⟩ := bA c
  obtain ⟨c1, c⟩ := bA c
  obtain ⟨c2, c⟩ := bA c
  obtain ⟨c3, c⟩ := bA c
  obtain ⟨c4, c⟩ := bA c
  obtain ⟨c5, c⟩ := bA c
  obtain ⟨c6, c⟩ := bA c
  obtain ⟨c7, c8⟩ := bA c
  obtain ⟨c6a, c6b⟩ := bA c6
  obtain ⟨m0, cm⟩ := bA cm
  obtain ⟨m1, cm⟩ := bA cm
  obtain ⟨m2, m3⟩ := bA cm
  have fns : ∀ f d, L.tab.fn f = some d → PySem.W.keepIn K (.ref (He.fAd K (N.nm.at_ f))) = true ∧ ∀ x, N.nm.at_ f = (x, none) → d.init = false ∧ (He.Fa.glo x).ok K = true := fun f d hd => by
    have hm : (f, d) ∈ L.fns := mem_lk hd
    obtain ⟨a1, a2⟩ := bA (List.all_eq_true.mp c1 _ hm)
    refine ⟨a1, fun x hx => ?_⟩
    have a2 : (match (N.nm.at_ f).2 with
      | none => !d.init && (He.Fa.glo (N.nm.at_ f).1).ok K
      | some _ => true) = true := a2
    rw [hx] at a2
    obtain ⟨b1, b2⟩ := bA a2
    exact ⟨by simpa using b1, b2⟩
  have mts : ∀ c m f, L.tab.mt c m = some f → N.nm.at_ f = (N.nm.cl c, some (N.nm.mt m)) ∧ (He.Fa.meth (N.nm.cl c) (N.nm.mt m)).ok K = true ∧ (∃ d, L.fns.lookup f = some d ∧ d.init = false) ∧ ∃ p, L.tab.init c = some p := fun c m f hm => by
    have hm : ((c, m), f) ∈ L.mts := mem_lk hm
    obtain ⟨a1, a⟩ := bA (List.all_eq_true.mp c2 _ hm)
    obtain ⟨a2, a⟩ := bA a
    obtain ⟨a3, a4⟩ := bA a
    exact ⟨of_decide_eq_true a1, a2, dOk_ok a3, Option.isSome_iff_exists.mp a4⟩
  have inis : ∀ c p, L.tab.init c = some p → clB L N K (c, p) = true := fun c p hp => List.all_eq_true.mp c3 _ (mem_lk hp)
  exact {
    glo := fun f d x hd hx => He.glo_ok X G ((fns f d hd).2 x hx).2
    ini := fun f d x hd hx => ((fns f d hd).2 x hx).1
    kp := fun f d hd => (fns f d hd).1
    mth := fun c m f hm => by
      obtain ⟨a1, a2, a3, _⟩ := mts c m f hm
      refine ⟨?_, a3⟩
      rw [a1]
      exact He.meth_ok a2
    cls := fun c f kw hp => by
      obtain ⟨a1, a⟩ := bA (inis c _ hp)
      obtain ⟨a2, a⟩ := bA a
      obtain ⟨a3, a⟩ := bA a
      obtain ⟨a4, a⟩ := bA a
      obtain ⟨a5, a⟩ := bA a
      have e : N.nm.at_ f = (N.nm.cl c, some ("__init__" : Str)) := of_decide_eq_true a1
      refine ⟨He.cls_ok a2, ?_, He.glo_ok X G a4, dOk_ok a5⟩
      rw [e]
      exact He.mkr_ok a3
    kwl := fun c f d hp => by
      obtain ⟨a1, a⟩ := bA (inis c _ hp)
      obtain ⟨a2, a⟩ := bA a
      obtain ⟨a3, a⟩ := bA a
      obtain ⟨a4, a⟩ := bA a
      obtain ⟨a5, a⟩ := bA a
      obtain ⟨a6, a⟩ := bA a
      exact Nat.le_of_ble_eq_true (show Nat.ble 2 (N.nm.ps f).length = true from a6)
    mtc := fun c m f hm => (mts c m f hm).2.2.2
    noat := fun c p k hp hk => by
      obtain ⟨a1, a⟩ := bA (inis c _ hp)
      obtain ⟨a2, a⟩ := bA a
      obtain ⟨a3, a⟩ := bA a
      obtain ⟨a4, a⟩ := bA a
      obtain ⟨a5, a⟩ := bA a
      obtain ⟨a6, a⟩ := bA a
      obtain ⟨a7, a⟩ := bA a
      exact He.noat_ok (List.all_eq_true.mp a7 _ (getD_mem hk))
    fdi := fun i j hi hj e => by
      have hn := nodupB_ok c7
      have hi' : i < N.fds.length := hi
      have hj' : j < N.fds.length := hj
      have e' : N.fds.getD i "" = N.fds.getD j "" := e
      rw [List.getD_eq_getElem?_getD, List.getD_eq_getElem?_getD, List.getElem?_eq_getElem hi', List.getElem?_eq_getElem hj'] at e'
      exact (List.getElem_inj hn).mp e'
    mfd := fun m k hm hk e => by
      have h1 := List.all_eq_true.mp c8 _ (getD_mem (l := N.mts) hm)
      have h2 : N.fds.getD k "" ∈ N.fds := getD_mem hk
      have e' : N.mts.getD m "" = N.fds.getD k "" := e
      rw [e'] at h1
      have h3 : N.fds.contains (N.fds.getD k "") = true := List.elem_eq_true_of_mem h2
      rw [h3] at h1
      cases h1
    free := fun x hx => He.free_ok X G (List.all_eq_true.mp c4 x hx)
    gcd := PySem.W.mg_of X G (He.eqO_ok c5)
    kit := fun c p t hp ht => by
      obtain ⟨a1, a⟩ := bA (inis c _ hp)
      obtain ⟨a2, a⟩ := bA a
      obtain ⟨a3, a⟩ := bA a
      obtain ⟨a4, a⟩ := bA a
      obtain ⟨a5, a⟩ := bA a
      obtain ⟨a6, a⟩ := bA a
      obtain ⟨a7, a⟩ := bA a
      obtain ⟨a8, a⟩ := bA a
      exact of_decide_eq_true (List.all_eq_true.mp a8 t ht)
    kitC := fun c p c' p' hp hp' => by
      obtain ⟨a1, a⟩ := bA (inis c _ hp)
      obtain ⟨a2, a⟩ := bA a
      obtain ⟨a3, a⟩ := bA a
      obtain ⟨a4, a⟩ := bA a
      obtain ⟨a5, a⟩ := bA a
      obtain ⟨a6, a⟩ := bA a
      obtain ⟨a7, a⟩ := bA a
      obtain ⟨a8, a⟩ := bA a
      obtain ⟨a9, a⟩ := bA a
      obtain ⟨a10, a⟩ := bA a
      exact of_decide_eq_true (List.all_eq_true.mp a10 (c', p') (mem_lk hp'))
    kitB := fun c' p' t hp ht => by
      obtain ⟨a1, a⟩ := bA (inis c' _ hp)
      obtain ⟨a2, a⟩ := bA a
      obtain ⟨a3, a⟩ := bA a
      obtain ⟨a4, a⟩ := bA a
      obtain ⟨a5, a⟩ := bA a
      obtain ⟨a6, a⟩ := bA a
      obtain ⟨a7, a⟩ := bA a
      obtain ⟨a8, a⟩ := bA a
      obtain ⟨a9, a⟩ := bA a
      exact of_decide_eq_true (List.all_eq_true.mp a9 t ht)
    clsX := fun c p hp => by
      obtain ⟨a1, a⟩ := bA (inis c _ hp)
      obtain ⟨a2, a⟩ := bA a
      obtain ⟨a3, a⟩ := bA a
      obtain ⟨a4, a⟩ := bA a
      obtain ⟨a5, a⟩ := bA a
      obtain ⟨a6, a⟩ := bA a
      obtain ⟨a7, a⟩ := bA a
      obtain ⟨a8, a⟩ := bA a
      obtain ⟨a9, a⟩ := bA a
      obtain ⟨a10, a⟩ := bA a
      obtain ⟨a11, a⟩ := bA a
      exact He.eqO_ok a11
    mro := fun c p hp => by
      obtain ⟨a1, a⟩ := bA (inis c _ hp)
      obtain ⟨a2, a⟩ := bA a
      obtain ⟨a3, a⟩ := bA a
      obtain ⟨a4, a⟩ := bA a
      obtain ⟨a5, a⟩ := bA a
      obtain ⟨a6, a⟩ := bA a
      obtain ⟨a7, a⟩ := bA a
      obtain ⟨a8, a⟩ := bA a
      obtain ⟨a9, a⟩ := bA a
      obtain ⟨a10, a⟩ := bA a
      obtain ⟨a11, a⟩ := bA a
      obtain ⟨a12, a13⟩ := bA a
      exact of_decide_eq_true a13
    clsY := ⟨He.eqO_ok c6a, of_decide_eq_true c6b⟩
    selfF := fun c p hp => by
      obtain ⟨a1, a⟩ := bA (inis c _ hp)
      obtain ⟨a2, a⟩ := bA a
      obtain ⟨a3, a⟩ := bA a
      obtain ⟨a4, a⟩ := bA a
      obtain ⟨a5, a⟩ := bA a
      obtain ⟨a6, a⟩ := bA a
      obtain ⟨a7, a⟩ := bA a
      obtain ⟨a8, a⟩ := bA a
      obtain ⟨a9, a⟩ := bA a
      obtain ⟨a10, a⟩ := bA a
      obtain ⟨a11, a⟩ := bA a
      obtain ⟨a12, a13⟩ := bA a
      exact a12
    m0 := of_decide_eq_true m0
    m1 := of_decide_eq_true m1
    m2 := of_decide_eq_true m2
    m3 := of_decide_eq_true m3 }
/-! ### a def's text -/
def fscB (N ps : List Str) (sc : Scope) : Bool := (match sc.kind with
  | .function => true
  | _ => false) && (!sc.isCoroutine && (!sc.isGenerator && (nodupB N && (decide (N.take ps.length = ps) && ((ps.all fun x => loc sc x) && (sc.names.all fun y => match y.2 with
  | .free => false
  | _ => true))))))
theorem fsc_ok {N ps : List Str} {sc : Scope} (h : fscB N ps sc = true) : FnScope N ps sc := by
  obtain ⟨h1, h⟩ := bA h
  obtain ⟨h2, h⟩ := bA h
  obtain ⟨h3, h⟩ := bA h
  obtain ⟨h4, h⟩ := bA h
  obtain ⟨h5, h⟩ := bA h
  obtain ⟨h6, h7⟩ := bA h
  refine ⟨?_, by simpa using h2, by simpa using h3, nodupB_ok h4, of_decide_eq_true h5, fun x hx => loc_ok (List.all_eq_true.mp h6 x hx), fun y hy e => ?_⟩
  · cases e : sc.kind <;> rw [e] at h1 <;> first | rfl | cases h1
  · have := List.all_eq_true.mp h7 y hy
    rw [e] at this
    cases this
def oneB (N : NL) (f : Nat) (d : Def) (ns : List Str) (sc : Scope) (body : List Stmt) : Bool :=
  fscB ns (N.nm.ps f) sc && (chkSs N.nm ns d.owns d.rk sc d.body body && (Nat.beq ns.length d.nl && (Nat.beq (N.nm.ps f).length d.np && (!d.init || (d.owns.contains 0 && Nat.beq d.rk 0)))))
theorem one_ok {T : Tab} {N : NL} {K : PySem.W.Frag} {f : Nat} {d : Def} {ns : List Str} {x qual : Str} {params : Arguments} {body : List Stmt} {sc : Scope} {kws : List (Str × V)} {fd : FuncData} (h : oneB N f d ns sc body = true) (F : FunD K x qual params body sc [] kws (He.fAd K (N.nm.at_ f)) fd) : OneD T N.nm K f d ns fd := by
  obtain ⟨h1, h⟩ := bA h
  obtain ⟨h2, h⟩ := bA h
  obtain ⟨h3, h⟩ := bA h
  obtain ⟨h4, h5⟩ := bA h
  refine ⟨⟨x, qual, params, body, sc, kws, F, fsc_ok h1, h2⟩, Nat.eq_of_beq_eq_true h3, Nat.eq_of_beq_eq_true h4, fun hi => ?_⟩
  rw [hi] at h5
  obtain ⟨a, b⟩ := bA (show (d.owns.contains 0 && Nat.beq d.rk 0) = true from h5)
  exact ⟨a, Nat.eq_of_beq_eq_true b⟩
theorem bind_n {T : Tab} {M : Nm} {K : PySem.W.Frag} {f : Nat} {d : Def} {fd : FuncData} (h : Binds K fd (M.ps f) []) (hi : ∀ c kw, T.init c = some (f, kw) → kw = none) : BindD T M K f d fd :=
  ⟨fun _ => ⟨fun _ => h, fun y d e => by cases e⟩, fun c kw e => ⟨fun _ => h, fun y d e' => by rw [hi c kw e] at e'; cases e'⟩⟩
/-! ### the head's Hook -/
def obsX (L : TL) (N : NL) (fn : List He.DefD) (K : PySem.W.Frag) : He.AlD := (envB L N K && fn.all fun d => d.ok K, fn.map fun d => He.fnW K d.at_)
def obsXG (n : Nat) (L : TL) (N : NL) (fn : List He.DefD) (g : Addr → Option Obj) : He.AlD := obsX L N fn (He.frG g (He.asD g n))
def hookX (n : Nat) (L : TL) (N : NL) (fn : List He.DefD) : PySem.W.Hook where
  α := He.AlD
  obs := fun s => obsXG n L N fn s.heap.get?
  val := fun _ => He.valD fn
  says := fun _ h => ∃ K : PySem.W.Frag, K.In h ∧ obsX L N fn K = He.valD fn
  of := fun _ _ e => ⟨_, He.frG_in, e⟩
  keeps := fun _ _ _ ⟨K, hK, c⟩ k => ⟨K, PySem.W.Frag.In.keeps hK k, c⟩
theorem obsXG_eq {n : Nat} {L : TL} {N : NL} {fn : List He.DefD} {g : Addr → Option Obj} {s : Shared} (h : ∀ a, g a = s.heap.get? a) : obsXG n L N fn g = (hookX n L N fn).obs s := by
  have e : g = s.heap.get? := funext h
  rw [e] <;> rfl
section
variable {L : TL} {N : NL} {fn : List He.DefD} {K : PySem.W.Frag}
theorem says_env (c : obsX L N fn K = He.valD fn) : envB L N K = true := (bA (show (envB L N K && fn.all fun d => d.ok K) = true from congrArg (fun z : He.AlD => z.1) c)).1
theorem says_def (c : obsX L N fn K = He.valD fn) (i : Nat) {d : He.DefD} (h : fn[i]? = some d) : ∃ fd, FunD K d.name d.qual d.params d.body d.scope (d.dvs K) (d.kws K) (He.fAd K d.at_) fd := by
  have c2 := (bA (show (envB L N K && fn.all fun d => d.ok K) = true from congrArg (fun z : He.AlD => z.1) c)).2
  have e : fn.map (fun d => He.fnW K d.at_) = fn.map He.DefD.val := congrArg (fun z : He.AlD => z.2) c
  have e2 : (fn.map fun d => He.fnW K d.at_)[i]? = (fn.map He.DefD.val)[i]? := by rw [e]
  rw [List.getElem?_map, List.getElem?_map, h] at e2
  exact He.DefD.funD (Option.some.inj e2) (List.all_eq_true.mp c2 d (List.mem_of_getElem? h))
end
end Fc

set_option Elab.async false
set_option linter.all false
set_option maxRecDepth 100000
set_option maxHeartbeats 4000000
namespace Fc
open PySem PySem.Spec PyProof.Rows L2
/-! ### a law's end -/
theorem room_caller (n : Nat) (h : n ≤ 40) : Room (2 * n + 42) callerA := by
  refine ⟨rfl, ?_, ?_⟩
  · have h1 : callerA.depth + 3 * 122 + 5 < recursionLimit := by decide +kernel
    omega
  · have h1 : callerA.units + 16 * 122 + 200 < cLine := by decide +kernel
    omega
theorem cx_none {P : Program} {w : World} {H : Hp} {s : Shared} {e : Value} {s' : Shared} (h : CX P w [] H s (fun _ _ _ => False) e s') : False := by
  obtain ⟨_, _, _, _, _, _, _, _, _, _, _, _, h⟩ := h
  exact h
theorem walk_mine {l : PySem.W.OpenLaw} {m n : Nat} {L : TL} {N : NL} {fn : List He.DefD} {q : Program} {loose : List Str} {XP : (Str → Option Value) → Heap → Prop} {dr : DefRec} {f i : Nat} {d : Def} {N0 : List Str} {dd : He.DefD}
    (hn : l.most = some m) (hn2 : m ≤ sizeLine) (hdf : dr.params.defaults = []) (hnm : dr.name = "law") (hr : n ≤ 40)
    (htext : ∀ K : PySem.W.Frag, obsX L N fn K = He.valD fn → Text L.tab N.nm K)
    (hfn : fn[i]? = some dd) (hdd : dd.at_ = (("law" : Str), none)) (hdfl : dd.dfl = []) (hkwd : dd.kwd = [])
    (hbind : ∀ (kV doc pm : Value) (an : Option Addr) (cdv ct : Value) (us : List Value), us.length = (["script"] : List Str).length → bindArgs (PySem.W.fnOf dd.name dd.qual dd.params dd.body dd.scope .none kV doc pm an cdv ct) ⟨us, []⟩ = pure ((["script"] : List Str).zip us))
    (hat : N.nm.at_ f = (("law" : Str), none)) (hps : N.nm.ps f = [("script" : Str)]) (hone : oneB N f d N0 dd.scope dd.body = true) (hd : L.tab.fn f = some d) (hi : d.init = false) (hrk : d.rk = 0)
    (hrun : ∀ ns : List Int, ns.length ≤ m → call L.tab (n + 1) f [.scr ns] = .ok (.bl true)) :
    PySem.W.WalkO q loose XP (fun _ h => ∃ K : PySem.W.Frag, K.In h ∧ obsX L N fn K = He.valD fn) l.row.toRowW dr [] (fun f vs => PySem.call f vs) := by
  refine Att.attach_call hn hdf fun w s₀ s₁ mg mb fa o pm cd doc a vs ns G Y ho hdv hcd hmg hobj hints hlen hg => ?_
  obtain ⟨K, KX, c⟩ := Y
  rw [hnm] at hmg
  have ev := env_ok KX G.T.g (says_env c)
  obtain ⟨fd, F⟩ := says_def c i hfn
  rw [hdd] at F
  have eK : He.DefD.dvs K dd = [] := by unfold He.DefD.dvs; rw [hdfl]; rfl
  rw [eK] at F
  have b := FunD.bindsA (ps := ["script"]) F hbind
  have F' : FunD K dd.name dd.qual dd.params dd.body dd.scope [] (dd.kws K) (He.fAd K (N.nm.at_ f)) fd := by rw [hat]; exact F
  have O : OneD L.tab N.nm K f d N0 fd := one_ok hone F'
  have efa : fa = He.fAd K (N.nm.at_ f) := by
    have h1 := ev.glo f d "law" hd hat
    rw [hat]
    have h2 := hmg.symm.trans h1
    cases h2
    rfl
  refine law_call (x := "script") (sp := spF L.tab N.nm K (n + 1) f d) (CX := CX l.prog w) (k := 2 * n + 42) KX G.T.g G.T.b G.T.builtins G.T.nolimit hg hobj hints (Nat.le_trans hlen hn2) (room_caller n hr) (fun base hb hns => ?_) (fun s v => b s [v] rfl) (fun H hO hS => ?_) fun H e s' h => cx_none h
  · have := ok_def (P := l.prog) (w := w) (base := base) ev (lv_all ev (htext K c) n) hd O
    rw [hps, ← efa] at this
    exact this
  · unfold spF
    rw [hi]
    refine ⟨H, [.scr ns], by rw [hps]; rfl, Sub.refl H, .cons (.scr hS) .nil, ?_⟩
    rw [hrun ns hlen, hrk]
    intro v H' G' A g hA ow
    exact ow.2.toBl
end Fc

set_option Elab.async false
set_option linter.all false
set_option maxRecDepth 100000
set_option maxHeartbeats 4000000
namespace Fc
/-! ### running our own text -/
@[simp] theorem dropO_nil (o : Ow) : dropO [] o = o := by unfold dropO; simp
@[simp] theorem dropO_nilO (fz : List Nat) : dropO fz [] = [] := rfl
@[simp] theorem fzO_nil (T : Tab) (e : E) (d : D) (s : Env) (o : Ow) : fzO T [] e d s o = o := by unfold fzO; simp
@[simp] theorem fzO_nilO (T : Tab) (fz : List Nat) (e : E) (d : D) (s : Env) : fzO T fz e d s [] = [] := by unfold fzO; simp
@[simp] theorem setO_0 (i : Nat) : setO i 0 [] = [] := rfl
/-- a loop by an invariant: P of what it ends with -/
theorem forR_gen {f : D → Env → Ow → R Fl} {P : R Fl → Prop} : ∀ {xs : List D} (I : Nat → Env → Ow → Prop) (i : Nat) {s : Env} {o : Ow}, I i s o →
    (∀ k x s o, xs[k]? = some x → I (i + k) s o → (∃ s' o', (f x s o = .ok (.nx s' o') ∨ f x s o = .ok (.ct s' o')) ∧ I (i + (k + 1)) s' o') ∨ (∃ s' o', f x s o = .ok (.bk s' o') ∧ P (.ok (.nx s' o'))) ∨ ∃ d, f x s o = .ok (.rt d) ∧ P (.ok (.rt d))) →
    (∀ s o, I (i + xs.length) s o → P (.ok (.nx s o))) → P (forR f xs s o)
  | [], I, i, s, o, h0, _, he => by
    have := he s o (by simpa using h0)
    exact this
  | x :: xs, I, i, s, o, h0, hs, he => by
    rw [forR_cons]
    rcases hs 0 x s o rfl (by simpa using h0) with ⟨s', o', h, hI⟩ | ⟨s', o', h, hp⟩ | ⟨d, h, hp⟩
    · have key : P (forR f xs s' o') := forR_gen I (i + 1) (by simpa using hI) (fun k x s o hk hi => by
        have := hs (k + 1) x s o (by simpa using hk) (by rw [show i + (k + 1) = i + 1 + k by omega]; exact hi)
        rw [show i + (k + 1 + 1) = i + 1 + (k + 1) by omega] at this
        exact this) fun s o hi => he s o (by rw [List.length_cons, show i + (xs.length + 1) = i + 1 + xs.length by omega]; exact hi)
      rcases h with h | h <;> (rw [h]; exact key)
    · rw [h]; exact hp
    · rw [h]; exact hp
/-- a loop that folds -/
theorem forR_fold {α : Type} {f : D → Env → Ow → R Fl} {xs : List D} (S : α → Env) (O : α → Ow) (g : α → D → α) (C : α → Prop) (hC : ∀ a x, x ∈ xs → C a → C (g a x)) (hf : ∀ a x, x ∈ xs → C a → f x (S a) (O a) = .ok (.nx (S (g a x)) (O (g a x)))) {a : α} (h0 : C a) :
    forR f xs (S a) (O a) = .ok (.nx (S (xs.foldl g a)) (O (xs.foldl g a))) ∧ C (xs.foldl g a) := by
  induction xs generalizing a with
  | nil => exact ⟨rfl, h0⟩
  | cons x xs ih =>
    rw [forR_cons, hf a x (by simp) h0]
    exact ih (fun a y hy => hC a y (List.mem_cons_of_mem _ hy)) (fun a y hy => hf a y (List.mem_cons_of_mem _ hy)) (hC a x (by simp) h0)
theorem mapR_map {f : D → R (Option D)} {g : D → D} : ∀ {xs : List D}, (∀ x ∈ xs, f x = .ok (some (g x))) → mapR f xs = .ok (xs.map g)
  | [], _ => rfl
  | x :: xs, h => by
    unfold mapR
    rw [h x (by simp), mapR_map fun y hy => h y (List.mem_cons_of_mem _ hy)]
    rfl
theorem mapR_ints {α : Type} {f : D → R (Option D)} {c : α → D} {g : α → D} : ∀ {xs : List α}, (∀ x ∈ xs, f (c x) = .ok (some (g x))) → mapR f (xs.map c) = .ok (xs.map g)
  | [], _ => rfl
  | x :: xs, h => by
    rw [List.map_cons]
    unfold mapR
    rw [h x (by simp), mapR_ints fun y hy => h y (List.mem_cons_of_mem _ hy)]
    rfl
theorem call_eq {T : Tab} {n f : Nat} {xs : List D} {d : Def} (h : T.fn f = some d) (hl : xs.length = d.np) (hi : d.init = false) : call T (n + 1) f xs = endF d.rk (exSs T (call T n) d.body (inS d xs) []) := by
  show (match T.fn f with
    | some d => runDef T (call T n) d xs
    | none => .no) = _
  rw [h]
  show runDef T (call T n) d xs = _
  unfold runDef
  rw [if_pos hl, hi]

section
variable {T : Tab} {F : Nat → List D → R D}
def ofV : Option (Option D) → R D
  | some (some d) => .ok d
  | _ => .no
@[simp] theorem ofV_some (d : D) : ofV (some (some d)) = .ok d := rfl
@[simp] theorem ev_var (i : Nat) (s : Env) : evE T F (.var i) s = ofV s[i]? := rfl
@[simp] theorem ev_int (i : Int) (s : Env) : evE T F (.int i) s = .ok (.int i) := rfl
@[simp] theorem ev_bl (i : Bool) (s : Env) : evE T F (.bl i) s = .ok (.bl i) := rfl
@[simp] theorem ev_non (s : Env) : evE T F .non s = .ok .non := rfl
@[simp] theorem ev_bin (o : Op) (a b : E) (s : Env) : evE T F (.bin o a b) s = (evE T F a s >>= fun x => evE T F b s >>= fun y => opD T F o x y) := rfl
def negD : D → R D
  | .int i => .ok (.int (-i))
  | _ => .no
@[simp] theorem negD_int (i : Int) : negD (.int i) = .ok (.int (-i)) := rfl
@[simp] theorem ev_neg (a : E) (s : Env) : evE T F (.neg a) s = (evE T F a s >>= negD) := rfl
@[simp] theorem ev_cmp (o : Cm) (a b : E) (s : Env) : evE T F (.cmp o a b) s = (evE T F a s >>= fun x => evE T F b s >>= fun y => cmpD T F o x y) := rfl
@[simp] theorem ev_cis (o : Cs) (a : E) (s : Env) : evE T F (.cis o a) s = (evE T F a s >>= fun x => cisD o x) := rfl
def iteR (a b : R D) : D → R D
  | .bl true => a
  | .bl false => b
  | _ => .no
@[simp] theorem iteR_true (a b : R D) : iteR a b (.bl true) = a := rfl
@[simp] theorem iteR_false (a b : R D) : iteR a b (.bl false) = b := rfl
@[simp] theorem ev_and (a b : E) (s : Env) : evE T F (.and_ a b) s = (evE T F a s >>= iteR (evE T F b s) (.ok (.bl false))) := rfl
@[simp] theorem ev_or (a b : E) (s : Env) : evE T F (.or_ a b) s = (evE T F a s >>= iteR (.ok (.bl true)) (evE T F b s)) := rfl
def notD : D → R D
  | .bl b => .ok (.bl (!b))
  | _ => .no
@[simp] theorem notD_bl (b : Bool) : notD (.bl b) = .ok (.bl (!b)) := rfl
@[simp] theorem ev_not (a : E) (s : Env) : evE T F (.not_ a) s = (evE T F a s >>= notD) := rfl
@[simp] theorem ev_ite (t a b : E) (s : Env) : evE T F (.ite t a b) s = (evE T F t s >>= iteR (evE T F a s) (evE T F b s)) := rfl
@[simp] theorem ev_ix (a i : E) (s : Env) : evE T F (.ix a i) s = (evE T F a s >>= fun x => evE T F i s >>= fun y => ixD x y) := rfl
@[simp] theorem ev_sl (a : E) (lo hi : Eo) (s : Env) : evE T F (.sl a lo hi) s = (evE T F a s >>= fun x => evOi T F lo s >>= fun l => evOi T F hi s >>= fun h => slD x l h) := rfl
@[simp] theorem ev_tup (es : Es) (s : Env) : evE T F (.tup es) s = (evEs T F es s >>= fun xs => .ok (.tup xs)) := rfl
@[simp] theorem ev_lst (es : Es) (s : Env) : evE T F (.lst es) s = (evEs T F es s >>= fun xs => .ok (.lst xs)) := rfl
@[simp] theorem ev_bi (b : Bf) (es : Es) (s : Env) : evE T F (.bi b es) s = (evEs T F es s >>= fun xs => bfD T F b xs) := rfl
@[simp] theorem ev_fld (a : E) (k : Nat) (s : Env) : evE T F (.fld a k) s = (evE T F a s >>= fun x => fldD T x k) := rfl
@[simp] theorem evs_nil (s : Env) : evEs T F .nil s = .ok [] := rfl
@[simp] theorem evs_cons (e : E) (es : Es) (s : Env) : evEs T F (.cons e es) s = (evE T F e s >>= fun x => evEs T F es s >>= fun xs => .ok (x :: xs)) := rfl
@[simp] theorem evo_none (s : Env) : evOi T F .none s = .ok none := rfl
def intO : D → R (Option Int)
  | .int i => .ok (some i)
  | _ => .no
@[simp] theorem intO_int (i : Int) : intO (.int i) = .ok (some i) := rfl
@[simp] theorem evo_some (e : E) (s : Env) : evOi T F (.some e) s = (evE T F e s >>= intO) := rfl
@[simp] theorem evc_none (s : Env) : evC T F .none s = .ok true := rfl
def blO : D → R Bool
  | .bl b => .ok b
  | _ => .no
@[simp] theorem blO_bl (b : Bool) : blO (.bl b) = .ok b := rfl
@[simp] theorem evc_some (e : E) (s : Env) : evC T F (.some e) s = (evE T F e s >>= blO) := rfl
def itR (x : D) : R (List D) := match itemsD x with
  | some ds => .ok ds
  | none => .no
@[simp] theorem itR_lst (ds : List D) : itR (.lst ds) = .ok ds := rfl
@[simp] theorem itR_tup (ds : List D) : itR (.tup ds) = .ok ds := rfl
@[simp] theorem itR_scr (ns : List Int) : itR (.scr ns) = .ok (ns.map .int) := rfl
@[simp] theorem evi_seq (e : E) (s : Env) : evI T F (.seq e) s = (evE T F e s >>= itR) := rfl
def rng1R : D → R (List D)
  | .int n => if n ≤ LIM ∧ -(2 ^ 62) ≤ n then .ok ((List.range n.toNat).map fun (i : Nat) => .int i) else .no
  | _ => .no
@[simp] theorem evi_rng1 (a : E) (s : Env) : evI T F (.rng1 a) s = (evE T F a s >>= rng1R) := rfl
def rng2R (x y : D) : R (List D) := match x, y with
  | .int m, .int n => if -(2 ^ 60) ≤ m ∧ m ≤ 2 ^ 60 ∧ -(2 ^ 60) ≤ n ∧ n ≤ 2 ^ 60 ∧ n - m ≤ LIM then .ok ((List.range (n - m).toNat).map fun (i : Nat) => .int (m + i)) else .no
  | _, _ => .no
@[simp] theorem evi_rng2 (a b : E) (s : Env) : evI T F (.rng2 a b) s = (evE T F a s >>= fun x => evE T F b s >>= fun y => rng2R x y) := rfl
theorem rng1_nat (k : Nat) (h : k ≤ LIM) : rng1R (.int k) = .ok ((List.range k).map fun (i : Nat) => .int i) := by
  have hL : (LIM : Int) = 16777216 := rfl
  have hL' : LIM = 16777216 := rfl
  show (if (k : Int) ≤ (LIM : Int) ∧ -(2 ^ 62) ≤ (k : Int) then R.ok ((List.range (k : Int).toNat).map fun (i : Nat) => D.int i) else .no) = _
  rw [if_pos (by omega)]
  simp
theorem rng2_nat (m k : Nat) (h : k ≤ LIM) (hm : m ≤ LIM) : rng2R (.int m) (.int k) = .ok ((List.range (k - m)).map fun (i : Nat) => .int ((m : Int) + i)) := by
  have hL : (LIM : Int) = 16777216 := rfl
  have hL' : LIM = 16777216 := rfl
  show (if -(2 ^ 60) ≤ (m : Int) ∧ (m : Int) ≤ 2 ^ 60 ∧ -(2 ^ 60) ≤ (k : Int) ∧ (k : Int) ≤ 2 ^ 60 ∧ (k : Int) - m ≤ LIM then R.ok ((List.range ((k : Int) - m).toNat).map fun (i : Nat) => D.int ((m : Int) + i)) else .no) = _
  rw [if_pos (by omega)]
  have : ((k : Int) - m).toNat = k - m := by omega
  rw [this]
def enumR (x : D) : R (List D) := match itemsD x with
  | some ds => .ok (ds.zipIdx.map fun p => .tup [.int p.2, p.1])
  | none => .no
@[simp] theorem evi_enum (e : E) (s : Env) : evI T F (.enum e) s = (evE T F e s >>= enumR) := rfl
@[simp] theorem enumR_lst (ds : List D) : enumR (.lst ds) = .ok (ds.zipIdx.map fun p => .tup [.int p.2, p.1]) := rfl
@[simp] theorem enumR_tup (ds : List D) : enumR (.tup ds) = .ok (ds.zipIdx.map fun p => .tup [.int p.2, p.1]) := rfl
def zipR (x y : D) : R (List D) := match itemsD x, itemsD y with
  | some xs, some ys => .ok ((xs.zip ys).map fun p => .tup [p.1, p.2])
  | _, _ => .no
@[simp] theorem evi_zip (a b : E) (s : Env) : evI T F (.zip a b) s = (evE T F a s >>= fun x => evE T F b s >>= fun y => zipR x y) := rfl
@[simp] theorem zipR_ll (xs ys : List D) : zipR (.lst xs) (.lst ys) = .ok ((xs.zip ys).map fun p => .tup [p.1, p.2]) := rfl
@[simp] theorem zipR_tt (xs ys : List D) : zipR (.tup xs) (.tup ys) = .ok ((xs.zip ys).map fun p => .tup [p.1, p.2]) := rfl
@[simp] theorem zipR_lt (xs ys : List D) : zipR (.lst xs) (.tup ys) = .ok ((xs.zip ys).map fun p => .tup [p.1, p.2]) := rfl
@[simp] theorem zipR_tl (xs ys : List D) : zipR (.tup xs) (.lst ys) = .ok ((xs.zip ys).map fun p => .tup [p.1, p.2]) := rfl
/-! statements -/
@[simp] theorem exs_nil (s : Env) (o : Ow) : exSs T F .nil s o = .ok (.nx s o) := rfl
def nxS (k : Env → Ow → R Fl) : R Fl → R Fl
  | .ok (.nx s o) => k s o
  | .ok f => .ok f
  | .ex c ds => .ex c ds
  | .no => .no
@[simp] theorem nxS_nx (k : Env → Ow → R Fl) (s : Env) (o : Ow) : nxS k (.ok (.nx s o)) = k s o := rfl
@[simp] theorem nxS_rt (k : Env → Ow → R Fl) (d : D) : nxS k (.ok (.rt d)) = .ok (.rt d) := rfl
@[simp] theorem nxS_bk (k : Env → Ow → R Fl) (s : Env) (o : Ow) : nxS k (.ok (.bk s o)) = .ok (.bk s o) := rfl
@[simp] theorem nxS_ct (k : Env → Ow → R Fl) (s : Env) (o : Ow) : nxS k (.ok (.ct s o)) = .ok (.ct s o) := rfl
@[simp] theorem exs_cons (st : S) (r : Ss) (s : Env) (o : Ow) : exSs T F (.cons st r) s o = nxS (exSs T F r) (exS T F st s o) := by
  show (match exS T F st s o with
    | .ok (.nx s' o') => exSs T F r s' o'
    | .ok f => .ok f
    | .ex c ds => .ex c ds
    | .no => .no) = _
  cases exS T F st s o with
  | no => rfl
  | ex c ds => rfl
  | ok fl => cases fl <;> rfl
@[simp] theorem ex_ret0 (e : E) (s : Env) (o : Ow) : exS T F (.ret 0 e) s o = (evE T F e s >>= fun d => .ok (.rt d)) := by
  cases e <;> rfl
@[simp] theorem ex_set0 (i : Nat) (fz : List Nat) (e : E) (s : Env) (o : Ow) : exS T F (.set i 0 fz e) s o = (evE T F e s >>= fun d => .ok (.nx (s.set i (some d)) (setO i 0 (fzO T fz e d s o)))) := by
  show (if Nat.ble 0 (frk T 0 e) && Nat.ble 0 1 then (evE T F e s >>= fun d => R.ok (Fl.nx (s.set i (some d)) (setO i 0 (fzO T fz e d s o)))) else .no) = _
  rw [if_pos (by simp)]
def ifR (a b : R Fl) : D → R Fl
  | .bl true => a
  | .bl false => b
  | _ => .no
@[simp] theorem ifR_true (a b : R Fl) : ifR a b (.bl true) = a := rfl
@[simp] theorem ifR_false (a b : R Fl) : ifR a b (.bl false) = b := rfl
@[simp] theorem ex_if (t : E) (a b : Ss) (s : Env) (o : Ow) : exS T F (.if_ t a b) s o = (evE T F t s >>= ifR (exSs T F a s o) (exSs T F b s o)) := rfl
@[simp] theorem ex_brk (s : Env) (o : Ow) : exS T F .brk s o = .ok (.bk s o) := rfl
@[simp] theorem ex_exp (e : E) (s : Env) (o : Ow) : exS T F (.exp e) s o = (evE T F e s >>= fun _ => .ok (.nx s o)) := rfl
/-- one turn of a loop -/
def turn (T : Tab) (F : Nat → List D → R D) (t : Tg) (fg : List Nat) (b : Ss) (x : D) (s : Env) (o : Ow) : R Fl := match asg t x s with
  | .ok s' => (exSs T F b s' (dropO (tgS t) o) >>= fun r => .ok (wpF fg r))
  | _ => .no
@[simp] theorem ex_app (x : Nat) (fz : List Nat) (e : E) (s : Env) (o : Ow) : exS T F (.app x fz e) s o = (ownL 1 x s o >>= fun _ => evE T F e s >>= fun d => ownL 1 x s (fzO T fz e d s o) >>= fun ds => if Nat.blt ds.length LIM then .ok (.nx (s.set x (some (.lst (ds ++ [d])))) (fzO T fz e d s o)) else .no) := rfl
theorem ex_set1 {i : Nat} {fz : List Nat} {e : E} {s : Env} {o : Ow} (h : frk T 1 e = 1) : exS T F (.set i 1 fz e) s o = (evE T F e s >>= fun d => .ok (.nx (s.set i (some d)) (setO i 1 (fzO T fz e d s o)))) := by
  show (if Nat.ble 1 (frk T 1 e) && Nat.ble 1 1 then (evE T F e s >>= fun d => R.ok (Fl.nx (s.set i (some d)) (setO i 1 (fzO T fz e d s o)))) else .no) = _
  rw [h]
  rfl
@[simp] theorem frk_nil (T : Tab) (n : Nat) : frk T n (.lst .nil) = n := by cases n <;> rfl
@[simp] theorem frk_lc (T : Tab) (vs : List Nat) (t : Tg) (it : It) (c : Eo) (e : E) : frk T 1 (.lc vs t it c e) = 1 := by
  show 1 + frk T 0 e = 1
  have : ∀ e, frk T 0 e = 0 := fun e => by
    unfold frk
    split <;> first | rfl | simp | skip
    all_goals (split <;> first | rfl | (split <;> rfl))
  rw [this]
theorem blt_LIM {n : Nat} (h : n < 16777216) : Nat.blt n LIM = true := Nat.ble_eq_true_of_le h
theorem ex_for (t : Tg) (it : It) (fz fg : List Nat) (b : Ss) (s : Env) (o : Ow) : exS T F (.for_ t it fz fg b) s o = (evI T F it s >>= fun xs => forR (turn T F t fg b) xs (wp fg s) (dropO fg (dropO fz o))) := rfl
/-- one item of a comprehension -/
def lcI (T : Tab) (F : Nat → List D → R D) (vs : List Nat) (t : Tg) (c : Eo) (e : E) (s : Env) (x : D) : R (Option D) := do
  let s' ← asg t x (wp vs s)
  match ← evC T F c s' with
    | true => do .ok (some (← evE T F e s'))
    | false => .ok none
theorem ev_lc (vs : List Nat) (t : Tg) (it : It) (c : Eo) (e : E) (s : Env) : evE T F (.lc vs t it c e) s = (evI T F it s >>= fun xs => mapR (lcI T F vs t c e s) xs >>= fun ys => .ok (.lst ys)) := rfl
@[simp] theorem asg_nm (i : Nat) (x : D) (s : Env) : asg (.nm i) x s = .ok (s.set i (some x)) := rfl
end
end Fc

set_option Elab.async false
set_option linter.all false
set_option maxRecDepth 100000
set_option maxHeartbeats 0
namespace Fc
open PySem PySem.Spec PyProof.Rows L2
def d_law_v2 : Def where
  np := 1
  nl := 13
  body :=
  (.cons (.set 1 0 [] (.call 96 (.cons (.var 0) .nil)))
  (.cons (.set 2 0 [] (.lc [11] (.nm 11) (.seq (.ix (.var 1) (.int 1))) .none (.ix (.var 11) (.int 0))))
  (.cons (.set 3 0 [] (.lc [11] (.nm 11) (.seq (.ix (.var 1) (.int 1))) .none (.ix (.var 11) (.int 1))))
  (.cons (.set 4 0 [] (.mk 8 (.cons (.ix (.var 1) (.int 0)) (.cons (.ix (.var 1) (.int 1)) .nil)) (.some (.ix (.var 1) (.int 2)))))
  (.cons (.set 5 0 [] (.call 93 (.cons (.var 4) .nil)))
  (.cons (.if_ (.or_ (.not_ (.call 98 (.cons (.var 2) (.cons (.var 5) (.cons (.call 52 (.cons (.var 2) .nil)) .nil))))) (.not_ (.call 99 (.cons (.var 2) (.cons (.var 3) (.cons (.var 5) .nil))))))
  (.cons (.ret 0 (.bl false))
  .nil)
  .nil)
  (.cons (.set 6 0 [] (.lc [12] (.nm 12) (.rng1 (.bi .len (.cons (.var 2) .nil))) .none (.lst (.cons (.bi .list (.cons (.ix (.var 2) (.var 12)) .nil)) (.cons (.ix (.var 3) (.bin .sub (.bin .sub (.bi .len (.cons (.var 2) .nil)) (.int 1)) (.var 12))) .nil)))))
  (.cons (.set 7 0 [] (.call 93 (.cons (.mk 8 (.cons (.ix (.var 1) (.int 0)) (.cons (.var 6) .nil)) .none) .nil)))
  (.cons (.set 8 0 [] (.lc [11] (.nm 11) (.seq (.var 6)) .none (.ix (.var 11) (.int 1))))
  (.cons (.if_ (.or_ (.not_ (.call 98 (.cons (.var 2) (.cons (.var 7) (.cons (.bi .len (.cons (.var 5) .nil)) .nil))))) (.not_ (.call 99 (.cons (.var 2) (.cons (.var 8) (.cons (.var 7) .nil))))))
  (.cons (.ret 0 (.bl false))
  .nil)
  .nil)
  (.cons (.if_ (.cmp .le (.bi .len (.cons (.var 2) .nil)) (.int 30))
  (.cons (.set 10 0 [] (.lc [12] (.nm 12) (.rng1 (.bi .len (.cons (.var 2) .nil))) .none (.bin .sub (.bin .sub (.bi .len (.cons (.var 2) .nil)) (.int 1)) (.var 12))))
  (.cons (.set 7 0 [] (.call 93 (.cons (.meth (.var 4) 12 (.cons (.var 10) .nil)) .nil)))
  (.cons (.set 2 0 [] (.lc [12] (.nm 12) (.seq (.var 10)) .none (.ix (.var 2) (.var 12))))
  (.cons (.if_ (.or_ (.not_ (.call 98 (.cons (.var 2) (.cons (.var 7) (.cons (.bi .len (.cons (.var 5) .nil)) .nil))))) (.not_ (.call 99 (.cons (.var 2) (.cons (.lc [12] (.nm 12) (.seq (.var 10)) .none (.ix (.var 3) (.var 12))) (.cons (.var 7) .nil))))))
  (.cons (.ret 0 (.bl false))
  .nil)
  .nil)
  .nil))))
  .nil)
  (.cons (.set 9 0 [] (.mk 8 (.cons (.ix (.var 1) (.int 0)) (.cons (.lc [11] (.nm 11) (.seq (.ix (.var 1) (.int 1))) .none (.lst (.cons (.bi .list (.cons (.ix (.var 11) (.int 0)) .nil)) (.cons (.bin .mul (.int 6) (.ix (.var 11) (.int 1))) .nil)))) .nil)) (.some (.bin .mul (.int 6) (.ix (.var 1) (.int 2))))))
  (.cons (.ret 0 (.and_ (.cis .isT (.cmp .eq (.var 4) (.var 9))) (.cmp .eq (.call 93 (.cons (.var 9) .nil)) (.var 5))))
  .nil)))))))))))))
  init := false
  owns := []
  rk := 0
def d__law_draw_list_v2 : Def where
  np := 1
  nl := 15
  body :=
  (.cons (.set 1 0 [] (.call 47 (.cons (.call 46 (.cons (.var 0) (.cons (.int 0) .nil))) (.cons (.lst (.cons (.int 8) (.cons (.int 11) (.cons (.int 61) (.cons (.int 6) (.cons (.int 5) (.cons (.int 7) (.cons (.bin .pow (.int 10) (.int 60)) .nil)))))))) .nil))))
  (.cons (.set 2 0 [] (.ite (.cmp .eq (.ix (.var 1) (.int 0)) (.int 7)) (.ix (.var 1) (.int 1)) (.ix (.lst (.cons (.int 2) (.cons (.int 3) (.cons (.int 3) (.cons (.int 2) (.cons (.int 4) (.cons (.int 3) (.cons (.int 1) (.cons (.int 4) (.cons (.int 2) (.cons (.int 5) (.cons (.int 0) .nil)))))))))))) (.ix (.var 1) (.int 1)))))
  (.cons (.set 3 0 [] (.ite (.cmp .ge (.ix (.var 1) (.int 0)) (.int 6)) (.ix (.var 1) (.int 2)) (.ix (.lst (.cons (.int 3) (.cons (.int 4) (.cons (.int 1) (.cons (.int 2) (.cons (.int 6) (.cons (.int 5) (.cons (.int 8) (.cons (.int 0) (.cons (.int 7) .nil)))))))))) (.bin .mod (.bi .int (.cons (.ix (.var 1) (.int 2)) .nil)) (.int 9)))))
  (.cons (.set 4 0 [] (.ix (.var 1) (.int 3)))
  (.cons (.set 5 0 [] (.ix (.var 1) (.int 4)))
  (.cons (.if_ (.and_ (.cmp .eq (.var 4) (.int 3)) (.and_ (.cmp .gt (.var 2) (.int 5)) (.cmp .lt (.ix (.var 1) (.int 5)) (.int 4))))
  (.cons (.set 3 0 [] (.bin .mod (.bi .int (.cons (.var 3) .nil)) (.int 13)))
  .nil)
  .nil)
  (.cons (.if_ (.and_ (.cmp .gt (.var 3) (.int 12)) (.or_ (.and_ (.cmp .eq (.var 5) (.int 3)) (.cmp .gt (.var 2) (.int 3))) (.and_ (.cmp .eq (.var 5) (.int 4)) (.cmp .eq (.var 4) (.int 3)))))
  (.cons (.set 5 0 [] (.int 0))
  .nil)
  .nil)
  (.cons (.if_ (.and_ (.cmp .gt (.var 3) (.int 12)) (.and_ (.cmp .eq (.var 4) (.int 3)) (.cmp .gt (.var 2) (.int 5))))
  (.cons (.set 4 0 [] (.int 6))
  .nil)
  .nil)
  (.cons (.set 6 0 [] (.lc [10] (.nm 10) (.rng1 (.var 3)) .none (.call 95 (.cons (.call 46 (.cons (.var 0) (.cons (.bin .add (.int 3) (.var 10)) .nil))) (.cons (.var 2) (.cons (.var 4) (.cons (.var 5) .nil)))))))
  (.cons (.set 7 1 [] (.lc [11] (.nm 11) (.seq (.var 6)) .none (.ix (.var 11) (.int 0))))
  (.cons (.if_ (.and_ (.cmp .eq (.ix (.var 1) (.int 3)) (.int 5)) (.and_ (.cmp .gt (.var 2) (.int 2)) (.cmp .gt (.var 3) (.int 2))))
  (.cons (.for_ (.nm 10) (.rng2 (.int 2) (.var 3)) [] [10, 12, 13]
  (.cons (.set 12 0 [7] (.ix (.ix (.var 7) (.var 10)) (.int 0)))
  (.cons (.set 13 0 [7] (.ix (.ix (.var 7) (.var 10)) (.int 1)))
  (.cons (.setix 7 [7] (.var 10) (.lc [14] (.nm 14) (.rng1 (.var 2)) .none (.bin .add (.bin .mul (.var 12) (.ix (.ix (.var 7) (.int 0)) (.var 14))) (.bin .mul (.var 13) (.ix (.ix (.var 7) (.int 1)) (.var 14))))))
  .nil))))
  .nil)
  .nil)
  (.cons (.set 8 0 [] (.call 47 (.cons (.call 46 (.cons (.var 0) (.cons (.int 1) .nil))) (.cons (.lst (.cons (.int 12) (.cons (.int 60) (.cons (.int 2) .nil)))) .nil))))
  (.cons (.set 7 0 [7] (.call 57 (.cons (.var 2) (.cons (.var 7) (.cons (.var 8) (.cons (.cmp .eq (.ix (.var 1) (.int 3)) (.int 3)) .nil))))))
  (.cons (.set 9 0 [] (.ix (.lst (.cons (.int 1) (.cons (.int 1) (.cons (.int 2) (.cons (.int 12) (.cons (.int 30) (.cons (.bin .mul (.int 7) (.bin .pow (.int 10) (.int 20))) (.cons (.bin .add (.int 1) (.ix (.var 1) (.int 6))) .nil)))))))) (.ix (.var 1) (.int 5))))
  (.cons (.ret 0 (.lst (.cons (.var 2) (.cons (.lc [10] (.nm 10) (.rng1 (.var 3)) .none (.tup (.cons (.bi .tuple (.cons (.ix (.var 7) (.var 10)) .nil)) (.cons (.ix (.ix (.var 6) (.var 10)) (.int 1)) .nil)))) (.cons (.var 9) .nil)))))
  .nil)))))))))))))))
  init := false
  owns := [7]
  rk := 0
def d_RowList_init : Def where
  np := 4
  nl := 9
  body :=
  (.cons (.set 4 0 [] (.call 8 (.cons (.var 2) .nil)))
  (.cons (.exp (.call 28 (.cons (.var 1) (.cons (.var 4) .nil))))
  (.cons (.unp (.cons (.nm 5) (.cons (.nm 6) .nil)) [] (.call 9 (.cons (.lc [7] (.nm 7) (.seq (.var 4)) .none (.ix (.var 7) (.int 1))) (.cons (.var 3) .nil))))
  (.cons (.setf 5 [] (.var 1))
  (.cons (.setf 8 [] (.bi .tuple (.cons (.lc [7, 8] (.cons (.nm 7) (.cons (.nm 8) .nil)) (.zip (.var 4) (.var 5)) .none (.tup (.cons (.ix (.var 7) (.int 0)) (.cons (.var 8) .nil)))) .nil)))
  (.cons (.setf 7 [] (.var 6))
  (.cons (.setf 9 [0] (.mk 7 (.cons (.call 30 (.cons (.var 1) (.cons (.fld (.var 0) 8) .nil))) .nil) (.some (.var 6))))
  .nil)))))))
  init := true
  owns := [0]
  rk := 0
def d_basis_of : Def where
  np := 1
  nl := 11
  body :=
  (.cons (.set 1 0 [] (.lc [8, 9] (.cons (.nm 8) (.cons (.nm 9) .nil)) (.seq (.fld (.var 0) 8)) .none (.var 9)))
  (.cons (.unpT (.cons (.nm 3) (.cons (.nm 4) (.cons (.nm 5) .nil))) [] (.call 40 (.cons (.lc [10, 8] (.cons (.nm 10) (.cons (.nm 8) .nil)) (.seq (.fld (.var 0) 8)) .none (.var 10)) .nil)) [0, 10] 3)
  (.cons (.set 2 0 [3] (.call 92 (.cons (.var 1) (.cons (.var 3) (.cons (.var 4) (.cons (.var 5) .nil))))))
  (.cons (.whl (.cis .notN (.var 2)) [6, 7]
  (.cons (.unp (.cons (.nm 6) (.cons (.nm 7) .nil)) [] (.var 2))
  (.cons (.set 4 0 [] (.call 39 (.cons (.var 4) (.cons (.var 7) (.cons (.var 6) (.cons (.var 5) .nil))))))
  (.cons (.set 5 0 [] (.ix (.ix (.var 4) (.var 7)) (.var 6)))
  (.cons (.setix 3 [] (.var 7) (.var 6))
  (.cons (.set 2 0 [3] (.call 92 (.cons (.var 1) (.cons (.var 3) (.cons (.var 4) (.cons (.var 5) .nil))))))
  .nil))))))
  (.cons (.ret 0 (.bi .tuple (.cons (.bi .sorted (.cons (.var 3) .nil)) .nil)))
  .nil)))))
  init := false
  owns := [3]
  rk := 0
def d_RowList_len : Def where
  np := 1
  nl := 1
  body :=
  (.cons (.ret 0 (.bi .len (.cons (.fld (.var 0) 8) .nil)))
  .nil)
  init := false
  owns := []
  rk := 0
def d_Form_eq : Def where
  np := 2
  nl := 2
  body :=
  (.cons (.ret 0 (.and_ (.isi (.var 1) [(.cls 7)]) (.and_ (.cmp .eq (.fld (.var 0) 6) (.fld (.var 1) 6)) (.cmp .eq (.fld (.var 0) 7) (.fld (.var 1) 7)))))
  .nil)
  init := false
  owns := []
  rk := 0
def d_RowList_eq : Def where
  np := 2
  nl := 2
  body :=
  (.cons (.ret 0 (.and_ (.isi (.var 1) [(.cls 8)]) (.and_ (.cmp .eq (.fld (.var 0) 5) (.fld (.var 1) 5)) (.and_ (.cmp .eq (.fld (.var 0) 8) (.fld (.var 1) 8)) (.cmp .eq (.fld (.var 0) 7) (.fld (.var 1) 7))))))
  .nil)
  init := false
  owns := []
  rk := 0
def d__law_is_basis_v1 : Def where
  np := 3
  nl := 5
  body :=
  (.cons (.if_ (.not_ (.call 49 (.cons (.var 1) (.cons (.var 2) .nil))))
  (.cons (.ret 0 (.bl false))
  .nil)
  .nil)
  (.cons (.for_ (.nm 3) (.rng1 (.var 2)) [] [3]
  (.cons (.if_ (.or_ (.cmp .lt (.ix (.var 1) (.var 3)) (.int 0)) (.cmp .ge (.ix (.var 1) (.var 3)) (.bi .len (.cons (.var 0) .nil))))
  (.cons (.ret 0 (.bl false))
  .nil)
  .nil)
  (.cons (.if_ (.and_ (.cmp .gt (.var 3) (.int 0)) (.cmp .ge (.ix (.var 1) (.bin .sub (.var 3) (.int 1))) (.ix (.var 1) (.var 3))))
  (.cons (.ret 0 (.bl false))
  .nil)
  .nil)
  .nil)))
  (.cons (.ret 0 (.cmp .eq (.call 52 (.cons (.lc [4] (.nm 4) (.seq (.var 1)) .none (.ix (.var 0) (.var 4))) .nil)) (.var 2)))
  .nil)))
  init := false
  owns := []
  rk := 0
def d__law_gains_little : Def where
  np := 3
  nl := 8
  body :=
  (.cons (.set 3 0 [] (.call 97 (.cons (.lc [7] (.nm 7) (.seq (.var 2)) .none (.ix (.var 0) (.var 7))) (.cons (.var 0) .nil))))
  (.cons (.if_ (.cis .isN (.var 3))
  (.cons (.ret 0 (.bl false))
  .nil)
  .nil)
  (.cons (.for_ (.nm 4) (.rng1 (.bi .len (.cons (.var 2) .nil))) [] [4, 5, 6]
  (.cons (.for_ (.nm 5) (.rng1 (.bi .len (.cons (.var 0) .nil))) [] [5, 6]
  (.cons (.set 6 0 [] (.ix (.ix (.ix (.var 3) (.int 0)) (.var 4)) (.var 5)))
  (.cons (.if_ (.cmp .gt (.bin .mul (.bin .mul (.ix (.var 1) (.var 5)) (.var 6)) (.var 6)) (.bin .mul (.bin .mul (.bin .mul (.int 2) (.ix (.var 1) (.ix (.var 2) (.var 4)))) (.ix (.var 3) (.int 1))) (.ix (.var 3) (.int 1))))
  (.cons (.ret 0 (.bl false))
  .nil)
  .nil)
  .nil)))
  .nil))
  (.cons (.ret 0 (.bl true))
  .nil))))
  init := false
  owns := []
  rk := 0
def d_Form_sub : Def where
  np := 2
  nl := 2
  body :=
  (.cons (.exp (.call 14 (.cons (.var 0) (.cons (.var 1) .nil))))
  (.cons (.ret 0 (.mk 7 (.cons (.call 16 (.cons (.var 0) (.cons (.fld (.var 1) 7) (.cons (.var 1) (.cons (.neg (.fld (.var 0) 7)) .nil))))) .nil) (.some (.bin .mul (.fld (.var 0) 7) (.fld (.var 1) 7)))))
  .nil))
  init := false
  owns := []
  rk := 0
def d_RowList_picked : Def where
  np := 2
  nl := 3
  body :=
  (.cons (.ret 0 (.mk 8 (.cons (.fld (.var 0) 5) (.cons (.lc [2] (.nm 2) (.seq (.var 1)) .none (.ix (.fld (.var 0) 8) (.var 2))) .nil)) (.some (.fld (.var 0) 7))))
  .nil)
  init := false
  owns := []
  rk := 0
def d__law_rank : Def where
  np := 1
  nl := 6
  body :=
  (.cons (.set 1 1 [] (.lst .nil))
  (.cons (.for_ (.nm 2) (.seq (.var 0)) [] [2, 3, 4]
  (.cons (.set 3 0 [1] (.call 51 (.cons (.var 1) (.cons (.var 2) .nil))))
  (.cons (.set 4 0 [] (.lc [5] (.nm 5) (.rng1 (.bi .len (.cons (.var 3) .nil))) (.some (.cmp .ne (.ix (.var 3) (.var 5)) (.int 0))) (.var 5)))
  (.cons (.if_ (.cmp .gt (.bi .len (.cons (.var 4) .nil)) (.int 0))
  (.cons (.app 1 [] (.lst (.cons (.ix (.var 4) (.int 0)) (.cons (.var 3) .nil))))
  .nil)
  .nil)
  .nil))))
  (.cons (.ret 0 (.bi .len (.cons (.var 1) .nil)))
  .nil)))
  init := false
  owns := [1]
  rk := 0
def d__law_digits : Def where
  np := 2
  nl := 8
  body :=
  (.cons (.set 2 1 [] (.lst .nil))
  (.cons (.set 3 0 [] (.bi .int (.cons (.var 0) .nil)))
  (.cons (.if_ (.cmp .ge (.var 3) (.bin .pow (.int 10) (.int 18)))
  (.cons (.set 3 0 [] (.bin .sub (.var 3) (.bin .pow (.int 10) (.int 18))))
  (.cons (.for_ (.nm 6) (.seq (.var 1)) [] [6]
  (.cons (.app 2 [] (.bin .mod (.bi .int (.cons (.var 3) .nil)) (.var 6)))
  (.cons (.set 3 0 [] (.bin .fdiv (.bi .int (.cons (.var 3) .nil)) (.var 6)))
  .nil)))
  (.cons (.ret 0 (.var 2))
  .nil)))
  .nil)
  (.cons (.set 4 0 [] (.bin .mod (.bi .int (.cons (.var 3) .nil)) (.int 2147483629)))
  (.cons (.for_ (.nm 5) (.rng1 (.bi .len (.cons (.var 1) .nil))) [] [5, 7]
  (.cons (.set 4 0 [] (.bin .mod (.bi .int (.cons (.bin .add (.bin .add (.bin .mul (.var 4) (.int 48271)) (.bin .mul (.int 974711) (.var 5))) (.int 12345)) .nil)) (.int 2147483647)))
  (.cons (.set 7 0 [] (.bin .mod (.bi .int (.cons (.bin .mul (.var 4) (.bin .add (.bin .fdiv (.var 4) (.int 65537)) (.int 3))) .nil)) (.int 2147483629)))
  (.cons (.app 2 [] (.bin .mod (.bin .fdiv (.var 7) (.int 19)) (.ix (.var 1) (.var 5))))
  .nil))))
  (.cons (.ret 0 (.var 2))
  .nil))))))
  init := false
  owns := [2]
  rk := 0
def d__law_planted : Def where
  np := 4
  nl := 14
  body :=
  (.cons (.set 4 0 [] (.bi .len (.cons (.var 1) .nil)))
  (.cons (.if_ (.or_ (.cmp .lt (.var 4) (.int 2)) (.cmp .lt (.ix (.var 2) (.int 0)) (.int 7)))
  (.cons (.ret 0 (.var 1))
  .nil)
  .nil)
  (.cons (.set 5 0 [] (.ite (.var 3) (.lc [13] (.nm 13) (.seq (.ix (.var 1) (.int 0))) .none (.bin .fdiv (.var 13) (.int 4))) (.ix (.var 1) (.int 0))))
  (.cons (.set 6 0 [] (.ite (.var 3) (.lc [13] (.nm 13) (.seq (.ix (.var 1) (.int 1))) .none (.bin .fdiv (.var 13) (.int 4))) (.ix (.var 1) (.int 1))))
  (.cons (.set 7 0 [] (.lc [12] (.nm 12) (.rng1 (.var 0)) .none (.bin .add (.ix (.var 5) (.var 12)) (.ix (.var 6) (.var 12)))))
  (.cons (.set 8 0 [] (.lc [12] (.nm 12) (.rng1 (.var 0)) .none (.bin .sub (.ix (.var 5) (.var 12)) (.ix (.var 6) (.var 12)))))
  (.cons (.set 9 0 [] (.lst (.cons (.lst (.cons (.var 5) (.cons (.var 5) .nil))) (.cons (.lst (.cons (.var 5) (.cons (.lc [13] (.nm 13) (.seq (.var 5)) .none (.bin .mul (.neg (.int 2)) (.var 13))) .nil))) (.cons (.lst (.cons (.var 5) (.cons (.lc [12] (.nm 12) (.rng1 (.var 0)) .none (.int 0)) .nil))) .nil)))))
  (.cons (.set 9 0 [] (.bin .add (.var 9) (.lst (.cons (.lst (.cons (.var 5) (.cons (.var 6) (.cons (.var 7) .nil)))) (.cons (.lst (.cons (.var 5) (.cons (.var 6) (.cons (.var 7) (.cons (.var 8) .nil))))) .nil)))))
  (.cons (.set 10 0 [] (.sl (.ix (.var 9) (.bin .sub (.ix (.var 2) (.int 0)) (.int 7))) .none (.some (.var 4))))
  (.cons (.set 10 0 [] (.bin .add (.var 10) (.sl (.var 1) (.some (.bi .len (.cons (.var 10) .nil))) .none)))
  (.cons (.if_ (.cmp .eq (.ix (.var 2) (.int 2)) (.int 1))
  (.cons (.set 10 0 [] (.lc [12] (.nm 12) (.rng1 (.var 4)) .none (.ix (.var 10) (.bin .sub (.bin .sub (.var 4) (.int 1)) (.var 12)))))
  .nil)
  .nil)
  (.cons (.set 11 0 [] (.bin .mod (.bi .int (.cons (.ix (.var 2) (.int 1)) .nil)) (.var 4)))
  (.cons (.ret 0 (.bin .add (.sl (.var 10) (.some (.var 11)) .none) (.sl (.var 10) .none (.some (.var 11)))))
  .nil)))))))))))))
  init := false
  owns := []
  rk := 0
def d__law_cell : Def where
  np := 2
  nl := 4
  body :=
  (.cons (.if_ (.cmp .lt (.var 1) (.bi .len (.cons (.var 0) .nil)))
  (.cons (.ret 0 (.ix (.var 0) (.var 1)))
  .nil)
  .nil)
  (.cons (.set 2 0 [] (.int 17))
  (.cons (.for_ (.nm 3) (.seq (.var 0)) [] [3]
  (.cons (.set 2 0 [] (.bin .mod (.bi .int (.cons (.bin .add (.bin .mul (.var 2) (.int 31)) (.bin .mod (.bi .int (.cons (.var 3) .nil)) (.int 1000003))) .nil)) (.int 1000003)))
  .nil))
  (.cons (.ret 0 (.bin .mod (.bi .int (.cons (.bin .mul (.bin .mul (.bin .add (.var 2) (.int 7)) (.bin .add (.var 1) (.int 3))) (.int 69621)) .nil)) (.int 2147483647)))
  .nil))))
  init := false
  owns := []
  rk := 0
def d__law_draw_pair_v1 : Def where
  np := 4
  nl := 7
  body :=
  (.cons (.set 4 0 [] (.bin .add (.bin .mul (.lst (.cons (.int 7) .nil)) (.int 10)) (.lst (.cons (.int 9) (.cons (.int 1000) (.cons (.bin .pow (.int 10) (.int 40)) (.cons (.bin .pow (.int 10) (.int 40)) (.cons (.bin .pow (.int 10) (.int 37)) .nil))))))))
  (.cons (.if_ (.or_ (.cmp .eq (.var 2) (.int 3)) (.cmp .eq (.var 2) (.int 6)))
  (.cons (.set 4 0 [] (.bin .add (.var 4) (.bin .mul (.lst (.cons (.int 2000001) (.cons (.int 1000000) .nil))) (.var 1))))
  .nil)
  .nil)
  (.cons (.set 5 0 [] (.call 47 (.cons (.var 0) (.cons (.var 4) .nil))))
  (.cons (.set 6 0 [] (.bin .add (.int 1) (.ix (.var 5) (.int 10))))
  (.cons (.if_ (.cmp .eq (.var 3) (.int 1))
  (.cons (.set 6 0 [] (.ix (.lst (.cons (.int 1) (.cons (.int 1000000) .nil))) (.bin .mod (.bi .int (.cons (.ix (.var 5) (.int 11)) .nil)) (.int 2))))
  .nil)
  .nil)
  (.cons (.if_ (.cmp .eq (.var 3) (.int 2))
  (.cons (.set 6 0 [] (.bin .add (.int 1) (.ix (.var 5) (.int 11))))
  .nil)
  .nil)
  (.cons (.if_ (.cmp .eq (.var 3) (.int 3))
  (.cons (.set 6 0 [] (.bin .add (.bin .add (.bin .add (.int 1) (.ix (.var 5) (.int 12))) (.bin .mul (.ix (.var 5) (.int 13)) (.bin .pow (.int 10) (.int 40)))) (.bin .mul (.bin .mul (.ix (.var 5) (.int 14)) (.bin .pow (.int 10) (.int 40))) (.bin .pow (.int 10) (.int 40)))))
  .nil)
  .nil)
  (.cons (.if_ (.cmp .eq (.var 3) (.int 4))
  (.cons (.set 6 0 [] (.bin .add (.int 1) (.bin .mul (.ix (.var 5) (.int 11)) (.int 1000003))))
  .nil)
  .nil)
  (.cons (.ret 0 (.lst (.cons (.call 94 (.cons (.var 1) (.cons (.var 2) (.cons (.var 5) .nil)))) (.cons (.var 6) .nil))))
  .nil)))))))))
  init := false
  owns := []
  rk := 0
def d_Form_add : Def where
  np := 2
  nl := 2
  body :=
  (.cons (.exp (.call 14 (.cons (.var 0) (.cons (.var 1) .nil))))
  (.cons (.ret 0 (.mk 7 (.cons (.call 16 (.cons (.var 0) (.cons (.fld (.var 1) 7) (.cons (.var 1) (.cons (.fld (.var 0) 7) .nil))))) .nil) (.some (.bin .mul (.fld (.var 0) 7) (.fld (.var 1) 7)))))
  .nil))
  init := false
  owns := []
  rk := 0
def d_RowList_add : Def where
  np := 2
  nl := 6
  body :=
  (.cons (.if_ (.cmp .ne (.fld (.var 0) 5) (.fld (.var 1) 5))
  (.cons (.rais 0 .nil)
  .nil)
  .nil)
  (.cons (.set 2 0 [] (.lc [4, 5] (.cons (.nm 4) (.cons (.nm 5) .nil)) (.seq (.fld (.var 0) 8)) .none (.tup (.cons (.var 4) (.cons (.bin .mul (.var 5) (.fld (.var 1) 7)) .nil)))))
  (.cons (.set 3 0 [] (.lc [4, 5] (.cons (.nm 4) (.cons (.nm 5) .nil)) (.seq (.fld (.var 1) 8)) .none (.tup (.cons (.var 4) (.cons (.bin .mul (.var 5) (.fld (.var 0) 7)) .nil)))))
  (.cons (.ret 0 (.mk 8 (.cons (.fld (.var 0) 5) (.cons (.bin .add (.var 2) (.var 3)) .nil)) (.some (.bin .mul (.fld (.var 0) 7) (.fld (.var 1) 7)))))
  .nil))))
  init := false
  owns := []
  rk := 0
def d_frozen : Def where
  np := 1
  nl := 2
  body :=
  (.cons (.if_ (.isi (.var 0) [.list, .tuple])
  (.cons (.ret 0 (.bi .tuple (.cons (.lc [1] (.nm 1) (.seq (.var 0)) .none (.call 7 (.cons (.var 1) .nil))) .nil)))
  .nil)
  .nil)
  (.cons (.ret 0 (.var 0))
  .nil))
  init := false
  owns := []
  rk := 0
def d_check_pairs : Def where
  np := 2
  nl := 5
  body :=
  (.cons (.for_ (.cons (.nm 2) (.cons (.cons (.nm 3) (.cons (.nm 4) .nil)) .nil)) (.enum (.var 1)) [] [2, 3, 4]
  (.cons (.if_ (.cmp .ne (.bi .len (.cons (.var 3) .nil)) (.var 0))
  (.cons (.rais 0 .nil)
  .nil)
  .nil)
  (.cons (.if_ (.cmp .lt (.var 4) (.int 1))
  (.cons (.rais 0 .nil)
  .nil)
  .nil)
  .nil)))
  .nil)
  init := false
  owns := []
  rk := 0
def d_lowered : Def where
  np := 2
  nl := 4
  body :=
  (.cons (.set 2 0 [] (.var 1))
  (.cons (.for_ (.nm 3) (.seq (.var 0)) [] [3]
  (.cons (.set 2 0 [] (.bi .gcd (.cons (.var 2) (.cons (.var 3) .nil))))
  .nil))
  (.cons (.ret 0 (.tup (.cons (.bi .tuple (.cons (.lc [3] (.nm 3) (.seq (.var 0)) .none (.bin .fdiv (.var 3) (.var 2))) .nil)) (.cons (.bin .fdiv (.var 1) (.var 2)) .nil))))
  .nil)))
  init := false
  owns := []
  rk := 0
def d_Form_init : Def where
  np := 3
  nl := 10
  body :=
  (.cons (.set 3 0 [] (.call 8 (.cons (.var 1) .nil)))
  (.cons (.exp (.call 12 (.cons (.var 3) .nil)))
  (.cons (.exp (.call 13 (.cons (.var 3) .nil)))
  (.cons (.set 4 0 [] (.bi .len (.cons (.var 3) .nil)))
  (.cons (.unp (.cons (.nm 5) (.cons (.nm 6) .nil)) [] (.call 9 (.cons (.lc2 [7, 8] [8] (.nm 7) (.seq (.var 3)) (.nm 8) (.seq (.var 7)) (.var 8)) (.cons (.var 2) .nil))))
  (.cons (.setf 5 [] (.var 4))
  (.cons (.setf 6 [] (.bi .tuple (.cons (.lc [9] (.nm 9) (.rng1 (.var 4)) .none (.sl (.var 5) (.some (.bin .mul (.var 9) (.var 4))) (.some (.bin .add (.bin .mul (.var 9) (.var 4)) (.var 4))))) .nil)))
  (.cons (.setf 7 [] (.var 6))
  .nil))))))))
  init := true
  owns := [0]
  rk := 0
def d_weighted_matrix : Def where
  np := 2
  nl := 4
  body :=
  (.cons (.ret 0 (.lc [2] (.nm 2) (.rng1 (.var 0)) .none (.lc [3] (.nm 3) (.rng1 (.var 0)) .none (.call 29 (.cons (.var 1) (.cons (.var 2) (.cons (.var 3) .nil)))))))
  .nil)
  init := false
  owns := []
  rk := 0
def d_expressed : Def where
  np := 1
  nl := 9
  body :=
  (.cons (.set 1 0 [] (.ite (.cmp .gt (.bi .len (.cons (.var 0) .nil)) (.int 0)) (.bi .len (.cons (.ix (.var 0) (.int 0)) .nil)) (.int 0)))
  (.cons (.set 2 1 [] (.lc [7] (.nm 7) (.rng1 (.var 1)) .none (.lc [8] (.nm 8) (.seq (.var 0)) .none (.ix (.var 8) (.var 7)))))
  (.cons (.set 3 1 [] (.lst .nil))
  (.cons (.set 4 0 [] (.int 1))
  (.cons (.for_ (.nm 5) (.rng1 (.bi .len (.cons (.var 0) .nil))) [] [5, 6, 7]
  (.cons (.set 6 0 [3] (.bi .len (.cons (.var 3) .nil)))
  (.cons (.set 7 0 [2] (.call 38 (.cons (.var 2) (.cons (.var 6) (.cons (.var 5) .nil)))))
  (.cons (.if_ (.cis .notN (.var 7))
  (.cons (.swap 2 (.var 6) (.var 7))
  (.cons (.set 2 1 [2] (.call 39 (.cons (.var 2) (.cons (.var 6) (.cons (.var 5) (.cons (.var 4) .nil))))))
  (.cons (.set 4 0 [2] (.ix (.ix (.var 2) (.var 6)) (.var 5)))
  (.cons (.app 3 [] (.var 5))
  .nil))))
  .nil)
  .nil))))
  (.cons (.ret 0 (.tup (.cons (.var 3) (.cons (.sl (.var 2) .none (.some (.bi .len (.cons (.var 3) .nil)))) (.cons (.var 4) .nil)))))
  .nil))))))
  init := false
  owns := [2, 3]
  rk := 0
def d_gainful : Def where
  np := 4
  nl := 8
  body :=
  (.cons (.for_ (.cons (.nm 4) (.cons (.nm 5) .nil)) (.enum (.var 0)) [] [4, 5, 6, 7]
  (.cons (.for_ (.cons (.nm 6) (.cons (.nm 7) .nil)) (.enum (.var 2)) [] [6, 7]
  (.cons (.if_ (.cmp .gt (.bin .mul (.bin .mul (.var 5) (.ix (.var 7) (.var 4))) (.ix (.var 7) (.var 4))) (.bin .mul (.bin .mul (.bin .mul (.int 2) (.ix (.var 0) (.ix (.var 1) (.var 6)))) (.var 3)) (.var 3)))
  (.cons (.ret 0 (.tup (.cons (.var 4) (.cons (.var 6) .nil))))
  .nil)
  .nil)
  .nil))
  .nil))
  (.cons (.ret 0 .non)
  .nil))
  init := false
  owns := []
  rk := 0
def d_pivoted : Def where
  np := 4
  nl := 12
  body :=
  (.cons (.set 4 0 [] (.ix (.var 0) (.var 1)))
  (.cons (.set 5 0 [] (.ix (.var 4) (.var 2)))
  (.cons (.set 6 1 [] (.lst .nil))
  (.cons (.for_ (.cons (.nm 7) (.cons (.nm 8) .nil)) (.enum (.var 0)) [] [7, 8, 9]
  (.cons (.if_ (.cmp .eq (.var 7) (.var 1))
  (.cons (.app 6 [] (.var 4))
  .nil)
  (.cons (.set 9 0 [] (.ix (.var 8) (.var 2)))
  (.cons (.app 6 [] (.lc [10, 11] (.cons (.nm 10) (.cons (.nm 11) .nil)) (.zip (.var 8) (.var 4)) .none (.bin .fdiv (.bin .sub (.bin .mul (.var 5) (.var 10)) (.bin .mul (.var 9) (.var 11))) (.var 3))))
  .nil)))
  .nil))
  (.cons (.ret 1 (.var 6))
  .nil)))))
  init := false
  owns := [6]
  rk := 1
def d__law_is_point : Def where
  np := 2
  nl := 3
  body :=
  (.cons (.ret 0 (.and_ (.isi (.var 0) [.tuple]) (.and_ (.cmp .eq (.bi .len (.cons (.var 0) .nil)) (.var 1)) (.bi .all (.cons (.lc [2] (.nm 2) (.seq (.var 0)) .none (.call 45 (.cons (.var 2) .nil))) .nil)))))
  .nil)
  init := false
  owns := []
  rk := 0
def d__law_solved : Def where
  np := 2
  nl := 17
  body :=
  (.cons (.set 2 0 [] (.bi .len (.cons (.var 0) .nil)))
  (.cons (.set 3 0 [] (.ite (.cmp .gt (.var 2) (.int 0)) (.bi .len (.cons (.ix (.var 0) (.int 0)) .nil)) (.int 0)))
  (.cons (.set 4 1 [] (.lc [11] (.nm 11) (.rng1 (.var 3)) .none (.bin .add (.lc [15] (.nm 15) (.seq (.var 0)) .none (.ix (.var 15) (.var 11))) (.lc [15] (.nm 15) (.seq (.var 1)) .none (.ix (.var 15) (.var 11))))))
  (.cons (.set 5 1 [] (.lst .nil))
  (.cons (.for_ (.nm 6) (.rng1 (.var 2)) [] [6, 9, 10, 11, 14]
  (.cons (.set 9 0 [4, 5] (.lc [11] (.nm 11) (.rng1 (.var 3)) (.some (.and_ (.cmp .nin (.var 11) (.var 5)) (.cmp .ne (.ix (.ix (.var 4) (.var 11)) (.var 6)) (.int 0)))) (.var 11)))
  (.cons (.if_ (.cmp .eq (.bi .len (.cons (.var 9) .nil)) (.int 0))
  (.cons (.ret 0 .non)
  .nil)
  .nil)
  (.cons (.set 10 0 [4] (.ix (.var 4) (.ix (.var 9) (.int 0))))
  (.cons (.app 5 [] (.ix (.var 9) (.int 0)))
  (.cons (.for_ (.nm 11) (.rng1 (.var 3)) [] [11, 14]
  (.cons (.set 14 0 [4] (.ix (.ix (.var 4) (.var 11)) (.var 6)))
  (.cons (.if_ (.and_ (.cmp .ne (.var 11) (.ix (.var 9) (.int 0))) (.cmp .ne (.var 14) (.int 0)))
  (.cons (.setix 4 [4] (.var 11) (.call 50 (.cons (.lc [16] (.nm 16) (.rng1 (.bi .len (.cons (.var 10) .nil))) .none (.bin .sub (.bin .mul (.ix (.var 10) (.var 6)) (.ix (.ix (.var 4) (.var 11)) (.var 16))) (.bin .mul (.var 14) (.ix (.var 10) (.var 16))))) .nil)))
  .nil)
  .nil)
  .nil)))
  .nil))))))
  (.cons (.set 7 0 [] (.int 1))
  (.cons (.for_ (.nm 6) (.rng1 (.var 2)) [] [6, 12]
  (.cons (.set 12 0 [4, 5] (.bi .abs (.cons (.ix (.ix (.var 4) (.ix (.var 5) (.var 6))) (.var 6)) .nil)))
  (.cons (.set 7 0 [] (.bin .mul (.bin .fdiv (.var 7) (.call 48 (.cons (.var 7) (.cons (.var 12) .nil)))) (.var 12)))
  .nil)))
  (.cons (.set 8 1 [] (.lst .nil))
  (.cons (.for_ (.nm 6) (.rng1 (.var 2)) [] [6, 13]
  (.cons (.set 13 0 [4, 5] (.ix (.var 4) (.ix (.var 5) (.var 6))))
  (.cons (.app 8 [] (.lc [16] (.nm 16) (.rng1 (.bi .len (.cons (.var 1) .nil))) .none (.bin .mul (.ix (.var 13) (.bin .add (.var 2) (.var 16))) (.bin .fdiv (.var 7) (.ix (.var 13) (.var 6))))))
  .nil)))
  (.cons (.ret 0 (.lst (.cons (.var 8) (.cons (.var 7) .nil))))
  .nil))))))))))
  init := false
  owns := [4, 5, 8]
  rk := 0
def d_check_sizes : Def where
  np := 2
  nl := 2
  body :=
  (.cons (.if_ (.cmp .ne (.fld (.var 0) 5) (.fld (.var 1) 5))
  (.cons (.rais 0 .nil)
  .nil)
  .nil)
  .nil)
  init := false
  owns := []
  rk := 0
def d_combined_entries : Def where
  np := 4
  nl := 9
  body :=
  (.cons (.set 4 1 [] (.lst .nil))
  (.cons (.for_ (.cons (.nm 5) (.cons (.nm 6) .nil)) (.zip (.fld (.var 0) 6) (.fld (.var 2) 6)) [] [5, 6]
  (.cons (.app 4 [] (.lc [7, 8] (.cons (.nm 7) (.cons (.nm 8) .nil)) (.zip (.var 5) (.var 6)) .none (.bin .add (.bin .mul (.var 1) (.var 7)) (.bin .mul (.var 3) (.var 8)))))
  .nil))
  (.cons (.ret 0 (.var 4))
  .nil)))
  init := false
  owns := [4]
  rk := 0
def d__law_reduced : Def where
  np := 2
  nl := 8
  body :=
  (.cons (.set 2 1 [] (.bi .list (.cons (.var 1) .nil)))
  (.cons (.for_ (.nm 3) (.seq (.var 0)) [] [3, 4, 5, 6]
  (.cons (.set 4 0 [2] (.ix (.var 2) (.ix (.var 3) (.int 0))))
  (.cons (.if_ (.cmp .ne (.var 4) (.int 0))
  (.cons (.set 5 0 [] (.ix (.var 3) (.int 1)))
  (.cons (.set 6 0 [] (.ix (.var 5) (.ix (.var 3) (.int 0))))
  (.cons (.set 2 1 [2] (.call 50 (.cons (.lc [7] (.nm 7) (.rng1 (.bi .len (.cons (.var 2) .nil))) .none (.bin .sub (.bin .mul (.var 6) (.ix (.var 2) (.var 7))) (.bin .mul (.var 4) (.ix (.var 5) (.var 7))))) .nil)))
  .nil)))
  .nil)
  .nil)))
  (.cons (.ret 1 (.var 2))
  .nil)))
  init := false
  owns := [2]
  rk := 1
def d__law_draw_row_v2 : Def where
  np := 3
  nl := 7
  body :=
  (.cons (.set 3 0 [] (.lc [6] (.nm 6) (.rng1 (.var 0)) .none (.bin .sub (.ix (.var 2) (.var 6)) (.int 3))))
  (.cons (.if_ (.and_ (.cmp .gt (.var 0) (.int 2)) (.cmp .eq (.var 1) (.int 1)))
  (.cons (.set 4 0 [] (.bin .mod (.bi .int (.cons (.ix (.var 2) (.int 0)) .nil)) (.var 0)))
  (.cons (.set 5 0 [] (.bin .mod (.bi .int (.cons (.bin .add (.bin .add (.var 4) (.int 1)) (.bin .mod (.bi .int (.cons (.ix (.var 2) (.int 1)) .nil)) (.bin .sub (.var 0) (.int 1)))) .nil)) (.var 0)))
  (.cons (.ret 0 (.lc [6] (.nm 6) (.rng1 (.var 0)) .none (.bin .sub (.bi .int (.cons (.cmp .eq (.var 6) (.var 4)) .nil)) (.bi .int (.cons (.cmp .eq (.var 6) (.var 5)) .nil)))))
  .nil)))
  .nil)
  (.cons (.if_ (.and_ (.cmp .gt (.var 0) (.int 2)) (.cmp .eq (.var 1) (.int 2)))
  (.cons (.ret 0 (.bin .add (.sl (.var 3) .none (.some (.bin .sub (.var 0) (.int 1)))) (.lst (.cons (.ix (.var 3) (.int 0)) .nil))))
  .nil)
  .nil)
  (.cons (.if_ (.cmp .eq (.var 1) (.int 3))
  (.cons (.ret 0 (.call 54 (.cons (.var 2) (.cons (.int 15) (.cons (.var 0) .nil)))))
  .nil)
  .nil)
  (.cons (.if_ (.cmp .eq (.var 1) (.int 6))
  (.cons (.ret 0 (.lc [6] (.nm 6) (.rng1 (.var 0)) .none (.bin .sub (.ix (.var 2) (.bin .add (.int 15) (.bin .mul (.int 2) (.var 6)))) (.int 1000000))))
  .nil)
  .nil)
  (.cons (.if_ (.and_ (.cmp .eq (.var 1) (.int 4)) (.cmp .lt (.ix (.var 2) (.int 0)) (.int 2)))
  (.cons (.ret 0 (.lc [6] (.nm 6) (.rng1 (.var 0)) .none (.int 0)))
  .nil)
  .nil)
  (.cons (.ret 0 (.var 3))
  .nil)))))))
  init := false
  owns := []
  rk := 0
def d_frozen_part : Def where
  np := 1
  nl := 2
  body :=
  (.cons (.if_ (.isi (.var 0) [.list, .tuple])
  (.cons (.ret 0 (.bi .tuple (.cons (.lc [1] (.nm 1) (.seq (.var 0)) .none (.call 6 (.cons (.var 1) .nil))) .nil)))
  .nil)
  .nil)
  (.cons (.ret 0 (.var 0))
  .nil))
  init := false
  owns := []
  rk := 0
def d_check_square : Def where
  np := 1
  nl := 3
  body :=
  (.cons (.for_ (.cons (.nm 1) (.cons (.nm 2) .nil)) (.enum (.var 0)) [] [1, 2]
  (.cons (.if_ (.cmp .ne (.bi .len (.cons (.var 2) .nil)) (.bi .len (.cons (.var 0) .nil)))
  (.cons (.rais 0 .nil)
  .nil)
  .nil)
  .nil))
  .nil)
  init := false
  owns := []
  rk := 0
def d_check_symmetric : Def where
  np := 1
  nl := 3
  body :=
  (.cons (.for_ (.nm 1) (.rng1 (.bi .len (.cons (.var 0) .nil))) [] [1, 2]
  (.cons (.for_ (.nm 2) (.rng2 (.bin .add (.var 1) (.int 1)) (.bi .len (.cons (.var 0) .nil))) [] [2]
  (.cons (.if_ (.cmp .ne (.ix (.ix (.var 0) (.var 1)) (.var 2)) (.ix (.ix (.var 0) (.var 2)) (.var 1)))
  (.cons (.rais 0 .nil)
  .nil)
  .nil)
  .nil))
  .nil))
  .nil)
  init := false
  owns := []
  rk := 0
def d_weighted_sum : Def where
  np := 3
  nl := 5
  body :=
  (.cons (.ret 0 (.bi .sum (.cons (.lc [3, 4] (.cons (.nm 3) (.cons (.nm 4) .nil)) (.seq (.var 0)) .none (.bin .mul (.bin .mul (.var 4) (.ix (.var 3) (.var 1))) (.ix (.var 3) (.var 2)))) .nil)))
  .nil)
  init := false
  owns := []
  rk := 0
def d_first_filled : Def where
  np := 3
  nl := 4
  body :=
  (.cons (.for_ (.nm 3) (.rng2 (.var 1) (.bi .len (.cons (.var 0) .nil))) [] [3]
  (.cons (.if_ (.cmp .ne (.ix (.ix (.var 0) (.var 3)) (.var 2)) (.int 0))
  (.cons (.ret 0 (.var 3))
  .nil)
  .nil)
  .nil))
  (.cons (.ret 0 .non)
  .nil))
  init := false
  owns := []
  rk := 0
def d__law_whole : Def where
  np := 1
  nl := 1
  body :=
  (.cons (.ret 0 (.and_ (.isi (.var 0) [.int]) (.not_ (.isi (.var 0) [.bool]))))
  .nil)
  init := false
  owns := []
  rk := 0
def d__law_primitive : Def where
  np := 1
  nl := 3
  body :=
  (.cons (.set 1 0 [] (.int 0))
  (.cons (.for_ (.nm 2) (.seq (.var 0)) [] [2]
  (.cons (.if_ (.cmp .ne (.var 1) (.int 1))
  (.cons (.set 1 0 [] (.call 48 (.cons (.var 1) (.cons (.var 2) .nil))))
  .nil)
  .nil)
  .nil))
  (.cons (.if_ (.cmp .lt (.var 1) (.int 2))
  (.cons (.ret 1 (.bi .list (.cons (.var 0) .nil)))
  .nil)
  .nil)
  (.cons (.ret 1 (.lc [2] (.nm 2) (.seq (.var 0)) .none (.bin .fdiv (.var 2) (.var 1))))
  .nil))))
  init := false
  owns := []
  rk := 1
def d__law_gcd : Def where
  np := 2
  nl := 4
  body :=
  (.cons (.set 0 0 [] (.bi .abs (.cons (.var 0) .nil)))
  (.cons (.set 1 0 [] (.bi .abs (.cons (.var 1) .nil)))
  (.cons (.for_ (.nm 2) (.rng1 (.int 100000)) [] [2, 3]
  (.cons (.if_ (.cmp .eq (.var 1) (.int 0))
  (.cons .brk
  .nil)
  .nil)
  (.cons (.set 3 0 [] (.bin .mod (.bi .int (.cons (.var 0) .nil)) (.var 1)))
  (.cons (.set 0 0 [] (.var 1))
  (.cons (.set 1 0 [] (.var 3))
  .nil)))))
  (.cons (.ret 0 (.var 0))
  .nil))))
  init := false
  owns := []
  rk := 0
def d__law_wide : Def where
  np := 3
  nl := 4
  body :=
  (.cons (.ret 0 (.lc [3] (.nm 3) (.rng1 (.var 2)) .none (.bi .min2 (.cons (.bin .pow (.int 10) (.int 12)) (.cons (.bin .add (.bin .mul (.bin .sub (.ix (.var 0) (.bin .add (.var 1) (.bin .mul (.int 2) (.var 3)))) (.int 1000000)) (.int 1000000)) (.ix (.var 0) (.bin .add (.bin .add (.var 1) (.bin .mul (.int 2) (.var 3))) (.int 1)))) .nil)))))
  .nil)
  init := false
  owns := []
  rk := 0
def d_frozen_numbers : Def where
  np := 1
  nl := 1
  body :=
  (.cons (.if_ (.isi (.var 0) [.list, .tuple])
  (.cons (.ret 0 (.bi .tuple (.cons (.var 0) .nil)))
  .nil)
  .nil)
  (.cons (.ret 0 (.var 0))
  .nil))
  init := false
  owns := []
  rk := 0
def L : TL where
  fns := [(100, d_law_v2), (96, d__law_draw_list_v2), (31, d_RowList_init), (93, d_basis_of), (32, d_RowList_len), (22, d_Form_eq), (35, d_RowList_eq), (98, d__law_is_basis_v1), (99, d__law_gains_little), (21, d_Form_sub), (37, d_RowList_picked), (52, d__law_rank), (47, d__law_digits), (57, d__law_planted), (46, d__law_cell), (95, d__law_draw_pair_v1), (20, d_Form_add), (34, d_RowList_add), (8, d_frozen), (28, d_check_pairs), (9, d_lowered), (17, d_Form_init), (30, d_weighted_matrix), (40, d_expressed), (92, d_gainful), (39, d_pivoted), (49, d__law_is_point), (97, d__law_solved), (14, d_check_sizes), (16, d_combined_entries), (51, d__law_reduced), (94, d__law_draw_row_v2), (7, d_frozen_part), (12, d_check_square), (13, d_check_symmetric), (29, d_weighted_sum), (38, d_first_filled), (45, d__law_whole), (50, d__law_primitive), (48, d__law_gcd), (54, d__law_wide), (6, d_frozen_numbers)]
  mts := [((7, 2), 20), ((7, 3), 21), ((7, 0), 22), ((8, 1), 32), ((8, 2), 34), ((8, 0), 35), ((8, 12), 37)]
  inis := [(7, (17, (some (.int 1)))), (8, (31, (some (.int 1))))]
abbrev T : Tab := L.tab
def NN : NL where
  ats := [(100, (PySem.Str.ofString "law", none)), (96, (PySem.Str.ofString "_law_draw_list", none)), (31, (PySem.Str.ofString "RowList", some (PySem.Str.ofString "__init__"))), (93, (PySem.Str.ofString "basis_of", none)), (32, (PySem.Str.ofString "RowList", some (PySem.Str.ofString "__len__"))), (22, (PySem.Str.ofString "Form", some (PySem.Str.ofString "__eq__"))), (35, (PySem.Str.ofString "RowList", some (PySem.Str.ofString "__eq__"))), (98, (PySem.Str.ofString "_law_is_basis", none)), (99, (PySem.Str.ofString "_law_gains_little", none)), (21, (PySem.Str.ofString "Form", some (PySem.Str.ofString "__sub__"))), (37, (PySem.Str.ofString "RowList", some (PySem.Str.ofString "picked"))), (52, (PySem.Str.ofString "_law_rank", none)), (47, (PySem.Str.ofString "_law_digits", none)), (57, (PySem.Str.ofString "_law_planted", none)), (46, (PySem.Str.ofString "_law_cell", none)), (95, (PySem.Str.ofString "_law_draw_pair", none)), (20, (PySem.Str.ofString "Form", some (PySem.Str.ofString "__add__"))), (34, (PySem.Str.ofString "RowList", some (PySem.Str.ofString "__add__"))), (8, (PySem.Str.ofString "frozen", none)), (28, (PySem.Str.ofString "check_pairs", none)), (9, (PySem.Str.ofString "lowered", none)), (17, (PySem.Str.ofString "Form", some (PySem.Str.ofString "__init__"))), (30, (PySem.Str.ofString "weighted_matrix", none)), (40, (PySem.Str.ofString "expressed", none)), (92, (PySem.Str.ofString "gainful", none)), (39, (PySem.Str.ofString "pivoted", none)), (49, (PySem.Str.ofString "_law_is_point", none)), (97, (PySem.Str.ofString "_law_solved", none)), (14, (PySem.Str.ofString "check_sizes", none)), (16, (PySem.Str.ofString "combined_entries", none)), (51, (PySem.Str.ofString "_law_reduced", none)), (94, (PySem.Str.ofString "_law_draw_row", none)), (7, (PySem.Str.ofString "frozen_part", none)), (12, (PySem.Str.ofString "check_square", none)), (13, (PySem.Str.ofString "check_symmetric", none)), (29, (PySem.Str.ofString "weighted_sum", none)), (38, (PySem.Str.ofString "first_filled", none)), (45, (PySem.Str.ofString "_law_whole", none)), (50, (PySem.Str.ofString "_law_primitive", none)), (48, (PySem.Str.ofString "_law_gcd", none)), (54, (PySem.Str.ofString "_law_wide", none)), (6, (PySem.Str.ofString "frozen_numbers", none))]
  pss := [(100, [PySem.Str.ofString "script"]), (96, [PySem.Str.ofString "script"]), (31, [PySem.Str.ofString "self", PySem.Str.ofString "size", PySem.Str.ofString "pairs", PySem.Str.ofString "bottom"]), (93, [PySem.Str.ofString "rows"]), (32, [PySem.Str.ofString "self"]), (22, [PySem.Str.ofString "self", PySem.Str.ofString "other"]), (35, [PySem.Str.ofString "self", PySem.Str.ofString "other"]), (98, [PySem.Str.ofString "lines", PySem.Str.ofString "told", PySem.Str.ofString "rank"]), (99, [PySem.Str.ofString "lines", PySem.Str.ofString "weights", PySem.Str.ofString "told"]), (21, [PySem.Str.ofString "self", PySem.Str.ofString "other"]), (37, [PySem.Str.ofString "self", PySem.Str.ofString "indexes"]), (52, [PySem.Str.ofString "lines"]), (47, [PySem.Str.ofString "cell", PySem.Str.ofString "sizes"]), (57, [PySem.Str.ofString "size", PySem.Str.ofString "rows", PySem.Str.ofString "plan", PySem.Str.ofString "wide"]), (46, [PySem.Str.ofString "script", PySem.Str.ofString "k"]), (95, [PySem.Str.ofString "cell", PySem.Str.ofString "size", PySem.Str.ofString "kind", PySem.Str.ofString "heavy"]), (20, [PySem.Str.ofString "self", PySem.Str.ofString "other"]), (34, [PySem.Str.ofString "self", PySem.Str.ofString "other"]), (8, [PySem.Str.ofString "value"]), (28, [PySem.Str.ofString "size", PySem.Str.ofString "pairs"]), (9, [PySem.Str.ofString "numbers", PySem.Str.ofString "bottom"]), (17, [PySem.Str.ofString "self", PySem.Str.ofString "entries", PySem.Str.ofString "bottom"]), (30, [PySem.Str.ofString "size", PySem.Str.ofString "pairs"]), (40, [PySem.Str.ofString "columns"]), (92, [PySem.Str.ofString "weights", PySem.Str.ofString "basis", PySem.Str.ofString "table", PySem.Str.ofString "divisor"]), (39, [PySem.Str.ofString "table", PySem.Str.ofString "line", PySem.Str.ofString "column", PySem.Str.ofString "divisor"]), (49, [PySem.Str.ofString "value", PySem.Str.ofString "size"]), (97, [PySem.Str.ofString "rows", PySem.Str.ofString "others"]), (14, [PySem.Str.ofString "one", PySem.Str.ofString "two"]), (16, [PySem.Str.ofString "one", PySem.Str.ofString "first", PySem.Str.ofString "two", PySem.Str.ofString "second"]), (51, [PySem.Str.ofString "kept", PySem.Str.ofString "line"]), (94, [PySem.Str.ofString "size", PySem.Str.ofString "kind", PySem.Str.ofString "row"]), (7, [PySem.Str.ofString "value"]), (12, [PySem.Str.ofString "lines"]), (13, [PySem.Str.ofString "lines"]), (29, [PySem.Str.ofString "pairs", PySem.Str.ofString "one", PySem.Str.ofString "two"]), (38, [PySem.Str.ofString "table", PySem.Str.ofString "start", PySem.Str.ofString "column"]), (45, [PySem.Str.ofString "value"]), (50, [PySem.Str.ofString "line"]), (48, [PySem.Str.ofString "one", PySem.Str.ofString "two"]), (54, [PySem.Str.ofString "row", PySem.Str.ofString "begin", PySem.Str.ofString "size"]), (6, [PySem.Str.ofString "value"])]
  cls := [(7, PySem.Str.ofString "Form"), (8, PySem.Str.ofString "RowList")]
  fds := [PySem.Str.ofString "row", PySem.Str.ofString "column", PySem.Str.ofString "one", PySem.Str.ofString "two", PySem.Str.ofString "index", PySem.Str.ofString "size", PySem.Str.ofString "entries", PySem.Str.ofString "bottom", PySem.Str.ofString "pairs", PySem.Str.ofString "form", PySem.Str.ofString "point", PySem.Str.ofString "places", PySem.Str.ofString "ties", PySem.Str.ofString "rows", PySem.Str.ofString "side", PySem.Str.ofString "count", PySem.Str.ofString "step", PySem.Str.ofString "left", PySem.Str.ofString "line", PySem.Str.ofString "holds", PySem.Str.ofString "squares", PySem.Str.ofString "under", PySem.Str.ofString "over", PySem.Str.ofString "counts", PySem.Str.ofString "low", PySem.Str.ofString "high", PySem.Str.ofString "unit", PySem.Str.ofString "lead_indexes", PySem.Str.ofString "low_measure", PySem.Str.ofString "high_measure", PySem.Str.ofString "grade", PySem.Str.ofString "rank", PySem.Str.ofString "log", PySem.Str.ofString "stand", PySem.Str.ofString "heights", PySem.Str.ofString "residual"]
  mts := [PySem.Str.ofString "__eq__", PySem.Str.ofString "__len__", PySem.Str.ofString "__add__", PySem.Str.ofString "__sub__", PySem.Str.ofString "zero", PySem.Str.ofString "square", PySem.Str.ofString "__call__", PySem.Str.ofString "between", PySem.Str.ofString "at", PySem.Str.ofString "applied", PySem.Str.ofString "scaled", PySem.Str.ofString "__iter__", PySem.Str.ofString "picked", PySem.Str.ofString "complete", PySem.Str.ofString "ring", PySem.Str.ofString "grid", PySem.Str.ofString "of_rows", PySem.Str.ofString "fence_tables", PySem.Str.ofString "pair_numbers", PySem.Str.ofString "numbers", PySem.Str.ofString "moved", PySem.Str.ofString "lets", PySem.Str.ofString "room", PySem.Str.ofString "is_let", PySem.Str.ofString "taken", PySem.Str.ofString "pick", PySem.Str.ofString "kept"]
  kws := [(7, PySem.Str.ofString "bottom"), (8, PySem.Str.ofString "bottom")]
  frees := [PySem.Str.ofString "abs", PySem.Str.ofString "all", PySem.Str.ofString "bool", PySem.Str.ofString "enumerate", PySem.Str.ofString "int", PySem.Str.ofString "isinstance", PySem.Str.ofString "len", PySem.Str.ofString "list", PySem.Str.ofString "min", PySem.Str.ofString "range", PySem.Str.ofString "sorted", PySem.Str.ofString "sum", PySem.Str.ofString "tuple", PySem.Str.ofString "zip"]
def top (i : Nat) : PySem.Stmt := PySem.Challenge.pw_fourcords_k11_basis_exchange.main.body.getD i (.Pass ⟨0, 0, 0, 0⟩)
def t_law_v2 : He.DefD := ⟨("law", none), "law", "law", L2.defArgs (top 53), L2.defBody (top 53), L2.defScope (top 53), [], []⟩
def t__law_draw_list_v2 : He.DefD := ⟨("_law_draw_list", none), "_law_draw_list", "_law_draw_list", L2.defArgs (top 49), L2.defBody (top 49), L2.defScope (top 49), [], []⟩
def t_RowList_init : He.DefD := ⟨("RowList", some "__init__"), "__init__", "RowList.__init__", L2.defArgs (L2.inClass (top 28) 0), L2.defBody (L2.inClass (top 28) 0), L2.defScope (L2.inClass (top 28) 0), [], [("bottom", .int 1)]⟩
def t_basis_of : He.DefD := ⟨("basis_of", none), "basis_of", "basis_of", L2.defArgs (top 35), L2.defBody (top 35), L2.defScope (top 35), [], []⟩
def t_RowList_len : He.DefD := ⟨("RowList", some "__len__"), "__len__", "RowList.__len__", L2.defArgs (L2.inClass (top 28) 1), L2.defBody (L2.inClass (top 28) 1), L2.defScope (L2.inClass (top 28) 1), [], []⟩
def t_Form_eq : He.DefD := ⟨("Form", some "__eq__"), "__eq__", "Form.__eq__", L2.defArgs (L2.inClass (top 23) 5), L2.defBody (L2.inClass (top 23) 5), L2.defScope (L2.inClass (top 23) 5), [], []⟩
def t_RowList_eq : He.DefD := ⟨("RowList", some "__eq__"), "__eq__", "RowList.__eq__", L2.defArgs (L2.inClass (top 28) 4), L2.defBody (L2.inClass (top 28) 4), L2.defScope (L2.inClass (top 28) 4), [], []⟩
def t__law_is_basis_v1 : He.DefD := ⟨("_law_is_basis", none), "_law_is_basis", "_law_is_basis", L2.defArgs (top 51), L2.defBody (top 51), L2.defScope (top 51), [], []⟩
def t__law_gains_little : He.DefD := ⟨("_law_gains_little", none), "_law_gains_little", "_law_gains_little", L2.defArgs (top 52), L2.defBody (top 52), L2.defScope (top 52), [], []⟩
def t_Form_sub : He.DefD := ⟨("Form", some "__sub__"), "__sub__", "Form.__sub__", L2.defArgs (L2.inClass (top 23) 4), L2.defBody (L2.inClass (top 23) 4), L2.defScope (L2.inClass (top 23) 4), [], []⟩
def t_RowList_picked : He.DefD := ⟨("RowList", some "picked"), "picked", "RowList.picked", L2.defArgs (L2.inClass (top 28) 6), L2.defBody (L2.inClass (top 28) 6), L2.defScope (L2.inClass (top 28) 6), [], []⟩
def t__law_rank : He.DefD := ⟨("_law_rank", none), "_law_rank", "_law_rank", L2.defArgs (top 44), L2.defBody (top 44), L2.defScope (top 44), [], []⟩
def t__law_digits : He.DefD := ⟨("_law_digits", none), "_law_digits", "_law_digits", L2.defArgs (top 39), L2.defBody (top 39), L2.defScope (top 39), [], []⟩
def t__law_planted : He.DefD := ⟨("_law_planted", none), "_law_planted", "_law_planted", L2.defArgs (top 48), L2.defBody (top 48), L2.defScope (top 48), [], []⟩
def t__law_cell : He.DefD := ⟨("_law_cell", none), "_law_cell", "_law_cell", L2.defArgs (top 38), L2.defBody (top 38), L2.defScope (top 38), [], []⟩
def t__law_draw_pair_v1 : He.DefD := ⟨("_law_draw_pair", none), "_law_draw_pair", "_law_draw_pair", L2.defArgs (top 47), L2.defBody (top 47), L2.defScope (top 47), [], []⟩
def t_Form_add : He.DefD := ⟨("Form", some "__add__"), "__add__", "Form.__add__", L2.defArgs (L2.inClass (top 23) 3), L2.defBody (L2.inClass (top 23) 3), L2.defScope (L2.inClass (top 23) 3), [], []⟩
def t_RowList_add : He.DefD := ⟨("RowList", some "__add__"), "__add__", "RowList.__add__", L2.defArgs (L2.inClass (top 28) 3), L2.defBody (L2.inClass (top 28) 3), L2.defScope (L2.inClass (top 28) 3), [], []⟩
def t_frozen : He.DefD := ⟨("frozen", none), "frozen", "frozen", L2.defArgs (top 13), L2.defBody (top 13), L2.defScope (top 13), [], []⟩
def t_check_pairs : He.DefD := ⟨("check_pairs", none), "check_pairs", "check_pairs", L2.defArgs (top 25), L2.defBody (top 25), L2.defScope (top 25), [], []⟩
def t_lowered : He.DefD := ⟨("lowered", none), "lowered", "lowered", L2.defArgs (top 14), L2.defBody (top 14), L2.defScope (top 14), [], []⟩
def t_Form_init : He.DefD := ⟨("Form", some "__init__"), "__init__", "Form.__init__", L2.defArgs (L2.inClass (top 23) 0), L2.defBody (L2.inClass (top 23) 0), L2.defScope (L2.inClass (top 23) 0), [], [("bottom", .int 1)]⟩
def t_weighted_matrix : He.DefD := ⟨("weighted_matrix", none), "weighted_matrix", "weighted_matrix", L2.defArgs (top 27), L2.defBody (top 27), L2.defScope (top 27), [], []⟩
def t_expressed : He.DefD := ⟨("expressed", none), "expressed", "expressed", L2.defArgs (top 32), L2.defBody (top 32), L2.defScope (top 32), [], []⟩
def t_gainful : He.DefD := ⟨("gainful", none), "gainful", "gainful", L2.defArgs (top 34), L2.defBody (top 34), L2.defScope (top 34), [], []⟩
def t_pivoted : He.DefD := ⟨("pivoted", none), "pivoted", "pivoted", L2.defArgs (top 31), L2.defBody (top 31), L2.defScope (top 31), [], []⟩
def t__law_is_point : He.DefD := ⟨("_law_is_point", none), "_law_is_point", "_law_is_point", L2.defArgs (top 41), L2.defBody (top 41), L2.defScope (top 41), [], []⟩
def t__law_solved : He.DefD := ⟨("_law_solved", none), "_law_solved", "_law_solved", L2.defArgs (top 50), L2.defBody (top 50), L2.defScope (top 50), [], []⟩
def t_check_sizes : He.DefD := ⟨("check_sizes", none), "check_sizes", "check_sizes", L2.defArgs (top 20), L2.defBody (top 20), L2.defScope (top 20), [], []⟩
def t_combined_entries : He.DefD := ⟨("combined_entries", none), "combined_entries", "combined_entries", L2.defArgs (top 22), L2.defBody (top 22), L2.defScope (top 22), [], []⟩
def t__law_reduced : He.DefD := ⟨("_law_reduced", none), "_law_reduced", "_law_reduced", L2.defArgs (top 43), L2.defBody (top 43), L2.defScope (top 43), [], []⟩
def t__law_draw_row_v2 : He.DefD := ⟨("_law_draw_row", none), "_law_draw_row", "_law_draw_row", L2.defArgs (top 46), L2.defBody (top 46), L2.defScope (top 46), [], []⟩
def t_frozen_part : He.DefD := ⟨("frozen_part", none), "frozen_part", "frozen_part", L2.defArgs (top 12), L2.defBody (top 12), L2.defScope (top 12), [], []⟩
def t_check_square : He.DefD := ⟨("check_square", none), "check_square", "check_square", L2.defArgs (top 18), L2.defBody (top 18), L2.defScope (top 18), [], []⟩
def t_check_symmetric : He.DefD := ⟨("check_symmetric", none), "check_symmetric", "check_symmetric", L2.defArgs (top 19), L2.defBody (top 19), L2.defScope (top 19), [], []⟩
def t_weighted_sum : He.DefD := ⟨("weighted_sum", none), "weighted_sum", "weighted_sum", L2.defArgs (top 26), L2.defBody (top 26), L2.defScope (top 26), [], []⟩
def t_first_filled : He.DefD := ⟨("first_filled", none), "first_filled", "first_filled", L2.defArgs (top 30), L2.defBody (top 30), L2.defScope (top 30), [], []⟩
def t__law_whole : He.DefD := ⟨("_law_whole", none), "_law_whole", "_law_whole", L2.defArgs (top 37), L2.defBody (top 37), L2.defScope (top 37), [], []⟩
def t__law_primitive : He.DefD := ⟨("_law_primitive", none), "_law_primitive", "_law_primitive", L2.defArgs (top 42), L2.defBody (top 42), L2.defScope (top 42), [], []⟩
def t__law_gcd : He.DefD := ⟨("_law_gcd", none), "_law_gcd", "_law_gcd", L2.defArgs (top 40), L2.defBody (top 40), L2.defScope (top 40), [], []⟩
def t__law_wide : He.DefD := ⟨("_law_wide", none), "_law_wide", "_law_wide", L2.defArgs (top 45), L2.defBody (top 45), L2.defScope (top 45), [], []⟩
def t_frozen_numbers : He.DefD := ⟨("frozen_numbers", none), "frozen_numbers", "frozen_numbers", L2.defArgs (top 11), L2.defBody (top 11), L2.defScope (top 11), [], []⟩
def tfn : List He.DefD := [t_law_v2, t__law_draw_list_v2, t_RowList_init, t_basis_of, t_RowList_len, t_Form_eq, t_RowList_eq, t__law_is_basis_v1, t__law_gains_little, t_Form_sub, t_RowList_picked, t__law_rank, t__law_digits, t__law_planted, t__law_cell, t__law_draw_pair_v1, t_Form_add, t_RowList_add, t_frozen, t_check_pairs, t_lowered, t_Form_init, t_weighted_matrix, t_expressed, t_gainful, t_pivoted, t__law_is_point, t__law_solved, t_check_sizes, t_combined_entries, t__law_reduced, t__law_draw_row_v2, t_frozen_part, t_check_square, t_check_symmetric, t_weighted_sum, t_first_filled, t__law_whole, t__law_primitive, t__law_gcd, t__law_wide, t_frozen_numbers]
def n_law_v2 : List PySem.Str := [PySem.Str.ofString "script", PySem.Str.ofString "drawn", PySem.Str.ofString "lines", PySem.Str.ofString "weights", PySem.Str.ofString "rows", PySem.Str.ofString "told", PySem.Str.ofString "turned", PySem.Str.ofString "other", PySem.Str.ofString "back", PySem.Str.ofString "same", PySem.Str.ofString "last", PySem.Str.ofString "pair", PySem.Str.ofString "k"]
theorem o_law_v2 : oneB NN 100 d_law_v2 n_law_v2 (t_law_v2).scope (t_law_v2).body = true := by kernel_rfl
def n__law_draw_list_v2 : List PySem.Str := [PySem.Str.ofString "script", PySem.Str.ofString "shape", PySem.Str.ofString "size", PySem.Str.ofString "many", PySem.Str.ofString "kind", PySem.Str.ofString "heavy", PySem.Str.ofString "drawn", PySem.Str.ofString "rows", PySem.Str.ofString "plan", PySem.Str.ofString "under", PySem.Str.ofString "k", PySem.Str.ofString "pair", PySem.Str.ofString "one", PySem.Str.ofString "two", PySem.Str.ofString "j"]
theorem o__law_draw_list_v2 : oneB NN 96 d__law_draw_list_v2 n__law_draw_list_v2 (t__law_draw_list_v2).scope (t__law_draw_list_v2).body = true := by kernel_rfl
def n_RowList_init : List PySem.Str := [PySem.Str.ofString "self", PySem.Str.ofString "size", PySem.Str.ofString "pairs", PySem.Str.ofString "bottom", PySem.Str.ofString "passed", PySem.Str.ofString "weights", PySem.Str.ofString "least_bottom", PySem.Str.ofString "pair", PySem.Str.ofString "weight"]
theorem o_RowList_init : oneB NN 31 d_RowList_init n_RowList_init (t_RowList_init).scope (t_RowList_init).body = true := by kernel_rfl
def n_basis_of : List PySem.Str := [PySem.Str.ofString "rows", PySem.Str.ofString "weights", PySem.Str.ofString "found", PySem.Str.ofString "basis", PySem.Str.ofString "table", PySem.Str.ofString "divisor", PySem.Str.ofString "index", PySem.Str.ofString "place", PySem.Str.ofString "_", PySem.Str.ofString "weight", PySem.Str.ofString "row"]
theorem o_basis_of : oneB NN 93 d_basis_of n_basis_of (t_basis_of).scope (t_basis_of).body = true := by kernel_rfl
def n_RowList_len : List PySem.Str := [PySem.Str.ofString "self"]
theorem o_RowList_len : oneB NN 32 d_RowList_len n_RowList_len (t_RowList_len).scope (t_RowList_len).body = true := by kernel_rfl
def n_Form_eq : List PySem.Str := [PySem.Str.ofString "self", PySem.Str.ofString "other"]
theorem o_Form_eq : oneB NN 22 d_Form_eq n_Form_eq (t_Form_eq).scope (t_Form_eq).body = true := by kernel_rfl
def n_RowList_eq : List PySem.Str := [PySem.Str.ofString "self", PySem.Str.ofString "other"]
theorem o_RowList_eq : oneB NN 35 d_RowList_eq n_RowList_eq (t_RowList_eq).scope (t_RowList_eq).body = true := by kernel_rfl
def n__law_is_basis_v1 : List PySem.Str := [PySem.Str.ofString "lines", PySem.Str.ofString "told", PySem.Str.ofString "rank", PySem.Str.ofString "k", PySem.Str.ofString "index"]
theorem o__law_is_basis_v1 : oneB NN 98 d__law_is_basis_v1 n__law_is_basis_v1 (t__law_is_basis_v1).scope (t__law_is_basis_v1).body = true := by kernel_rfl
def n__law_gains_little : List PySem.Str := [PySem.Str.ofString "lines", PySem.Str.ofString "weights", PySem.Str.ofString "told", PySem.Str.ofString "solved", PySem.Str.ofString "j", PySem.Str.ofString "i", PySem.Str.ofString "number", PySem.Str.ofString "index"]
theorem o__law_gains_little : oneB NN 99 d__law_gains_little n__law_gains_little (t__law_gains_little).scope (t__law_gains_little).body = true := by kernel_rfl
def n_Form_sub : List PySem.Str := [PySem.Str.ofString "self", PySem.Str.ofString "other"]
theorem o_Form_sub : oneB NN 21 d_Form_sub n_Form_sub (t_Form_sub).scope (t_Form_sub).body = true := by kernel_rfl
def n_RowList_picked : List PySem.Str := [PySem.Str.ofString "self", PySem.Str.ofString "indexes", PySem.Str.ofString "index"]
theorem o_RowList_picked : oneB NN 37 d_RowList_picked n_RowList_picked (t_RowList_picked).scope (t_RowList_picked).body = true := by kernel_rfl
def n__law_rank : List PySem.Str := [PySem.Str.ofString "lines", PySem.Str.ofString "kept", PySem.Str.ofString "line", PySem.Str.ofString "rest", PySem.Str.ofString "filled", PySem.Str.ofString "j"]
theorem o__law_rank : oneB NN 52 d__law_rank n__law_rank (t__law_rank).scope (t__law_rank).body = true := by kernel_rfl
def n__law_digits : List PySem.Str := [PySem.Str.ofString "cell", PySem.Str.ofString "sizes", PySem.Str.ofString "row", PySem.Str.ofString "rest", PySem.Str.ofString "seed", PySem.Str.ofString "k", PySem.Str.ofString "size", PySem.Str.ofString "twice"]
theorem o__law_digits : oneB NN 47 d__law_digits n__law_digits (t__law_digits).scope (t__law_digits).body = true := by kernel_rfl
def n__law_planted : List PySem.Str := [PySem.Str.ofString "size", PySem.Str.ofString "rows", PySem.Str.ofString "plan", PySem.Str.ofString "wide", PySem.Str.ofString "many", PySem.Str.ofString "one", PySem.Str.ofString "two", PySem.Str.ofString "both", PySem.Str.ofString "apart", PySem.Str.ofString "first", PySem.Str.ofString "found", PySem.Str.ofString "at", PySem.Str.ofString "k", PySem.Str.ofString "number"]
theorem o__law_planted : oneB NN 57 d__law_planted n__law_planted (t__law_planted).scope (t__law_planted).body = true := by kernel_rfl
def n__law_cell : List PySem.Str := [PySem.Str.ofString "script", PySem.Str.ofString "k", PySem.Str.ofString "seed", PySem.Str.ofString "cell"]
theorem o__law_cell : oneB NN 46 d__law_cell n__law_cell (t__law_cell).scope (t__law_cell).body = true := by kernel_rfl
def n__law_draw_pair_v1 : List PySem.Str := [PySem.Str.ofString "cell", PySem.Str.ofString "size", PySem.Str.ofString "kind", PySem.Str.ofString "heavy", PySem.Str.ofString "sizes", PySem.Str.ofString "row", PySem.Str.ofString "weight"]
theorem o__law_draw_pair_v1 : oneB NN 95 d__law_draw_pair_v1 n__law_draw_pair_v1 (t__law_draw_pair_v1).scope (t__law_draw_pair_v1).body = true := by kernel_rfl
def n_Form_add : List PySem.Str := [PySem.Str.ofString "self", PySem.Str.ofString "other"]
theorem o_Form_add : oneB NN 20 d_Form_add n_Form_add (t_Form_add).scope (t_Form_add).body = true := by kernel_rfl
def n_RowList_add : List PySem.Str := [PySem.Str.ofString "self", PySem.Str.ofString "other", PySem.Str.ofString "first", PySem.Str.ofString "second", PySem.Str.ofString "row", PySem.Str.ofString "weight"]
theorem o_RowList_add : oneB NN 34 d_RowList_add n_RowList_add (t_RowList_add).scope (t_RowList_add).body = true := by kernel_rfl
def n_frozen : List PySem.Str := [PySem.Str.ofString "value", PySem.Str.ofString "part"]
theorem o_frozen : oneB NN 8 d_frozen n_frozen (t_frozen).scope (t_frozen).body = true := by kernel_rfl
def n_check_pairs : List PySem.Str := [PySem.Str.ofString "size", PySem.Str.ofString "pairs", PySem.Str.ofString "index", PySem.Str.ofString "row", PySem.Str.ofString "weight"]
theorem o_check_pairs : oneB NN 28 d_check_pairs n_check_pairs (t_check_pairs).scope (t_check_pairs).body = true := by kernel_rfl
def n_lowered : List PySem.Str := [PySem.Str.ofString "numbers", PySem.Str.ofString "bottom", PySem.Str.ofString "shared", PySem.Str.ofString "number"]
theorem o_lowered : oneB NN 9 d_lowered n_lowered (t_lowered).scope (t_lowered).body = true := by kernel_rfl
def n_Form_init : List PySem.Str := [PySem.Str.ofString "self", PySem.Str.ofString "entries", PySem.Str.ofString "bottom", PySem.Str.ofString "lines", PySem.Str.ofString "size", PySem.Str.ofString "numbers", PySem.Str.ofString "least_bottom", PySem.Str.ofString "line", PySem.Str.ofString "number", PySem.Str.ofString "row"]
theorem o_Form_init : oneB NN 17 d_Form_init n_Form_init (t_Form_init).scope (t_Form_init).body = true := by kernel_rfl
def n_weighted_matrix : List PySem.Str := [PySem.Str.ofString "size", PySem.Str.ofString "pairs", PySem.Str.ofString "line", PySem.Str.ofString "column"]
theorem o_weighted_matrix : oneB NN 30 d_weighted_matrix n_weighted_matrix (t_weighted_matrix).scope (t_weighted_matrix).body = true := by kernel_rfl
def n_expressed : List PySem.Str := [PySem.Str.ofString "columns", PySem.Str.ofString "height", PySem.Str.ofString "table", PySem.Str.ofString "basis", PySem.Str.ofString "divisor", PySem.Str.ofString "index", PySem.Str.ofString "place", PySem.Str.ofString "line", PySem.Str.ofString "column"]
theorem o_expressed : oneB NN 40 d_expressed n_expressed (t_expressed).scope (t_expressed).body = true := by kernel_rfl
def n_gainful : List PySem.Str := [PySem.Str.ofString "weights", PySem.Str.ofString "basis", PySem.Str.ofString "table", PySem.Str.ofString "divisor", PySem.Str.ofString "index", PySem.Str.ofString "weight", PySem.Str.ofString "place", PySem.Str.ofString "line"]
theorem o_gainful : oneB NN 92 d_gainful n_gainful (t_gainful).scope (t_gainful).body = true := by kernel_rfl
def n_pivoted : List PySem.Str := [PySem.Str.ofString "table", PySem.Str.ofString "line", PySem.Str.ofString "column", PySem.Str.ofString "divisor", PySem.Str.ofString "main", PySem.Str.ofString "pivot", PySem.Str.ofString "changed", PySem.Str.ofString "place", PySem.Str.ofString "numbers", PySem.Str.ofString "off", PySem.Str.ofString "number", PySem.Str.ofString "other"]
theorem o_pivoted : oneB NN 39 d_pivoted n_pivoted (t_pivoted).scope (t_pivoted).body = true := by kernel_rfl
def n__law_is_point : List PySem.Str := [PySem.Str.ofString "value", PySem.Str.ofString "size", PySem.Str.ofString "number"]
theorem o__law_is_point : oneB NN 49 d__law_is_point n__law_is_point (t__law_is_point).scope (t__law_is_point).body = true := by kernel_rfl
def n__law_solved : List PySem.Str := [PySem.Str.ofString "rows", PySem.Str.ofString "others", PySem.Str.ofString "many", PySem.Str.ofString "size", PySem.Str.ofString "table", PySem.Str.ofString "used", PySem.Str.ofString "j", PySem.Str.ofString "under", PySem.Str.ofString "numbers", PySem.Str.ofString "found", PySem.Str.ofString "main", PySem.Str.ofString "k", PySem.Str.ofString "pivot", PySem.Str.ofString "line", PySem.Str.ofString "off", PySem.Str.ofString "row", PySem.Str.ofString "i"]
theorem o__law_solved : oneB NN 97 d__law_solved n__law_solved (t__law_solved).scope (t__law_solved).body = true := by kernel_rfl
def n_check_sizes : List PySem.Str := [PySem.Str.ofString "one", PySem.Str.ofString "two"]
theorem o_check_sizes : oneB NN 14 d_check_sizes n_check_sizes (t_check_sizes).scope (t_check_sizes).body = true := by kernel_rfl
def n_combined_entries : List PySem.Str := [PySem.Str.ofString "one", PySem.Str.ofString "first", PySem.Str.ofString "two", PySem.Str.ofString "second", PySem.Str.ofString "lines", PySem.Str.ofString "line", PySem.Str.ofString "mate", PySem.Str.ofString "entry", PySem.Str.ofString "other"]
theorem o_combined_entries : oneB NN 16 d_combined_entries n_combined_entries (t_combined_entries).scope (t_combined_entries).body = true := by kernel_rfl
def n__law_reduced : List PySem.Str := [PySem.Str.ofString "kept", PySem.Str.ofString "line", PySem.Str.ofString "rest", PySem.Str.ofString "entry", PySem.Str.ofString "off", PySem.Str.ofString "main", PySem.Str.ofString "pivot", PySem.Str.ofString "j"]
theorem o__law_reduced : oneB NN 51 d__law_reduced n__law_reduced (t__law_reduced).scope (t__law_reduced).body = true := by kernel_rfl
def n__law_draw_row_v2 : List PySem.Str := [PySem.Str.ofString "size", PySem.Str.ofString "kind", PySem.Str.ofString "row", PySem.Str.ofString "small", PySem.Str.ofString "one", PySem.Str.ofString "two", PySem.Str.ofString "k"]
theorem o__law_draw_row_v2 : oneB NN 94 d__law_draw_row_v2 n__law_draw_row_v2 (t__law_draw_row_v2).scope (t__law_draw_row_v2).body = true := by kernel_rfl
def n_frozen_part : List PySem.Str := [PySem.Str.ofString "value", PySem.Str.ofString "part"]
theorem o_frozen_part : oneB NN 7 d_frozen_part n_frozen_part (t_frozen_part).scope (t_frozen_part).body = true := by kernel_rfl
def n_check_square : List PySem.Str := [PySem.Str.ofString "lines", PySem.Str.ofString "row", PySem.Str.ofString "line"]
theorem o_check_square : oneB NN 12 d_check_square n_check_square (t_check_square).scope (t_check_square).body = true := by kernel_rfl
def n_check_symmetric : List PySem.Str := [PySem.Str.ofString "lines", PySem.Str.ofString "row", PySem.Str.ofString "column"]
theorem o_check_symmetric : oneB NN 13 d_check_symmetric n_check_symmetric (t_check_symmetric).scope (t_check_symmetric).body = true := by kernel_rfl
def n_weighted_sum : List PySem.Str := [PySem.Str.ofString "pairs", PySem.Str.ofString "one", PySem.Str.ofString "two", PySem.Str.ofString "row", PySem.Str.ofString "weight"]
theorem o_weighted_sum : oneB NN 29 d_weighted_sum n_weighted_sum (t_weighted_sum).scope (t_weighted_sum).body = true := by kernel_rfl
def n_first_filled : List PySem.Str := [PySem.Str.ofString "table", PySem.Str.ofString "start", PySem.Str.ofString "column", PySem.Str.ofString "line"]
theorem o_first_filled : oneB NN 38 d_first_filled n_first_filled (t_first_filled).scope (t_first_filled).body = true := by kernel_rfl
def n__law_whole : List PySem.Str := [PySem.Str.ofString "value"]
theorem o__law_whole : oneB NN 45 d__law_whole n__law_whole (t__law_whole).scope (t__law_whole).body = true := by kernel_rfl
def n__law_primitive : List PySem.Str := [PySem.Str.ofString "line", PySem.Str.ofString "shared", PySem.Str.ofString "number"]
theorem o__law_primitive : oneB NN 50 d__law_primitive n__law_primitive (t__law_primitive).scope (t__law_primitive).body = true := by kernel_rfl
def n__law_gcd : List PySem.Str := [PySem.Str.ofString "one", PySem.Str.ofString "two", PySem.Str.ofString "turn", PySem.Str.ofString "rest"]
theorem o__law_gcd : oneB NN 48 d__law_gcd n__law_gcd (t__law_gcd).scope (t__law_gcd).body = true := by kernel_rfl
def n__law_wide : List PySem.Str := [PySem.Str.ofString "row", PySem.Str.ofString "begin", PySem.Str.ofString "size", PySem.Str.ofString "k"]
theorem o__law_wide : oneB NN 54 d__law_wide n__law_wide (t__law_wide).scope (t__law_wide).body = true := by kernel_rfl
def n_frozen_numbers : List PySem.Str := [PySem.Str.ofString "value"]
theorem o_frozen_numbers : oneB NN 6 d_frozen_numbers n_frozen_numbers (t_frozen_numbers).scope (t_frozen_numbers).body = true := by kernel_rfl
def nm0 : List PySem.Str := [PySem.Str.ofString "_wall", PySem.Str.ofString "CordError", PySem.Str.ofString "ZeroBottom", PySem.Str.ofString "NotSquare", PySem.Str.ofString "NotSymmetric", PySem.Str.ofString "SizesDiffer", PySem.Str.ofString "BadRow", PySem.Str.ofString "BadWeight", PySem.Str.ofString "frozen_numbers", PySem.Str.ofString "frozen_part", PySem.Str.ofString "frozen", PySem.Str.ofString "lowered", PySem.Str.ofString "fraction", PySem.Str.ofString "dot", PySem.Str.ofString "check_square", PySem.Str.ofString "check_symmetric", PySem.Str.ofString "check_sizes", PySem.Str.ofString "check_point", PySem.Str.ofString "combined_entries", PySem.Str.ofString "Form", PySem.Str.ofString "check_pairs", PySem.Str.ofString "weighted_sum", PySem.Str.ofString "weighted_matrix", PySem.Str.ofString "RowList", PySem.Str.ofString "first_filled", PySem.Str.ofString "pivoted", PySem.Str.ofString "expressed", PySem.Str.ofString "gainful", PySem.Str.ofString "basis_of", PySem.Str.ofString "_law_whole", PySem.Str.ofString "_law_cell", PySem.Str.ofString "_law_digits", PySem.Str.ofString "_law_gcd", PySem.Str.ofString "_law_is_point", PySem.Str.ofString "_law_primitive"]
def nm1 : List PySem.Str := [PySem.Str.ofString "_law_reduced", PySem.Str.ofString "_law_rank", PySem.Str.ofString "_law_wide", PySem.Str.ofString "_law_draw_row", PySem.Str.ofString "_law_draw_pair", PySem.Str.ofString "_law_planted", PySem.Str.ofString "_law_draw_list", PySem.Str.ofString "_law_solved", PySem.Str.ofString "_law_is_basis", PySem.Str.ofString "_law_gains_little"]
def loose : List PySem.Str := nm0 ++ nm1
abbrev RR : PySem.W.OpenRow := PySem.W.OpenLaw.row PySem.Challenge.rw_fourcords_k11_basis_exchange
abbrev hk : PySem.W.Hook := hookX 5 L NN tfn
def ob (s : PySem.W.SharedT) : He.AlD := obsXG 5 L NN tfn (HandSHeadRun.getT s)
theorem ob_eq (s : PySem.W.SharedT) : ob s = hk.obs s.abs := obsXG_eq (HandSHeadRun.getT_eq s)
theorem run (w : PySem.World) : HandSHeadRun.RunEqI RR (PySem.W.view RR.prog [0, 53]) hk ob 8000 loose w := by
  unfold HandSHeadRun.RunEqI
  kernel_rfl
section
variable {K : PySem.W.Frag}
theorem x_law_v2 (c : obsX L NN tfn K = He.valD tfn) : ∃ N fd, OneD T NN.nm K 100 d_law_v2 N fd ∧ BindD T NN.nm K 100 d_law_v2 fd := by
  obtain ⟨fd, F⟩ := says_def c 0 (d := t_law_v2) rfl
  have B : Binds K fd [PySem.Str.ofString "script"] [] := FunD.bindsN F fun _ _ _ _ _ _ us hl => match us, hl with | [u0], _ => rfl
  refine ⟨n_law_v2, fd, one_ok o_law_v2 F, bind_n (show Binds K fd (NN.nm.ps 100) [] from B) fun c kw h => ?_⟩
  have hm := mem_lk (show L.inis.lookup c = some (100, kw) from h)
  simp [L] at hm
theorem x__law_draw_list_v2 (c : obsX L NN tfn K = He.valD tfn) : ∃ N fd, OneD T NN.nm K 96 d__law_draw_list_v2 N fd ∧ BindD T NN.nm K 96 d__law_draw_list_v2 fd := by
  obtain ⟨fd, F⟩ := says_def c 1 (d := t__law_draw_list_v2) rfl
  have B : Binds K fd [PySem.Str.ofString "script"] [] := FunD.bindsN F fun _ _ _ _ _ _ us hl => match us, hl with | [u0], _ => rfl
  refine ⟨n__law_draw_list_v2, fd, one_ok o__law_draw_list_v2 F, bind_n (show Binds K fd (NN.nm.ps 96) [] from B) fun c kw h => ?_⟩
  have hm := mem_lk (show L.inis.lookup c = some (96, kw) from h)
  simp [L] at hm
theorem x_RowList_init (c : obsX L NN tfn K = He.valD tfn) : ∃ N fd, OneD T NN.nm K 31 d_RowList_init N fd ∧ BindD T NN.nm K 31 d_RowList_init fd := by
  obtain ⟨fd, F⟩ := says_def c 2 (d := t_RowList_init) rfl
  obtain ⟨ds, r, hb⟩ : ∃ ds, Vals [V.int 1] ds ∧ Binds K fd [PySem.Str.ofString "self", PySem.Str.ofString "size", PySem.Str.ofString "pairs", PySem.Str.ofString "bottom"] ds := FunD.binds0 (ps := [PySem.Str.ofString "self", PySem.Str.ofString "size", PySem.Str.ofString "pairs", PySem.Str.ofString "bottom"]) F 3 (List.cons_ne_nil _ _) rfl fun D doc pm an cdv ct us ks hl hk => match us, ks, hl, hk with | [u0, u1, u2], [k0], _, _ => ⟨_, _, _, _, _, _, rfl, rfl, rfl⟩
  obtain ⟨mv, kb⟩ := FunD.kbinds0 (ps := [PySem.Str.ofString "self", PySem.Str.ofString "size", PySem.Str.ofString "pairs", PySem.Str.ofString "bottom"]) F 3 [PySem.Str.ofString "bottom"] [] (fun us _ ws => us ++ ws) (List.cons_ne_nil _ _) (by simp) (fun r1 _ r2 => r1.append r2) fun D doc pm an cdv ct us mv ws h1 h2 h3 => match us, mv, ws, h1, h2, h3 with | [u0, u1, u2], [], [w0], _, _, _ => rfl
  refine ⟨n_RowList_init, fd, one_ok o_RowList_init F, ⟨(fun h => by cases h), fun c kw h => ?_⟩⟩
  have hm := mem_lk (show L.inis.lookup c = some (31, kw) from h)
  simp [L] at hm
  obtain ⟨rfl, rfl⟩ := hm
  exact ⟨(fun e => by cases e), fun y d e => by
    cases e
    exact ⟨⟨V.int 1, ds, r, fun G => .int _, hb⟩, kb⟩⟩
theorem x_basis_of (c : obsX L NN tfn K = He.valD tfn) : ∃ N fd, OneD T NN.nm K 93 d_basis_of N fd ∧ BindD T NN.nm K 93 d_basis_of fd := by
  obtain ⟨fd, F⟩ := says_def c 3 (d := t_basis_of) rfl
  have B : Binds K fd [PySem.Str.ofString "rows"] [] := FunD.bindsN F fun _ _ _ _ _ _ us hl => match us, hl with | [u0], _ => rfl
  refine ⟨n_basis_of, fd, one_ok o_basis_of F, bind_n (show Binds K fd (NN.nm.ps 93) [] from B) fun c kw h => ?_⟩
  have hm := mem_lk (show L.inis.lookup c = some (93, kw) from h)
  simp [L] at hm
theorem x_RowList_len (c : obsX L NN tfn K = He.valD tfn) : ∃ N fd, OneD T NN.nm K 32 d_RowList_len N fd ∧ BindD T NN.nm K 32 d_RowList_len fd := by
  obtain ⟨fd, F⟩ := says_def c 4 (d := t_RowList_len) rfl
  have B : Binds K fd [PySem.Str.ofString "self"] [] := FunD.bindsN F fun _ _ _ _ _ _ us hl => match us, hl with | [u0], _ => rfl
  refine ⟨n_RowList_len, fd, one_ok o_RowList_len F, bind_n (show Binds K fd (NN.nm.ps 32) [] from B) fun c kw h => ?_⟩
  have hm := mem_lk (show L.inis.lookup c = some (32, kw) from h)
  simp [L] at hm
theorem x_Form_eq (c : obsX L NN tfn K = He.valD tfn) : ∃ N fd, OneD T NN.nm K 22 d_Form_eq N fd ∧ BindD T NN.nm K 22 d_Form_eq fd := by
  obtain ⟨fd, F⟩ := says_def c 5 (d := t_Form_eq) rfl
  have B : Binds K fd [PySem.Str.ofString "self", PySem.Str.ofString "other"] [] := FunD.bindsN F fun _ _ _ _ _ _ us hl => match us, hl with | [u0, u1], _ => rfl
  refine ⟨n_Form_eq, fd, one_ok o_Form_eq F, bind_n (show Binds K fd (NN.nm.ps 22) [] from B) fun c kw h => ?_⟩
  have hm := mem_lk (show L.inis.lookup c = some (22, kw) from h)
  simp [L] at hm
theorem x_RowList_eq (c : obsX L NN tfn K = He.valD tfn) : ∃ N fd, OneD T NN.nm K 35 d_RowList_eq N fd ∧ BindD T NN.nm K 35 d_RowList_eq fd := by
  obtain ⟨fd, F⟩ := says_def c 6 (d := t_RowList_eq) rfl
  have B : Binds K fd [PySem.Str.ofString "self", PySem.Str.ofString "other"] [] := FunD.bindsN F fun _ _ _ _ _ _ us hl => match us, hl with | [u0, u1], _ => rfl
  refine ⟨n_RowList_eq, fd, one_ok o_RowList_eq F, bind_n (show Binds K fd (NN.nm.ps 35) [] from B) fun c kw h => ?_⟩
  have hm := mem_lk (show L.inis.lookup c = some (35, kw) from h)
  simp [L] at hm
theorem x__law_is_basis_v1 (c : obsX L NN tfn K = He.valD tfn) : ∃ N fd, OneD T NN.nm K 98 d__law_is_basis_v1 N fd ∧ BindD T NN.nm K 98 d__law_is_basis_v1 fd := by
  obtain ⟨fd, F⟩ := says_def c 7 (d := t__law_is_basis_v1) rfl
  have B : Binds K fd [PySem.Str.ofString "lines", PySem.Str.ofString "told", PySem.Str.ofString "rank"] [] := FunD.bindsN F fun _ _ _ _ _ _ us hl => match us, hl with | [u0, u1, u2], _ => rfl
  refine ⟨n__law_is_basis_v1, fd, one_ok o__law_is_basis_v1 F, bind_n (show Binds K fd (NN.nm.ps 98) [] from B) fun c kw h => ?_⟩
  have hm := mem_lk (show L.inis.lookup c = some (98, kw) from h)
  simp [L] at hm
theorem x__law_gains_little (c : obsX L NN tfn K = He.valD tfn) : ∃ N fd, OneD T NN.nm K 99 d__law_gains_little N fd ∧ BindD T NN.nm K 99 d__law_gains_little fd := by
  obtain ⟨fd, F⟩ := says_def c 8 (d := t__law_gains_little) rfl
  have B : Binds K fd [PySem.Str.ofString "lines", PySem.Str.ofString "weights", PySem.Str.ofString "told"] [] := FunD.bindsN F fun _ _ _ _ _ _ us hl => match us, hl with | [u0, u1, u2], _ => rfl
  refine ⟨n__law_gains_little, fd, one_ok o__law_gains_little F, bind_n (show Binds K fd (NN.nm.ps 99) [] from B) fun c kw h => ?_⟩
  have hm := mem_lk (show L.inis.lookup c = some (99, kw) from h)
  simp [L] at hm
theorem x_Form_sub (c : obsX L NN tfn K = He.valD tfn) : ∃ N fd, OneD T NN.nm K 21 d_Form_sub N fd ∧ BindD T NN.nm K 21 d_Form_sub fd := by
  obtain ⟨fd, F⟩ := says_def c 9 (d := t_Form_sub) rfl
  have B : Binds K fd [PySem.Str.ofString "self", PySem.Str.ofString "other"] [] := FunD.bindsN F fun _ _ _ _ _ _ us hl => match us, hl with | [u0, u1], _ => rfl
  refine ⟨n_Form_sub, fd, one_ok o_Form_sub F, bind_n (show Binds K fd (NN.nm.ps 21) [] from B) fun c kw h => ?_⟩
  have hm := mem_lk (show L.inis.lookup c = some (21, kw) from h)
  simp [L] at hm
theorem x_RowList_picked (c : obsX L NN tfn K = He.valD tfn) : ∃ N fd, OneD T NN.nm K 37 d_RowList_picked N fd ∧ BindD T NN.nm K 37 d_RowList_picked fd := by
  obtain ⟨fd, F⟩ := says_def c 10 (d := t_RowList_picked) rfl
  have B : Binds K fd [PySem.Str.ofString "self", PySem.Str.ofString "indexes"] [] := FunD.bindsN F fun _ _ _ _ _ _ us hl => match us, hl with | [u0, u1], _ => rfl
  refine ⟨n_RowList_picked, fd, one_ok o_RowList_picked F, bind_n (show Binds K fd (NN.nm.ps 37) [] from B) fun c kw h => ?_⟩
  have hm := mem_lk (show L.inis.lookup c = some (37, kw) from h)
  simp [L] at hm
theorem x__law_rank (c : obsX L NN tfn K = He.valD tfn) : ∃ N fd, OneD T NN.nm K 52 d__law_rank N fd ∧ BindD T NN.nm K 52 d__law_rank fd := by
  obtain ⟨fd, F⟩ := says_def c 11 (d := t__law_rank) rfl
  have B : Binds K fd [PySem.Str.ofString "lines"] [] := FunD.bindsN F fun _ _ _ _ _ _ us hl => match us, hl with | [u0], _ => rfl
  refine ⟨n__law_rank, fd, one_ok o__law_rank F, bind_n (show Binds K fd (NN.nm.ps 52) [] from B) fun c kw h => ?_⟩
  have hm := mem_lk (show L.inis.lookup c = some (52, kw) from h)
  simp [L] at hm
theorem x__law_digits (c : obsX L NN tfn K = He.valD tfn) : ∃ N fd, OneD T NN.nm K 47 d__law_digits N fd ∧ BindD T NN.nm K 47 d__law_digits fd := by
  obtain ⟨fd, F⟩ := says_def c 12 (d := t__law_digits) rfl
  have B : Binds K fd [PySem.Str.ofString "cell", PySem.Str.ofString "sizes"] [] := FunD.bindsN F fun _ _ _ _ _ _ us hl => match us, hl with | [u0, u1], _ => rfl
  refine ⟨n__law_digits, fd, one_ok o__law_digits F, bind_n (show Binds K fd (NN.nm.ps 47) [] from B) fun c kw h => ?_⟩
  have hm := mem_lk (show L.inis.lookup c = some (47, kw) from h)
  simp [L] at hm
theorem x__law_planted (c : obsX L NN tfn K = He.valD tfn) : ∃ N fd, OneD T NN.nm K 57 d__law_planted N fd ∧ BindD T NN.nm K 57 d__law_planted fd := by
  obtain ⟨fd, F⟩ := says_def c 13 (d := t__law_planted) rfl
  have B : Binds K fd [PySem.Str.ofString "size", PySem.Str.ofString "rows", PySem.Str.ofString "plan", PySem.Str.ofString "wide"] [] := FunD.bindsN F fun _ _ _ _ _ _ us hl => match us, hl with | [u0, u1, u2, u3], _ => rfl
  refine ⟨n__law_planted, fd, one_ok o__law_planted F, bind_n (show Binds K fd (NN.nm.ps 57) [] from B) fun c kw h => ?_⟩
  have hm := mem_lk (show L.inis.lookup c = some (57, kw) from h)
  simp [L] at hm
theorem x__law_cell (c : obsX L NN tfn K = He.valD tfn) : ∃ N fd, OneD T NN.nm K 46 d__law_cell N fd ∧ BindD T NN.nm K 46 d__law_cell fd := by
  obtain ⟨fd, F⟩ := says_def c 14 (d := t__law_cell) rfl
  have B : Binds K fd [PySem.Str.ofString "script", PySem.Str.ofString "k"] [] := FunD.bindsN F fun _ _ _ _ _ _ us hl => match us, hl with | [u0, u1], _ => rfl
  refine ⟨n__law_cell, fd, one_ok o__law_cell F, bind_n (show Binds K fd (NN.nm.ps 46) [] from B) fun c kw h => ?_⟩
  have hm := mem_lk (show L.inis.lookup c = some (46, kw) from h)
  simp [L] at hm
theorem x__law_draw_pair_v1 (c : obsX L NN tfn K = He.valD tfn) : ∃ N fd, OneD T NN.nm K 95 d__law_draw_pair_v1 N fd ∧ BindD T NN.nm K 95 d__law_draw_pair_v1 fd := by
  obtain ⟨fd, F⟩ := says_def c 15 (d := t__law_draw_pair_v1) rfl
  have B : Binds K fd [PySem.Str.ofString "cell", PySem.Str.ofString "size", PySem.Str.ofString "kind", PySem.Str.ofString "heavy"] [] := FunD.bindsN F fun _ _ _ _ _ _ us hl => match us, hl with | [u0, u1, u2, u3], _ => rfl
  refine ⟨n__law_draw_pair_v1, fd, one_ok o__law_draw_pair_v1 F, bind_n (show Binds K fd (NN.nm.ps 95) [] from B) fun c kw h => ?_⟩
  have hm := mem_lk (show L.inis.lookup c = some (95, kw) from h)
  simp [L] at hm
theorem x_Form_add (c : obsX L NN tfn K = He.valD tfn) : ∃ N fd, OneD T NN.nm K 20 d_Form_add N fd ∧ BindD T NN.nm K 20 d_Form_add fd := by
  obtain ⟨fd, F⟩ := says_def c 16 (d := t_Form_add) rfl
  have B : Binds K fd [PySem.Str.ofString "self", PySem.Str.ofString "other"] [] := FunD.bindsN F fun _ _ _ _ _ _ us hl => match us, hl with | [u0, u1], _ => rfl
  refine ⟨n_Form_add, fd, one_ok o_Form_add F, bind_n (show Binds K fd (NN.nm.ps 20) [] from B) fun c kw h => ?_⟩
  have hm := mem_lk (show L.inis.lookup c = some (20, kw) from h)
  simp [L] at hm
theorem x_RowList_add (c : obsX L NN tfn K = He.valD tfn) : ∃ N fd, OneD T NN.nm K 34 d_RowList_add N fd ∧ BindD T NN.nm K 34 d_RowList_add fd := by
  obtain ⟨fd, F⟩ := says_def c 17 (d := t_RowList_add) rfl
  have B : Binds K fd [PySem.Str.ofString "self", PySem.Str.ofString "other"] [] := FunD.bindsN F fun _ _ _ _ _ _ us hl => match us, hl with | [u0, u1], _ => rfl
  refine ⟨n_RowList_add, fd, one_ok o_RowList_add F, bind_n (show Binds K fd (NN.nm.ps 34) [] from B) fun c kw h => ?_⟩
  have hm := mem_lk (show L.inis.lookup c = some (34, kw) from h)
  simp [L] at hm
theorem x_frozen (c : obsX L NN tfn K = He.valD tfn) : ∃ N fd, OneD T NN.nm K 8 d_frozen N fd ∧ BindD T NN.nm K 8 d_frozen fd := by
  obtain ⟨fd, F⟩ := says_def c 18 (d := t_frozen) rfl
  have B : Binds K fd [PySem.Str.ofString "value"] [] := FunD.bindsN F fun _ _ _ _ _ _ us hl => match us, hl with | [u0], _ => rfl
  refine ⟨n_frozen, fd, one_ok o_frozen F, bind_n (show Binds K fd (NN.nm.ps 8) [] from B) fun c kw h => ?_⟩
  have hm := mem_lk (show L.inis.lookup c = some (8, kw) from h)
  simp [L] at hm
theorem x_check_pairs (c : obsX L NN tfn K = He.valD tfn) : ∃ N fd, OneD T NN.nm K 28 d_check_pairs N fd ∧ BindD T NN.nm K 28 d_check_pairs fd := by
  obtain ⟨fd, F⟩ := says_def c 19 (d := t_check_pairs) rfl
  have B : Binds K fd [PySem.Str.ofString "size", PySem.Str.ofString "pairs"] [] := FunD.bindsN F fun _ _ _ _ _ _ us hl => match us, hl with | [u0, u1], _ => rfl
  refine ⟨n_check_pairs, fd, one_ok o_check_pairs F, bind_n (show Binds K fd (NN.nm.ps 28) [] from B) fun c kw h => ?_⟩
  have hm := mem_lk (show L.inis.lookup c = some (28, kw) from h)
  simp [L] at hm
theorem x_lowered (c : obsX L NN tfn K = He.valD tfn) : ∃ N fd, OneD T NN.nm K 9 d_lowered N fd ∧ BindD T NN.nm K 9 d_lowered fd := by
  obtain ⟨fd, F⟩ := says_def c 20 (d := t_lowered) rfl
  have B : Binds K fd [PySem.Str.ofString "numbers", PySem.Str.ofString "bottom"] [] := FunD.bindsN F fun _ _ _ _ _ _ us hl => match us, hl with | [u0, u1], _ => rfl
  refine ⟨n_lowered, fd, one_ok o_lowered F, bind_n (show Binds K fd (NN.nm.ps 9) [] from B) fun c kw h => ?_⟩
  have hm := mem_lk (show L.inis.lookup c = some (9, kw) from h)
  simp [L] at hm
theorem x_Form_init (c : obsX L NN tfn K = He.valD tfn) : ∃ N fd, OneD T NN.nm K 17 d_Form_init N fd ∧ BindD T NN.nm K 17 d_Form_init fd := by
  obtain ⟨fd, F⟩ := says_def c 21 (d := t_Form_init) rfl
  obtain ⟨ds, r, hb⟩ : ∃ ds, Vals [V.int 1] ds ∧ Binds K fd [PySem.Str.ofString "self", PySem.Str.ofString "entries", PySem.Str.ofString "bottom"] ds := FunD.binds0 (ps := [PySem.Str.ofString "self", PySem.Str.ofString "entries", PySem.Str.ofString "bottom"]) F 2 (List.cons_ne_nil _ _) rfl fun D doc pm an cdv ct us ks hl hk => match us, ks, hl, hk with | [u0, u1], [k0], _, _ => ⟨_, _, _, _, _, _, rfl, rfl, rfl⟩
  obtain ⟨mv, kb⟩ := FunD.kbinds0 (ps := [PySem.Str.ofString "self", PySem.Str.ofString "entries", PySem.Str.ofString "bottom"]) F 2 [PySem.Str.ofString "bottom"] [] (fun us _ ws => us ++ ws) (List.cons_ne_nil _ _) (by simp) (fun r1 _ r2 => r1.append r2) fun D doc pm an cdv ct us mv ws h1 h2 h3 => match us, mv, ws, h1, h2, h3 with | [u0, u1], [], [w0], _, _, _ => rfl
  refine ⟨n_Form_init, fd, one_ok o_Form_init F, ⟨(fun h => by cases h), fun c kw h => ?_⟩⟩
  have hm := mem_lk (show L.inis.lookup c = some (17, kw) from h)
  simp [L] at hm
  obtain ⟨rfl, rfl⟩ := hm
  exact ⟨(fun e => by cases e), fun y d e => by
    cases e
    exact ⟨⟨V.int 1, ds, r, fun G => .int _, hb⟩, kb⟩⟩
theorem x_weighted_matrix (c : obsX L NN tfn K = He.valD tfn) : ∃ N fd, OneD T NN.nm K 30 d_weighted_matrix N fd ∧ BindD T NN.nm K 30 d_weighted_matrix fd := by
  obtain ⟨fd, F⟩ := says_def c 22 (d := t_weighted_matrix) rfl
  have B : Binds K fd [PySem.Str.ofString "size", PySem.Str.ofString "pairs"] [] := FunD.bindsN F fun _ _ _ _ _ _ us hl => match us, hl with | [u0, u1], _ => rfl
  refine ⟨n_weighted_matrix, fd, one_ok o_weighted_matrix F, bind_n (show Binds K fd (NN.nm.ps 30) [] from B) fun c kw h => ?_⟩
  have hm := mem_lk (show L.inis.lookup c = some (30, kw) from h)
  simp [L] at hm
theorem x_expressed (c : obsX L NN tfn K = He.valD tfn) : ∃ N fd, OneD T NN.nm K 40 d_expressed N fd ∧ BindD T NN.nm K 40 d_expressed fd := by
  obtain ⟨fd, F⟩ := says_def c 23 (d := t_expressed) rfl
  have B : Binds K fd [PySem.Str.ofString "columns"] [] := FunD.bindsN F fun _ _ _ _ _ _ us hl => match us, hl with | [u0], _ => rfl
  refine ⟨n_expressed, fd, one_ok o_expressed F, bind_n (show Binds K fd (NN.nm.ps 40) [] from B) fun c kw h => ?_⟩
  have hm := mem_lk (show L.inis.lookup c = some (40, kw) from h)
  simp [L] at hm
theorem x_gainful (c : obsX L NN tfn K = He.valD tfn) : ∃ N fd, OneD T NN.nm K 92 d_gainful N fd ∧ BindD T NN.nm K 92 d_gainful fd := by
  obtain ⟨fd, F⟩ := says_def c 24 (d := t_gainful) rfl
  have B : Binds K fd [PySem.Str.ofString "weights", PySem.Str.ofString "basis", PySem.Str.ofString "table", PySem.Str.ofString "divisor"] [] := FunD.bindsN F fun _ _ _ _ _ _ us hl => match us, hl with | [u0, u1, u2, u3], _ => rfl
  refine ⟨n_gainful, fd, one_ok o_gainful F, bind_n (show Binds K fd (NN.nm.ps 92) [] from B) fun c kw h => ?_⟩
  have hm := mem_lk (show L.inis.lookup c = some (92, kw) from h)
  simp [L] at hm
theorem x_pivoted (c : obsX L NN tfn K = He.valD tfn) : ∃ N fd, OneD T NN.nm K 39 d_pivoted N fd ∧ BindD T NN.nm K 39 d_pivoted fd := by
  obtain ⟨fd, F⟩ := says_def c 25 (d := t_pivoted) rfl
  have B : Binds K fd [PySem.Str.ofString "table", PySem.Str.ofString "line", PySem.Str.ofString "column", PySem.Str.ofString "divisor"] [] := FunD.bindsN F fun _ _ _ _ _ _ us hl => match us, hl with | [u0, u1, u2, u3], _ => rfl
  refine ⟨n_pivoted, fd, one_ok o_pivoted F, bind_n (show Binds K fd (NN.nm.ps 39) [] from B) fun c kw h => ?_⟩
  have hm := mem_lk (show L.inis.lookup c = some (39, kw) from h)
  simp [L] at hm
theorem x__law_is_point (c : obsX L NN tfn K = He.valD tfn) : ∃ N fd, OneD T NN.nm K 49 d__law_is_point N fd ∧ BindD T NN.nm K 49 d__law_is_point fd := by
  obtain ⟨fd, F⟩ := says_def c 26 (d := t__law_is_point) rfl
  have B : Binds K fd [PySem.Str.ofString "value", PySem.Str.ofString "size"] [] := FunD.bindsN F fun _ _ _ _ _ _ us hl => match us, hl with | [u0, u1], _ => rfl
  refine ⟨n__law_is_point, fd, one_ok o__law_is_point F, bind_n (show Binds K fd (NN.nm.ps 49) [] from B) fun c kw h => ?_⟩
  have hm := mem_lk (show L.inis.lookup c = some (49, kw) from h)
  simp [L] at hm
theorem x__law_solved (c : obsX L NN tfn K = He.valD tfn) : ∃ N fd, OneD T NN.nm K 97 d__law_solved N fd ∧ BindD T NN.nm K 97 d__law_solved fd := by
  obtain ⟨fd, F⟩ := says_def c 27 (d := t__law_solved) rfl
  have B : Binds K fd [PySem.Str.ofString "rows", PySem.Str.ofString "others"] [] := FunD.bindsN F fun _ _ _ _ _ _ us hl => match us, hl with | [u0, u1], _ => rfl
  refine ⟨n__law_solved, fd, one_ok o__law_solved F, bind_n (show Binds K fd (NN.nm.ps 97) [] from B) fun c kw h => ?_⟩
  have hm := mem_lk (show L.inis.lookup c = some (97, kw) from h)
  simp [L] at hm
theorem x_check_sizes (c : obsX L NN tfn K = He.valD tfn) : ∃ N fd, OneD T NN.nm K 14 d_check_sizes N fd ∧ BindD T NN.nm K 14 d_check_sizes fd := by
  obtain ⟨fd, F⟩ := says_def c 28 (d := t_check_sizes) rfl
  have B : Binds K fd [PySem.Str.ofString "one", PySem.Str.ofString "two"] [] := FunD.bindsN F fun _ _ _ _ _ _ us hl => match us, hl with | [u0, u1], _ => rfl
  refine ⟨n_check_sizes, fd, one_ok o_check_sizes F, bind_n (show Binds K fd (NN.nm.ps 14) [] from B) fun c kw h => ?_⟩
  have hm := mem_lk (show L.inis.lookup c = some (14, kw) from h)
  simp [L] at hm
theorem x_combined_entries (c : obsX L NN tfn K = He.valD tfn) : ∃ N fd, OneD T NN.nm K 16 d_combined_entries N fd ∧ BindD T NN.nm K 16 d_combined_entries fd := by
  obtain ⟨fd, F⟩ := says_def c 29 (d := t_combined_entries) rfl
  have B : Binds K fd [PySem.Str.ofString "one", PySem.Str.ofString "first", PySem.Str.ofString "two", PySem.Str.ofString "second"] [] := FunD.bindsN F fun _ _ _ _ _ _ us hl => match us, hl with | [u0, u1, u2, u3], _ => rfl
  refine ⟨n_combined_entries, fd, one_ok o_combined_entries F, bind_n (show Binds K fd (NN.nm.ps 16) [] from B) fun c kw h => ?_⟩
  have hm := mem_lk (show L.inis.lookup c = some (16, kw) from h)
  simp [L] at hm
theorem x__law_reduced (c : obsX L NN tfn K = He.valD tfn) : ∃ N fd, OneD T NN.nm K 51 d__law_reduced N fd ∧ BindD T NN.nm K 51 d__law_reduced fd := by
  obtain ⟨fd, F⟩ := says_def c 30 (d := t__law_reduced) rfl
  have B : Binds K fd [PySem.Str.ofString "kept", PySem.Str.ofString "line"] [] := FunD.bindsN F fun _ _ _ _ _ _ us hl => match us, hl with | [u0, u1], _ => rfl
  refine ⟨n__law_reduced, fd, one_ok o__law_reduced F, bind_n (show Binds K fd (NN.nm.ps 51) [] from B) fun c kw h => ?_⟩
  have hm := mem_lk (show L.inis.lookup c = some (51, kw) from h)
  simp [L] at hm
theorem x__law_draw_row_v2 (c : obsX L NN tfn K = He.valD tfn) : ∃ N fd, OneD T NN.nm K 94 d__law_draw_row_v2 N fd ∧ BindD T NN.nm K 94 d__law_draw_row_v2 fd := by
  obtain ⟨fd, F⟩ := says_def c 31 (d := t__law_draw_row_v2) rfl
  have B : Binds K fd [PySem.Str.ofString "size", PySem.Str.ofString "kind", PySem.Str.ofString "row"] [] := FunD.bindsN F fun _ _ _ _ _ _ us hl => match us, hl with | [u0, u1, u2], _ => rfl
  refine ⟨n__law_draw_row_v2, fd, one_ok o__law_draw_row_v2 F, bind_n (show Binds K fd (NN.nm.ps 94) [] from B) fun c kw h => ?_⟩
  have hm := mem_lk (show L.inis.lookup c = some (94, kw) from h)
  simp [L] at hm
theorem x_frozen_part (c : obsX L NN tfn K = He.valD tfn) : ∃ N fd, OneD T NN.nm K 7 d_frozen_part N fd ∧ BindD T NN.nm K 7 d_frozen_part fd := by
  obtain ⟨fd, F⟩ := says_def c 32 (d := t_frozen_part) rfl
  have B : Binds K fd [PySem.Str.ofString "value"] [] := FunD.bindsN F fun _ _ _ _ _ _ us hl => match us, hl with | [u0], _ => rfl
  refine ⟨n_frozen_part, fd, one_ok o_frozen_part F, bind_n (show Binds K fd (NN.nm.ps 7) [] from B) fun c kw h => ?_⟩
  have hm := mem_lk (show L.inis.lookup c = some (7, kw) from h)
  simp [L] at hm
theorem x_check_square (c : obsX L NN tfn K = He.valD tfn) : ∃ N fd, OneD T NN.nm K 12 d_check_square N fd ∧ BindD T NN.nm K 12 d_check_square fd := by
  obtain ⟨fd, F⟩ := says_def c 33 (d := t_check_square) rfl
  have B : Binds K fd [PySem.Str.ofString "lines"] [] := FunD.bindsN F fun _ _ _ _ _ _ us hl => match us, hl with | [u0], _ => rfl
  refine ⟨n_check_square, fd, one_ok o_check_square F, bind_n (show Binds K fd (NN.nm.ps 12) [] from B) fun c kw h => ?_⟩
  have hm := mem_lk (show L.inis.lookup c = some (12, kw) from h)
  simp [L] at hm
theorem x_check_symmetric (c : obsX L NN tfn K = He.valD tfn) : ∃ N fd, OneD T NN.nm K 13 d_check_symmetric N fd ∧ BindD T NN.nm K 13 d_check_symmetric fd := by
  obtain ⟨fd, F⟩ := says_def c 34 (d := t_check_symmetric) rfl
  have B : Binds K fd [PySem.Str.ofString "lines"] [] := FunD.bindsN F fun _ _ _ _ _ _ us hl => match us, hl with | [u0], _ => rfl
  refine ⟨n_check_symmetric, fd, one_ok o_check_symmetric F, bind_n (show Binds K fd (NN.nm.ps 13) [] from B) fun c kw h => ?_⟩
  have hm := mem_lk (show L.inis.lookup c = some (13, kw) from h)
  simp [L] at hm
theorem x_weighted_sum (c : obsX L NN tfn K = He.valD tfn) : ∃ N fd, OneD T NN.nm K 29 d_weighted_sum N fd ∧ BindD T NN.nm K 29 d_weighted_sum fd := by
  obtain ⟨fd, F⟩ := says_def c 35 (d := t_weighted_sum) rfl
  have B : Binds K fd [PySem.Str.ofString "pairs", PySem.Str.ofString "one", PySem.Str.ofString "two"] [] := FunD.bindsN F fun _ _ _ _ _ _ us hl => match us, hl with | [u0, u1, u2], _ => rfl
  refine ⟨n_weighted_sum, fd, one_ok o_weighted_sum F, bind_n (show Binds K fd (NN.nm.ps 29) [] from B) fun c kw h => ?_⟩
  have hm := mem_lk (show L.inis.lookup c = some (29, kw) from h)
  simp [L] at hm
theorem x_first_filled (c : obsX L NN tfn K = He.valD tfn) : ∃ N fd, OneD T NN.nm K 38 d_first_filled N fd ∧ BindD T NN.nm K 38 d_first_filled fd := by
  obtain ⟨fd, F⟩ := says_def c 36 (d := t_first_filled) rfl
  have B : Binds K fd [PySem.Str.ofString "table", PySem.Str.ofString "start", PySem.Str.ofString "column"] [] := FunD.bindsN F fun _ _ _ _ _ _ us hl => match us, hl with | [u0, u1, u2], _ => rfl
  refine ⟨n_first_filled, fd, one_ok o_first_filled F, bind_n (show Binds K fd (NN.nm.ps 38) [] from B) fun c kw h => ?_⟩
  have hm := mem_lk (show L.inis.lookup c = some (38, kw) from h)
  simp [L] at hm
theorem x__law_whole (c : obsX L NN tfn K = He.valD tfn) : ∃ N fd, OneD T NN.nm K 45 d__law_whole N fd ∧ BindD T NN.nm K 45 d__law_whole fd := by
  obtain ⟨fd, F⟩ := says_def c 37 (d := t__law_whole) rfl
  have B : Binds K fd [PySem.Str.ofString "value"] [] := FunD.bindsN F fun _ _ _ _ _ _ us hl => match us, hl with | [u0], _ => rfl
  refine ⟨n__law_whole, fd, one_ok o__law_whole F, bind_n (show Binds K fd (NN.nm.ps 45) [] from B) fun c kw h => ?_⟩
  have hm := mem_lk (show L.inis.lookup c = some (45, kw) from h)
  simp [L] at hm
theorem x__law_primitive (c : obsX L NN tfn K = He.valD tfn) : ∃ N fd, OneD T NN.nm K 50 d__law_primitive N fd ∧ BindD T NN.nm K 50 d__law_primitive fd := by
  obtain ⟨fd, F⟩ := says_def c 38 (d := t__law_primitive) rfl
  have B : Binds K fd [PySem.Str.ofString "line"] [] := FunD.bindsN F fun _ _ _ _ _ _ us hl => match us, hl with | [u0], _ => rfl
  refine ⟨n__law_primitive, fd, one_ok o__law_primitive F, bind_n (show Binds K fd (NN.nm.ps 50) [] from B) fun c kw h => ?_⟩
  have hm := mem_lk (show L.inis.lookup c = some (50, kw) from h)
  simp [L] at hm
theorem x__law_gcd (c : obsX L NN tfn K = He.valD tfn) : ∃ N fd, OneD T NN.nm K 48 d__law_gcd N fd ∧ BindD T NN.nm K 48 d__law_gcd fd := by
  obtain ⟨fd, F⟩ := says_def c 39 (d := t__law_gcd) rfl
  have B : Binds K fd [PySem.Str.ofString "one", PySem.Str.ofString "two"] [] := FunD.bindsN F fun _ _ _ _ _ _ us hl => match us, hl with | [u0, u1], _ => rfl
  refine ⟨n__law_gcd, fd, one_ok o__law_gcd F, bind_n (show Binds K fd (NN.nm.ps 48) [] from B) fun c kw h => ?_⟩
  have hm := mem_lk (show L.inis.lookup c = some (48, kw) from h)
  simp [L] at hm
theorem x__law_wide (c : obsX L NN tfn K = He.valD tfn) : ∃ N fd, OneD T NN.nm K 54 d__law_wide N fd ∧ BindD T NN.nm K 54 d__law_wide fd := by
  obtain ⟨fd, F⟩ := says_def c 40 (d := t__law_wide) rfl
  have B : Binds K fd [PySem.Str.ofString "row", PySem.Str.ofString "begin", PySem.Str.ofString "size"] [] := FunD.bindsN F fun _ _ _ _ _ _ us hl => match us, hl with | [u0, u1, u2], _ => rfl
  refine ⟨n__law_wide, fd, one_ok o__law_wide F, bind_n (show Binds K fd (NN.nm.ps 54) [] from B) fun c kw h => ?_⟩
  have hm := mem_lk (show L.inis.lookup c = some (54, kw) from h)
  simp [L] at hm
theorem x_frozen_numbers (c : obsX L NN tfn K = He.valD tfn) : ∃ N fd, OneD T NN.nm K 6 d_frozen_numbers N fd ∧ BindD T NN.nm K 6 d_frozen_numbers fd := by
  obtain ⟨fd, F⟩ := says_def c 41 (d := t_frozen_numbers) rfl
  have B : Binds K fd [PySem.Str.ofString "value"] [] := FunD.bindsN F fun _ _ _ _ _ _ us hl => match us, hl with | [u0], _ => rfl
  refine ⟨n_frozen_numbers, fd, one_ok o_frozen_numbers F, bind_n (show Binds K fd (NN.nm.ps 6) [] from B) fun c kw h => ?_⟩
  have hm := mem_lk (show L.inis.lookup c = some (6, kw) from h)
  simp [L] at hm
theorem text (c : obsX L NN tfn K = He.valD tfn) : Text T NN.nm K := ⟨fun f d h => by
  have hm : (f, d) ∈ L.fns := mem_lk h
  simp only [L, List.mem_cons, List.mem_nil_iff, or_false, Prod.mk.injEq] at hm
  rcases hm with ⟨rfl, rfl⟩ | ⟨rfl, rfl⟩ | ⟨rfl, rfl⟩ | ⟨rfl, rfl⟩ | ⟨rfl, rfl⟩ | ⟨rfl, rfl⟩ | ⟨rfl, rfl⟩ | ⟨rfl, rfl⟩ | ⟨rfl, rfl⟩ | ⟨rfl, rfl⟩ | ⟨rfl, rfl⟩ | ⟨rfl, rfl⟩ | ⟨rfl, rfl⟩ | ⟨rfl, rfl⟩ | ⟨rfl, rfl⟩ | ⟨rfl, rfl⟩ | ⟨rfl, rfl⟩ | ⟨rfl, rfl⟩ | ⟨rfl, rfl⟩ | ⟨rfl, rfl⟩ | ⟨rfl, rfl⟩ | ⟨rfl, rfl⟩ | ⟨rfl, rfl⟩ | ⟨rfl, rfl⟩ | ⟨rfl, rfl⟩ | ⟨rfl, rfl⟩ | ⟨rfl, rfl⟩ | ⟨rfl, rfl⟩ | ⟨rfl, rfl⟩ | ⟨rfl, rfl⟩ | ⟨rfl, rfl⟩ | ⟨rfl, rfl⟩ | ⟨rfl, rfl⟩ | ⟨rfl, rfl⟩ | ⟨rfl, rfl⟩ | ⟨rfl, rfl⟩ | ⟨rfl, rfl⟩ | ⟨rfl, rfl⟩ | ⟨rfl, rfl⟩ | ⟨rfl, rfl⟩ | ⟨rfl, rfl⟩ | ⟨rfl, rfl⟩
  · exact x_law_v2 c
  · exact x__law_draw_list_v2 c
  · exact x_RowList_init c
  · exact x_basis_of c
  · exact x_RowList_len c
  · exact x_Form_eq c
  · exact x_RowList_eq c
  · exact x__law_is_basis_v1 c
  · exact x__law_gains_little c
  · exact x_Form_sub c
  · exact x_RowList_picked c
  · exact x__law_rank c
  · exact x__law_digits c
  · exact x__law_planted c
  · exact x__law_cell c
  · exact x__law_draw_pair_v1 c
  · exact x_Form_add c
  · exact x_RowList_add c
  · exact x_frozen c
  · exact x_check_pairs c
  · exact x_lowered c
  · exact x_Form_init c
  · exact x_weighted_matrix c
  · exact x_expressed c
  · exact x_gainful c
  · exact x_pivoted c
  · exact x__law_is_point c
  · exact x__law_solved c
  · exact x_check_sizes c
  · exact x_combined_entries c
  · exact x__law_reduced c
  · exact x__law_draw_row_v2 c
  · exact x_frozen_part c
  · exact x_check_square c
  · exact x_check_symmetric c
  · exact x_weighted_sum c
  · exact x_first_filled c
  · exact x__law_whole c
  · exact x__law_primitive c
  · exact x__law_gcd c
  · exact x__law_wide c
  · exact x_frozen_numbers c
⟩
end
end Fc

set_option Elab.async false
set_option linter.all false
namespace Fc
/-! ### sums -/
def sumN (n : Nat) (f : Nat → Int) : Int := match n with
  | 0 => 0
  | n + 1 => sumN n f + f n
theorem sumN_congr {n : Nat} {f g : Nat → Int} (h : ∀ i, i < n → f i = g i) : sumN n f = sumN n g := by
  induction n with
  | zero => rfl
  | succ n ih =>
    show sumN n f + f n = sumN n g + g n
    rw [ih fun i hi => h i (by omega), h n (by omega)]
theorem sumN_zero {n : Nat} {f : Nat → Int} (h : ∀ i, i < n → f i = 0) : sumN n f = 0 := by
  induction n with
  | zero => rfl
  | succ n ih =>
    show sumN n f + f n = 0
    rw [ih fun i hi => h i (by omega), h n (by omega)]; rfl
theorem sumN_add (n : Nat) (f g : Nat → Int) : sumN n (fun i => f i + g i) = sumN n f + sumN n g := by
  induction n with
  | zero => rfl
  | succ n ih =>
    show sumN n (fun i => f i + g i) + (f n + g n) = (sumN n f + f n) + (sumN n g + g n)
    rw [ih]; omega
theorem sumN_mul (n : Nat) (c : Int) (f : Nat → Int) : sumN n (fun i => c * f i) = c * sumN n f := by
  induction n with
  | zero => simp [sumN]
  | succ n ih =>
    show sumN n (fun i => c * f i) + c * f n = c * (sumN n f + f n)
    rw [ih, Int.mul_add]
theorem sumN_two {n : Nat} {f : Nat → Int} {p q : Nat} (hp : p < n) (hq : q < n) (hpq : p ≠ q) (h : ∀ i, i < n → i ≠ p → i ≠ q → f i = 0) : sumN n f = f p + f q := by
  induction n with
  | zero => omega
  | succ n ih =>
    show sumN n f + f n = _
    by_cases h1 : p = n
    · subst h1
      have hq' : q < p := by omega
      have : sumN p f = f q := by
        clear ih
        have one : ∀ m, q < m → m ≤ p → sumN m f = f q := by
          intro m
          induction m with
          | zero => intro h0; omega
          | succ m ih =>
            intro h0 h1
            show sumN m f + f m = f q
            by_cases hm : q = m
            · subst hm
              rw [sumN_zero fun i hi => h i (by omega) (by omega) (by omega)]; omega
            · rw [ih (by omega) (by omega), h m (by omega) (by omega) (by omega)]; omega
        exact one p hq' (Nat.le_refl _)
      rw [this]; omega
    · by_cases h2 : q = n
      · subst h2
        have : sumN q f = f p := by
          clear ih
          have one : ∀ m, p < m → m ≤ q → sumN m f = f p := by
            intro m
            induction m with
            | zero => intro h0; omega
            | succ m ih =>
              intro h0 h1
              show sumN m f + f m = f p
              by_cases hm : p = m
              · subst hm
                rw [sumN_zero fun i hi => h i (by omega) (by omega) (by omega)]; omega
              · rw [ih (by omega) (by omega), h m (by omega) (by omega) (by omega)]; omega
          exact one q (by omega) (Nat.le_refl _)
        rw [this]
      · rw [ih (by omega) (by omega) fun i hi a b => h i (by omega) a b, h n (by omega) (Ne.symm h1) (Ne.symm h2)]
        omega
/-! ### determinants: along the last column -/
def del (i r : Nat) : Nat := if r < i then r else r + 1
def sg (k : Nat) : Int := if k % 2 = 0 then 1 else -1
theorem sg_succ (k : Nat) : sg (k + 1) = - sg k := by
  unfold sg
  by_cases h : k % 2 = 0
  · rw [if_pos h, if_neg (by omega)]
  · rw [if_neg h, if_pos (by omega)]; rfl
def det : Nat → (Nat → Nat → Int) → Int
  | 0, _ => 1
  | n + 1, A => sumN (n + 1) fun i => sg (i + n) * A i n * det n fun r c => A (del i r) c
theorem del_lt {n i r : Nat} (hi : i < n + 1) (hr : r < n) : del i r < n + 1 := by unfold del; split <;> omega
theorem det_congr : ∀ {n : Nat} {A B : Nat → Nat → Int}, (∀ i j, i < n → j < n → A i j = B i j) → det n A = det n B
  | 0, _, _, _ => rfl
  | n + 1, A, B, h => by
    refine sumN_congr fun i hi => ?_
    rw [h i n hi (by omega), det_congr (A := fun r c => A (del i r) c) (B := fun r c => B (del i r) c) fun r c hr hc => h _ _ (del_lt hi hr) (by omega)]
/-- one row replaced -/
def setR (A : Nat → Nat → Int) (p : Nat) (v : Nat → Int) : Nat → Nat → Int := fun i j => if i = p then v j else A i j
theorem del_ne {i r : Nat} : del i r ≠ i := by unfold del; split <;> omega
/-- the row p of A, in the minor without row i -/
theorem del_eq {i p r : Nat} (hip : i ≠ p) : del i r = p ↔ r = (if p < i then p else p - 1) := by
  unfold del
  constructor
  · intro h
    split at h <;> split <;> omega
  · intro h
    split at h <;> split <;> omega
theorem minor_set (A : Nat → Nat → Int) (v : Nat → Int) {i p : Nat} (hip : i ≠ p) : (fun r c => setR A p v (del i r) c) = setR (fun r c => A (del i r) c) (if p < i then p else p - 1) v := by
  funext r c
  unfold setR
  by_cases h : del i r = p
  · rw [if_pos h, if_pos ((del_eq hip).mp h)]
  · rw [if_neg h, if_neg fun z => h ((del_eq hip).mpr z)]
theorem minor_self (A : Nat → Nat → Int) (v : Nat → Int) (p : Nat) : (fun r c => setR A p v (del p r) c) = fun r c => A (del p r) c := by
  funext r c
  unfold setR
  rw [if_neg del_ne]
/-- linear in each row -/
theorem det_lin : ∀ {n : Nat} {A : Nat → Nat → Int} {p : Nat} (u v : Nat → Int) (a b : Int), p < n → det n (setR A p fun j => a * u j + b * v j) = a * det n (setR A p u) + b * det n (setR A p v)
  | n + 1, A, p, u, v, a, b, hp => by
    show sumN (n + 1) _ = a * sumN (n + 1) _ + b * sumN (n + 1) _
    rw [← sumN_mul, ← sumN_mul, ← sumN_add]
    refine sumN_congr fun i hi => ?_
    by_cases h : i = p
    · subst h
      rw [minor_self, minor_self, minor_self]
      unfold setR
      rw [if_pos rfl, if_pos rfl, if_pos rfl]
      simp only [Int.mul_add, Int.add_mul]
      have : ∀ s d x w : Int, s * (x * w) * d = x * (s * w * d) := fun s d x w => by
        rw [Int.mul_left_comm s x w, Int.mul_assoc]
      rw [this, this]
    · rw [minor_set A _ h, minor_set A _ h, minor_set A _ h, det_lin u v a b (by split <;> omega)]
      have e1 : ∀ w : Nat → Int, setR A p w i n = A i n := fun w => by unfold setR; rw [if_neg h]
      rw [e1, e1, e1]
      simp only [Int.mul_add]
      have : ∀ s x d : Int, s * (x * d) = x * (s * d) := fun s x d => Int.mul_left_comm s x d
      rw [this _ a, this _ b]
theorem setR_self (A : Nat → Nat → Int) (p : Nat) : setR A p (A p) = A := by
  funext i j
  unfold setR
  by_cases h : i = p
  · rw [if_pos h, h]
  · rw [if_neg h]
theorem det_zero_row {n : Nat} {A : Nat → Nat → Int} {p : Nat} (hp : p < n) (h : ∀ j, j < n → A p j = 0) : det n A = 0 := by
  have e : det n A = det n (setR A p fun j => 0 * A p j + 0 * A p j) := det_congr fun i j hi hj => by
    unfold setR
    by_cases z : i = p
    · rw [if_pos z, z, h j hj]
      show (0 : Int) = 0 * A p j + 0 * A p j
      rw [Int.zero_mul]; rfl
    · rw [if_neg z]
  rw [e, det_lin _ _ _ _ hp]
  omega
/-- two neighbouring equal rows -/
theorem det_adj : ∀ {n : Nat} {A : Nat → Nat → Int} {p : Nat}, p + 1 < n → (∀ j, j < n → A p j = A (p + 1) j) → det n A = 0
  | n + 1, A, p, hp, h => by
    show sumN (n + 1) _ = 0
    rw [sumN_two (p := p) (q := p + 1) (by omega) hp (by omega) fun i hi h1 h2 => ?_]
    · have e : det n (fun r c => A (del p r) c) = det n (fun r c => A (del (p + 1) r) c) := det_congr fun r c hr hc => by
        unfold del
        by_cases a : r < p
        · rw [if_pos a, if_pos (by omega)]
        · by_cases b : r = p
          · subst b
            rw [if_neg (by omega), if_pos (by omega)]
            exact (h c (by omega)).symm
          · rw [if_neg (by omega), if_neg (by omega)]
      rw [e, h n (by omega), show p + 1 + n = p + n + 1 by omega, sg_succ]
      rw [Int.neg_mul, Int.neg_mul]
      omega
    · have key : det n (fun r c => A (del i r) c) = 0 := by
        refine det_adj (p := if p < i then p else p - 1) (by split <;> omega) fun j hj => ?_
        have e1 : del i (if p < i then p else p - 1) = p := (del_eq h1).mpr rfl
        have e2 : del i ((if p < i then p else p - 1) + 1) = p + 1 := by
          refine (del_eq h2).mpr ?_
          split <;> split <;> omega
        show A (del i _) j = A (del i _) j
        rw [e1, e2]
        exact h j (by omega)
      rw [key, Int.mul_zero]
/-- two rows changed places -/
def swR (A : Nat → Nat → Int) (p q : Nat) : Nat → Nat → Int := fun i j => if i = p then A q j else if i = q then A p j else A i j
theorem det_swap1 {n : Nat} {A : Nat → Nat → Int} {p : Nat} (hp : p + 1 < n) : det n (swR A p (p + 1)) = - det n A := by
  let f : (Nat → Int) → (Nat → Int) → Int := fun u v => det n (setR (setR A p u) (p + 1) v)
  have lin1 : ∀ u u' v, f (fun j => u j + u' j) v = f u v + f u' v := fun u u' v => by
    have e : ∀ w, f w v = det n (setR (setR A (p + 1) v) p w) := fun w => det_congr fun i j _ _ => by
      unfold setR
      by_cases a : i = p + 1
      · rw [if_pos a, if_neg (by omega), if_pos a]
      · rw [if_neg a]
        by_cases b : i = p
        · rw [if_pos b, if_pos b]
        · rw [if_neg b, if_neg b, if_neg a]
    rw [e, e, e]
    have := det_lin (A := setR A (p + 1) v) (p := p) u u' 1 1 (by omega : p < n)
    simpa using this
  have lin2 : ∀ u v v', f u (fun j => v j + v' j) = f u v + f u v' := fun u v v' => by
    have := det_lin (A := setR A p u) (p := p + 1) v v' 1 1 hp
    simpa using this
  have alt : ∀ u, f u u = 0 := fun u => det_adj hp fun j _ => by
    unfold setR
    rw [if_neg (by omega), if_pos rfl, if_pos rfl]
  have h := alt fun j => A p j + A (p + 1) j
  rw [lin1, lin2, lin2, alt, alt] at h
  have e1 : f (A p) (A (p + 1)) = det n A := det_congr fun i j _ _ => by
    unfold setR
    by_cases a : i = p + 1
    · rw [if_pos a, a]
    · rw [if_neg a]
      by_cases b : i = p
      · rw [if_pos b, b]
      · rw [if_neg b]
  have e2 : f (A (p + 1)) (A p) = det n (swR A p (p + 1)) := det_congr fun i j _ _ => by
    unfold setR swR
    by_cases a : i = p + 1
    · rw [if_pos a, if_neg (by omega), if_pos a]
    · rw [if_neg a]
      by_cases b : i = p
      · rw [if_pos b, if_pos b]
      · rw [if_neg b, if_neg b, if_neg a]
  rw [← e1, ← e2]
  have h' : f (A p) (A (p + 1)) + f (A (p + 1)) (A p) = 0 := by simpa using h
  omega
/-- two equal rows -/
theorem det_alt {n : Nat} : ∀ {k : Nat} {A : Nat → Nat → Int} {p q : Nat}, q = p + k + 1 → q < n → (∀ j, j < n → A p j = A q j) → det n A = 0
  | 0, A, p, q, e, hq, h => by subst e; exact det_adj hq h
  | k + 1, A, p, q, e, hq, h => by
    have hs := det_swap1 (A := A) (p := p + k + 1) (n := n) (by omega)
    have : det n (swR A (p + k + 1) (p + k + 1 + 1)) = 0 := by
      refine det_alt (k := k) (p := p) (q := p + k + 1) rfl (by omega) fun j hj => ?_
      unfold swR
      rw [if_neg (by omega), if_neg (by omega), if_pos rfl]
      have : p + k + 1 + 1 = q := by omega
      rw [this]; exact h j hj
    omega
end Fc

set_option Elab.async false
set_option linter.all false
namespace Fc
theorem sumN_neg (n : Nat) (f : Nat → Int) : sumN n (fun i => - f i) = - sumN n f := by
  have := sumN_mul n (-1) f
  rw [show (fun i => -f i) = fun i => -1 * f i from funext fun i => by omega, this]
  omega
theorem sumN_swap (n m : Nat) (f : Nat → Nat → Int) : sumN n (fun i => sumN m (f i)) = sumN m (fun j => sumN n fun i => f i j) := by
  induction n with
  | zero => exact (sumN_zero fun _ _ => rfl).symm
  | succ n ih =>
    show sumN n (fun i => sumN m (f i)) + sumN m (f n) = sumN m (fun j => sumN n (fun i => f i j) + f n j)
    rw [ih, sumN_add]
theorem sumN_del {n : Nat} (h : Nat → Int) : ∀ {i : Nat}, i < n + 1 → sumN n (fun k => h (del i k)) + h i = sumN (n + 1) h := by
  induction n with
  | zero =>
    intro i hi
    have : i = 0 := by omega
    subst this
    rfl
  | succ n ih =>
    intro i hi
    show sumN n (fun k => h (del i k)) + h (del i n) + h i = sumN (n + 1) h + h (n + 1)
    by_cases e : i = n + 1
    · subst e
      have e1 : sumN n (fun k => h (del (n + 1) k)) = sumN n h := sumN_congr fun k hk => by unfold del; rw [if_pos (by omega)]
      have e2 : del (n + 1) n = n := by unfold del; rw [if_pos (by omega)]
      rw [e1, e2]
      rfl
    · have e2 : del i n = n + 1 := by unfold del; rw [if_neg (by omega)]
      rw [e2, ← ih (i := i) (by omega)]
      omega
theorem sum_anti {n : Nat} (f : Nat → Nat → Int) (h : ∀ i j, i < n + 1 → j < n + 1 → i ≠ j → f i j = - f j i) : sumN (n + 1) (fun i => sumN n fun k => f i (del i k)) = 0 := by
  let g : Nat → Nat → Int := fun i j => if i = j then 0 else f i j
  have e : sumN (n + 1) (fun i => sumN n fun k => f i (del i k)) = sumN (n + 1) fun i => sumN (n + 1) (g i) := by
    refine sumN_congr fun i hi => ?_
    rw [← sumN_del (g i) hi]
    have : g i i = 0 := if_pos rfl
    rw [this]
    have : sumN n (fun k => f i (del i k)) = sumN n fun k => g i (del i k) := sumN_congr fun k _ => (if_neg (Ne.symm del_ne)).symm
    rw [this]
    omega
  have a : sumN (n + 1) (fun i => sumN (n + 1) (g i)) = - sumN (n + 1) (fun i => sumN (n + 1) (g i)) := by
    have h1 := sumN_swap (n + 1) (n + 1) g
    have h2 : sumN (n + 1) (fun j => sumN (n + 1) fun i => g i j) = sumN (n + 1) (fun j => - sumN (n + 1) (g j)) := sumN_congr fun j hj => by
      rw [← sumN_neg]
      refine sumN_congr fun i hi => ?_
      show (if i = j then 0 else f i j) = - (if j = i then 0 else f j i)
      by_cases z : i = j
      · rw [if_pos z, if_pos z.symm]; rfl
      · rw [if_neg z, if_neg (Ne.symm z), h i j hi hj z]
    rw [sumN_neg] at h2
    rw [h2] at h1
    exact h1
  rw [e]
  omega
/-- one column replaced -/
def setC (A : Nat → Nat → Int) (p : Nat) (v : Nat → Int) : Nat → Nat → Int := fun i j => if j = p then v i else A i j
theorem det_linC : ∀ {n : Nat} {A : Nat → Nat → Int} {p : Nat} (u v : Nat → Int) (a b : Int), p < n → det n (setC A p fun j => a * u j + b * v j) = a * det n (setC A p u) + b * det n (setC A p v)
  | n + 1, A, p, u, v, a, b, hp => by
    show sumN (n + 1) _ = a * sumN (n + 1) _ + b * sumN (n + 1) _
    rw [← sumN_mul, ← sumN_mul, ← sumN_add]
    refine sumN_congr fun i hi => ?_
    by_cases h : n = p
    · subst h
      have e : ∀ w : Nat → Int, det n (fun r c => setC A n w (del i r) c) = det n fun r c => A (del i r) c := fun w => det_congr fun r c hr hc => by
        unfold setC; rw [if_neg (by omega)]
      rw [e, e, e]
      unfold setC
      rw [if_pos rfl, if_pos rfl, if_pos rfl]
      simp only [Int.mul_add, Int.add_mul]
      have : ∀ s d x w : Int, s * (x * w) * d = x * (s * w * d) := fun s d x w => by
        rw [Int.mul_left_comm s x w, Int.mul_assoc]
      rw [this, this]
    · have e : ∀ w : Nat → Int, (fun r c => setC A p w (del i r) c) = setC (fun r c => A (del i r) c) p fun r => w (del i r) := fun w => rfl
      rw [e, e, e]
      have := det_linC (n := n) (A := fun r c => A (del i r) c) (p := p) (fun r => u (del i r)) (fun r => v (del i r)) a b (by omega)
      rw [this]
      have e1 : ∀ w : Nat → Int, setC A p w i n = A i n := fun w => by unfold setC; rw [if_neg h]
      rw [e1, e1, e1]
      simp only [Int.mul_add]
      have : ∀ s x d : Int, s * (x * d) = x * (s * d) := fun s x d => Int.mul_left_comm s x d
      rw [this _ a, this _ b]
theorem del_del {n i j k r : Nat} (hk : del i k = j) : del i (del k r) = (if r < min i j then r else if r + 1 < max i j then r + 1 else r + 2) := by
  subst hk
  unfold del
  simp only [Nat.min_def, Nat.max_def]
  repeat' split
  all_goals omega
/-- the last two columns equal -/
theorem det_last2 {n : Nat} {A : Nat → Nat → Int} (h : ∀ i, i < n + 2 → A i n = A i (n + 1)) : det (n + 2) A = 0 := by
  let Mi : Nat → Nat → Int := fun i j => det n fun r c => A (if r < min i j then r else if r + 1 < max i j then r + 1 else r + 2) c
  let f : Nat → Nat → Int := fun i j => (if i < j then -1 else 1) * sg (i + j + 1) * (A i n * A j n) * Mi i j
  have e : det (n + 2) A = sumN (n + 2) fun i => sumN (n + 1) fun k => f i (del i k) := by
    show sumN (n + 2) (fun i => sg (i + (n + 1)) * A i (n + 1) * sumN (n + 1) fun k => sg (k + n) * A (del i k) n * det n fun r c => A (del i (del k r)) c) = _
    refine sumN_congr fun i hi => ?_
    rw [← sumN_mul]
    refine sumN_congr fun k hk => ?_
    have e1 : (det n fun r c => A (del i (del k r)) c) = Mi i (del i k) := det_congr fun r c hr hc => by
      rw [del_del (n := n) rfl]
    rw [e1, ← h i hi]
    show _ = (if i < del i k then -1 else 1) * sg (i + del i k + 1) * (A i n * A (del i k) n) * Mi i (del i k)
    have s : sg (i + (n + 1)) * sg (k + n) = (if i < del i k then -1 else 1) * sg (i + del i k + 1) := by
      unfold del sg
      split <;> split <;> split <;> split <;> first | rfl | omega | (split <;> first | rfl | omega)
    rw [← s]
    generalize sg (i + (n + 1)) = s1
    generalize sg (k + n) = s2
    generalize A i n = x
    generalize A (del i k) n = y
    generalize Mi i (del i k) = m
    simp only [Int.mul_assoc, Int.mul_left_comm, Int.mul_comm]
  rw [e]
  refine sum_anti f fun i j hi hj hij => ?_
  have m : Mi i j = Mi j i := det_congr fun r c hr hc => by
    rw [Nat.min_comm, Nat.max_comm]
  show (if i < j then -1 else 1) * sg (i + j + 1) * (A i n * A j n) * Mi i j = - ((if j < i then -1 else 1) * sg (j + i + 1) * (A j n * A i n) * Mi j i)
  rw [m, Nat.add_comm j i, Int.mul_comm (A j n) (A i n)]
  by_cases z : i < j
  · rw [if_pos z, if_neg (by omega)]
    simp only [Int.neg_mul, Int.one_mul]
  · rw [if_neg z, if_pos (by omega)]
    simp only [Int.neg_mul, Int.one_mul, Int.neg_neg]
end Fc

set_option Elab.async false
set_option linter.all false
namespace Fc
theorem setC_setC_ne {A : Nat → Nat → Int} {p q : Nat} (h : p ≠ q) (u v : Nat → Int) : setC (setC A p u) q v = setC (setC A q v) p u := by
  funext i j
  unfold setC
  by_cases a : j = p
  · rw [if_pos a]
    by_cases b : j = q
    · exact absurd (a.symm.trans b) h
    · rw [if_neg b, if_pos a]
  · by_cases b : j = q
    · rw [if_pos b, if_neg a, if_pos b]
    · rw [if_neg b, if_neg a, if_neg a, if_neg b]
/-- two equal columns -/
theorem det_altC : ∀ {n : Nat} {A : Nat → Nat → Int} {c d : Nat}, c < d → d < n → (∀ i, i < n → A i c = A i d) → det n A = 0
  | n + 1, A, c, d, hcd, hd, h => by
    have inner : ∀ {B : Nat → Nat → Int} {c d : Nat}, c < d → d < n → (∀ i, i < n + 1 → B i c = B i d) → det (n + 1) B = 0 := fun {B c d} hcd hd h => by
      show sumN (n + 1) _ = 0
      refine sumN_zero fun i hi => ?_
      rw [det_altC (n := n) (A := fun r c => B (del i r) c) hcd hd fun r hr => h _ (del_lt hi hr), Int.mul_zero]
    by_cases e : d < n
    · exact inner hcd e h
    · have e : d = n := by omega
      subst e
      cases d with
      | zero => omega
      | succ m =>
        by_cases hc : c = m
        · subst hc; exact det_last2 fun i hi => h i hi
        · let f : (Nat → Int) → (Nat → Int) → Int := fun u v => det (m + 1 + 1) (setC (setC A c u) m v)
          have hcm : c ≠ m := hc
          have lin1 : ∀ u u' v, f (fun j => u j + u' j) v = f u v + f u' v := fun u u' v => by
            show det _ _ = det _ _ + det _ _
            rw [setC_setC_ne hcm, setC_setC_ne hcm, setC_setC_ne hcm]
            have := det_linC (n := m + 1 + 1) (A := setC A m v) (p := c) u u' 1 1 (by omega)
            simpa using this
          have lin2 : ∀ u v v', f u (fun j => v j + v' j) = f u v + f u v' := fun u v v' => by
            have := det_linC (n := m + 1 + 1) (A := setC A c u) (p := m) v v' 1 1 (by omega)
            simpa using this
          have alt : ∀ u, f u u = 0 := fun u => inner (c := c) (d := m) (by omega) (by omega) fun i _ => by
            unfold setC
            rw [if_neg hcm, if_pos rfl, if_pos rfl]
          have hh := alt fun i => A i c + A i m
          rw [lin1, lin2, lin2, alt, alt] at hh
          have e1 : f (fun i => A i c) (fun i => A i m) = det (m + 1 + 1) A := det_congr fun i j _ _ => by
            unfold setC
            by_cases a : j = m
            · rw [if_pos a, a]
            · rw [if_neg a]
              by_cases b : j = c
              · rw [if_pos b, b]
              · rw [if_neg b]
          have e2 : f (fun i => A i m) (fun i => A i c) = 0 := det_last2 fun i hi => by
            show (if m = m then A i c else _) = (if m + 1 = m then _ else if m + 1 = c then _ else A i (m + 1))
            rw [if_pos rfl, if_neg (by omega), if_neg (by omega)]
            exact h i hi
          rw [e1, e2] at hh
          omega
theorem sg_even (n : Nat) : sg (n + n) = 1 := by unfold sg; rw [if_pos (by omega)]
/-- CRAMER: integer multiples of the rows -/
theorem cramer {n : Nat} (A : Nat → Nat → Int) (v : Nat → Int) : ∃ x : Nat → Int, ∀ b, b < n → sumN n (fun i => x i * A i b) = det n A * v b := by
  let mi : Nat → Int := fun i => det n fun r c => if del i r = n then v c else A (del i r) c
  refine ⟨fun i => - (sg (i + n) * mi i), fun b hb => ?_⟩
  let B : Nat → Nat → Int := fun i j => if j = n then (if i = n then v b else A i b) else (if i = n then v j else A i j)
  have z : det (n + 1) B = 0 := det_altC (c := b) (d := n) hb (by omega) fun i hi => by
    show (if b = n then _ else (if i = n then v b else A i b)) = (if n = n then (if i = n then v b else A i b) else _)
    rw [if_neg (by omega), if_pos rfl]
  have m : ∀ i, (det n fun r c => B (del i r) c) = mi i := fun i => det_congr fun r c hr hc => by
    show (if c = n then _ else (if del i r = n then v c else A (del i r) c)) = _
    rw [if_neg (by omega)]
  have e : det (n + 1) B = sumN n (fun i => sg (i + n) * A i b * mi i) + sg (n + n) * v b * mi n := by
    show sumN n _ + _ = _
    have h1 : sumN n (fun i => sg (i + n) * B i n * det n fun r c => B (del i r) c) = sumN n (fun i => sg (i + n) * A i b * mi i) := sumN_congr fun i hi => by
      rw [m]
      have : B i n = A i b := by
        show (if n = n then (if i = n then v b else A i b) else _) = _
        rw [if_pos rfl, if_neg (by omega)]
      rw [this]
    rw [h1]
    show _ + sg (n + n) * B n n * (det n fun r c => B (del n r) c) = _
    rw [m]
    have : B n n = v b := by
      show (if n = n then (if n = n then v b else A n b) else _) = _
      rw [if_pos rfl, if_pos rfl]
    rw [this]
  have hm : mi n = det n A := det_congr fun r c hr hc => by
    have : del n r = r := by unfold del; rw [if_pos hr]
    rw [this, if_neg (by omega)]
  rw [z, sg_even, hm] at e
  have h2 : sumN n (fun i => -(sg (i + n) * mi i) * A i b) = - sumN n (fun i => sg (i + n) * A i b * mi i) := by
    rw [← sumN_neg]
    refine sumN_congr fun i hi => ?_
    generalize sg (i + n) = s
    generalize mi i = t
    generalize A i b = y
    rw [Int.neg_mul, Int.mul_assoc, Int.mul_assoc, Int.mul_comm t y]
  rw [h2, Int.mul_comm (det n A)]
  have : 1 * v b * det n A = v b * det n A := by rw [Int.one_mul]
  omega
theorem det_lastrow {n : Nat} {A : Nat → Nat → Int} (h : ∀ j, j < n → A n j = 0) : det (n + 1) A = A n n * det n A := by
  show sumN n _ + sg (n + n) * A n n * _ = _
  have h1 : sumN n (fun i => sg (i + n) * A i n * det n fun r c => A (del i r) c) = 0 := sumN_zero fun i hi => by
    rw [det_zero_row (n := n) (p := n - 1) (by omega) fun j hj => ?_, Int.mul_zero]
    have : del i (n - 1) = n := by unfold del; rw [if_neg (by omega)]; omega
    rw [this]; exact h j hj
  have h2 : (det n fun r c => A (del n r) c) = det n A := det_congr fun r c hr hc => by
    have : del n r = r := by unfold del; rw [if_pos hr]
    rw [this]
  rw [h1, h2, sg_even, Int.one_mul, Int.zero_add]
end Fc

set_option Elab.async false
set_option linter.all false
namespace Fc
theorem det_sumR {n : Nat} {A : Nat → Nat → Int} {p : Nat} (hp : p < n) (x : Nat → Int) (u : Nat → Nat → Int) : ∀ m : Nat, det n (setR A p fun j => sumN m fun i => x i * u i j) = sumN m fun i => x i * det n (setR A p (u i))
  | 0 => det_zero_row hp fun j _ => by unfold setR; rw [if_pos rfl]; rfl
  | m + 1 => by
    have h := det_lin (n := n) (A := A) (p := p) (fun j => sumN m fun i => x i * u i j) (u m) 1 (x m) hp
    have e : (fun j => 1 * (sumN m fun i => x i * u i j) + x m * u m j) = fun j => sumN (m + 1) fun i => x i * u i j := funext fun j => by
      rw [Int.one_mul]; rfl
    rw [e, det_sumR hp x u m, Int.one_mul] at h
    exact h
/-- the matrix of r rows and columns, bordered by a row w and a column c -/
def bord (r : Nat) (M : Nat → Nat → Int) (b : Nat → Nat) (w : Nat → Int) (c : Nat) : Nat → Nat → Int := fun i j => (if i = r then w else M i) (if j = r then c else b j)
/-- what the last row leaves -/
def resid (r : Nat) (M : Nat → Nat → Int) (D : Int) (x : Nat → Int) (w : Nat → Int) : Nat → Int := fun j => D * w j - sumN r fun i => x i * M i j
theorem bord_det {r : Nat} {M : Nat → Nat → Int} {b : Nat → Nat} {w x : Nat → Int} {c : Nat} (hx : ∀ j, j < r → sumN r (fun i => x i * M i (b j)) = det r (fun i j => M i (b j)) * w (b j)) (hD : det r (fun i j => M i (b j)) ≠ 0) :
    det (r + 1) (bord r M b w c) = resid r M (det r fun i j => M i (b j)) x w c := by
  generalize hDe : det r (fun i j => M i (b j)) = D at *
  let A := bord r M b w c
  -- the last row scaled and reduced
  have h1 : det (r + 1) (setR A r fun j => D * A r j + (-1) * sumN r fun i => x i * A i j) = D * det (r + 1) A := by
    rw [det_lin _ _ _ _ (by omega), setR_self, det_sumR (by omega) x A r]
    rw [sumN_zero fun i hi => ?_]
    · omega
    · rw [det_alt (k := r - i - 1) (p := i) (q := r) (by omega) (by omega) fun j _ => ?_, Int.mul_zero]
      unfold setR
      rw [if_neg (by omega), if_pos rfl]
  have h2 : det (r + 1) (setR A r fun j => D * A r j + (-1) * sumN r fun i => x i * A i j) = resid r M D x w c * D := by
    rw [det_lastrow fun j hj => ?_]
    · have e1 : setR A r (fun j => D * A r j + (-1) * sumN r fun i => x i * A i j) r r = resid r M D x w c := by
        unfold setR
        rw [if_pos rfl]
        show D * bord r M b w c r r + -1 * sumN r (fun i => x i * bord r M b w c i r) = D * w c - sumN r fun i => x i * M i c
        have : sumN r (fun i => x i * bord r M b w c i r) = sumN r fun i => x i * M i c := sumN_congr fun i hi => by
          unfold bord; rw [if_neg (by omega), if_pos rfl]
        rw [this]
        unfold bord
        rw [if_pos rfl, if_pos rfl]
        omega
      have e2 : det r (setR A r fun j => D * A r j + (-1) * sumN r fun i => x i * A i j) = D := by
        rw [← hDe]
        refine det_congr fun i j hi hj => ?_
        unfold setR
        rw [if_neg (by omega)]
        show bord r M b w c i j = _
        unfold bord
        rw [if_neg (by omega), if_neg (by omega)]
      rw [e1, e2]
    · unfold setR
      rw [if_pos rfl]
      show D * bord r M b w c r j + -1 * sumN r (fun i => x i * bord r M b w c i j) = 0
      have e1 : bord r M b w c r j = w (b j) := by unfold bord; rw [if_pos rfl, if_neg (by omega)]
      have e2 : sumN r (fun i => x i * bord r M b w c i j) = D * w (b j) := by
        rw [← hx j hj]
        refine sumN_congr fun i hi => ?_
        unfold bord
        rw [if_neg (by omega), if_neg (by omega)]
      rw [e1, e2]
      omega
  have h3 : (det (r + 1) A - resid r M D x w c) * D = 0 := by
    rw [Int.sub_mul, ← h2, h1, Int.mul_comm]
    omega
  rcases Int.mul_eq_zero.mp h3 with z | z
  · show det (r + 1) A = _
    omega
  · exact absurd z hD
end Fc

set_option Elab.async false
set_option linter.all false
namespace Fc
/-- rows of a matrix with det not 0 are independent -/
theorem det_uniq {n : Nat} {A : Nat → Nat → Int} {e : Nat → Int} (hD : det n A ≠ 0) (h : ∀ j, j < n → sumN n (fun i => e i * A i j) = 0) : ∀ i, i < n → e i = 0 := by
  intro p hp
  have h1 : det n (setR A p fun j => sumN n fun i => e i * A i j) = e p * det n A := by
    rw [det_sumR hp e A n]
    have one : ∀ m, m ≤ n → sumN m (fun i => e i * det n (setR A p (A i))) = if p < m then e p * det n A else 0 := by
      intro m
      induction m with
      | zero => intro _; rfl
      | succ m ih =>
        intro hm
        show sumN m _ + e m * _ = _
        rw [ih (by omega)]
        by_cases z : m = p
        · subst z
          rw [if_neg (by omega), if_pos (by omega), setR_self, Int.zero_add]
        · have alt : det n (setR A p (A m)) = 0 := by
            rcases Nat.lt_or_ge m p with q | q
            · refine det_alt (k := p - m - 1) (p := m) (q := p) (by omega) hp fun j _ => ?_
              unfold setR
              rw [if_neg z, if_pos rfl]
            · refine det_alt (k := m - p - 1) (p := p) (q := m) (by omega) (by omega) fun j _ => ?_
              unfold setR
              rw [if_pos rfl, if_neg z]
          rw [alt, Int.mul_zero, Int.add_zero]
          by_cases a : p < m
          · rw [if_pos a, if_pos (by omega)]
          · rw [if_neg a, if_neg (by omega)]
    rw [one n (Nat.le_refl _), if_pos hp]
  have h2 : det n (setR A p fun j => sumN n fun i => e i * A i j) = 0 := det_zero_row hp fun j hj => by
    unfold setR; rw [if_pos rfl]; exact h j hj
  rw [h2] at h1
  rcases Int.mul_eq_zero.mp h1.symm with z | z
  · exact z
  · exact absurd z hD
/-- two vectors that are combinations of the rows and agree on the basis agree -/
theorem comb_uniq {n : Nat} {M : Nat → Nat → Int} {b : Nat → Nat} {e : Nat → Int} (hD : det n (fun i j => M i (b j)) ≠ 0) (h : ∀ j, j < n → sumN n (fun i => e i * M i (b j)) = 0) (c : Nat) : sumN n (fun i => e i * M i c) = 0 :=
  sumN_zero fun i hi => by rw [det_uniq (A := fun i j => M i (b j)) hD h i hi, Int.zero_mul]
end Fc

set_option Elab.async false
set_option linter.all false
namespace Fc
theorem comb3 (n : Nat) (M : Nat → Nat → Int) (a b c : Int) (e f g : Nat → Int) (j : Nat) : sumN n (fun i => (a * e i + b * f i + c * g i) * M i j) = a * sumN n (fun i => e i * M i j) + b * sumN n (fun i => f i * M i j) + c * sumN n (fun i => g i * M i j) := by
  rw [← sumN_mul, ← sumN_mul, ← sumN_mul, ← sumN_add, ← sumN_add]
  refine sumN_congr fun i _ => ?_
  rw [Int.add_mul, Int.add_mul, Int.mul_assoc, Int.mul_assoc, Int.mul_assoc]
theorem comb_ext (r : Nat) (M : Nat → Nat → Int) (x : Nat → Int) (d : Int) (j : Nat) : sumN (r + 1) (fun i => (if i < r then x i else d) * M i j) = sumN r (fun i => x i * M i j) + d * M r j := by
  show sumN r (fun i => (if i < r then x i else d) * M i j) + (if r < r then x r else d) * M r j = _
  have e : sumN r (fun i => (if i < r then x i else d) * M i j) = sumN r fun i => x i * M i j := sumN_congr fun i hi => by rw [if_pos hi]
  rw [e, if_neg (Nat.lt_irrefl r)]
structure BInv (h r : Nat) (M t : Nat → Nat → Int) (b : Nat → Nat) (D : Int) : Prop where
  det : D = Fc.det r (fun i j => M i (b j))
  nz : D ≠ 0
  top : ∀ q, q < r → ∃ x : Nat → Int, (∀ j, t q j = sumN r fun i => x i * M i j) ∧ ∀ j, j < r → t q (b j) = if j = q then D else 0
  low : ∀ q, r ≤ q → q < h → ∃ x : Nat → Int, (∀ j, t q j = resid r M D x (M q) j) ∧ ∀ j, j < r → t q (b j) = 0
theorem binv_zero {h : Nat} (M : Nat → Nat → Int) (b : Nat → Nat) : BInv h 0 M M b 1 where
  det := rfl
  nz := by decide
  top := fun q hq => by omega
  low := fun q _ _ => ⟨fun _ => 0, fun j => by unfold resid; show M q j = 1 * M q j - 0; omega, fun j hj => by omega⟩
def bSet (b : Nat → Nat) (r c : Nat) : Nat → Nat := fun j => if j = r then c else b j
theorem binv_step {h r c : Nat} {M t : Nat → Nat → Int} {b : Nat → Nat} {D : Int} (I : BInv h r M t b D) (hr : r < h) (hp : t r c ≠ 0) :
    ∃ t' : Nat → Nat → Int, (∀ j, t' r j = t r j) ∧ (∀ q, q < h → q ≠ r → ∀ j, D * t' q j = t r c * t q j - t q c * t r j) ∧ BInv h (r + 1) M t' (bSet b r c) (t r c) := by
  obtain ⟨y, hy, hyb⟩ := I.low r (Nat.le_refl _) hr
  have hD' : Fc.det (r + 1) (fun i j => M i (bSet b r c j)) = t r c := by
    have := bord_det (r := r) (M := M) (b := b) (w := M r) (x := y) (c := c) (fun j hj => by
      have h0 := hyb j hj
      rw [hy] at h0
      unfold resid at h0
      rw [← I.det]
      omega) (by rw [← I.det]; exact I.nz)
    rw [← I.det, ← hy] at this
    rw [← this]
    refine det_congr fun i j hi hj => ?_
    unfold bord bSet
    by_cases a : i = r
    · rw [if_pos a, a]
    · rw [if_neg a]
  have hnz : Fc.det (r + 1) (fun i j => M i (bSet b r c j)) ≠ 0 := by rw [hD']; exact hp
  have bs : ∀ j, j < r → bSet b r c j = b j := fun j hj => by unfold bSet; rw [if_neg (by omega)]
  have br : bSet b r c r = c := by unfold bSet; rw [if_pos rfl]
  have tr : ∀ j, t r j = D * M r j - sumN r fun i => y i * M i j := hy
  have topx : ∀ q, ∃ x : Nat → Int, ∀ j, j < r + 1 → sumN (r + 1) (fun i => x i * M i (bSet b r c j)) = if j = q then t r c else 0 := fun q => by
    obtain ⟨x, hx⟩ := cramer (n := r + 1) (fun i j => M i (bSet b r c j)) (fun j => if j = q then 1 else 0)
    refine ⟨x, fun j hj => ?_⟩
    rw [hx j hj, hD']
    split <;> simp
  have lowx : ∀ q, ∃ x : Nat → Int, ∀ j, j < r + 1 → sumN (r + 1) (fun i => x i * M i (bSet b r c j)) = t r c * M q (bSet b r c j) := fun q => by
    obtain ⟨x, hx⟩ := cramer (n := r + 1) (fun i j => M i (bSet b r c j)) (fun j => M q (bSet b r c j))
    exact ⟨x, fun j hj => by rw [hx j hj, hD']⟩
  let tx := fun q => Classical.choose (topx q)
  have htx := fun q => Classical.choose_spec (topx q)
  let lx := fun q => Classical.choose (lowx q)
  have hlx := fun q => Classical.choose_spec (lowx q)
  let t' : Nat → Nat → Int := fun q j => if q < r then sumN (r + 1) fun i => tx q i * M i j else if q = r then t r j else resid (r + 1) M (t r c) (lx q) (M q) j
  have t'r : ∀ j, t' r j = t r j := fun j => by show (if r < r then _ else if r = r then _ else _) = _; rw [if_neg (Nat.lt_irrefl r), if_pos rfl]
  have trz : ∀ j, t r j = sumN (r + 1) fun i => (if i < r then - y i else D) * M i j := fun j => by
    rw [comb_ext r M (fun i => - y i) D j, tr]
    have : sumN r (fun i => - y i * M i j) = - sumN r fun i => y i * M i j := by
      rw [← sumN_neg]; exact sumN_congr fun i _ => Int.neg_mul ..
    rw [this]; omega
  have t'top : ∀ q, q < r → ∀ j, t' q j = sumN (r + 1) fun i => tx q i * M i j := fun q hq j => by show (if q < r then _ else _) = _; rw [if_pos hq]
  have t'low : ∀ q, r < q → ∀ j, t' q j = resid (r + 1) M (t r c) (lx q) (M q) j := fun q hq j => by show (if q < r then _ else if q = r then _ else _) = _; rw [if_neg (by omega), if_neg (by omega)]
  have lowz : ∀ q, r < q → ∀ j, j < r + 1 → t' q (bSet b r c j) = 0 := fun q hq j hj => by
    rw [t'low q hq]
    unfold resid
    rw [hlx q j hj]; omega
  refine ⟨t', t'r, fun q hq hqr j => ?_, hD'.symm, hp, fun q hq => ?_, fun q hq1 hq2 => ?_⟩
  · rcases Nat.lt_or_ge q r with hlt | hge
    · obtain ⟨x, hx, hxb⟩ := I.top q hlt
      have txe : ∀ j, t q j = sumN (r + 1) fun i => (if i < r then x i else 0) * M i j := fun j => by
        rw [comb_ext r M x 0 j, hx, Int.zero_mul, Int.add_zero]
      have E : ∀ j, D * t' q j + -(t r c) * t q j + t q c * t r j = sumN (r + 1) fun i => (D * tx q i + -(t r c) * (if i < r then x i else 0) + t q c * (if i < r then - y i else D)) * M i j := fun j => by
        rw [comb3 (r + 1) M D (-(t r c)) (t q c) (tx q) (fun i => if i < r then x i else 0) (fun i => if i < r then - y i else D) j, ← trz, ← txe, ← t'top q hlt]
      have z := comb_uniq (M := M) (b := bSet b r c) (e := fun i => D * tx q i + -(t r c) * (if i < r then x i else 0) + t q c * (if i < r then - y i else D)) hnz (fun j hj => by
        rw [← E, t'top q hlt, htx q j hj]
        by_cases e : j = r
        · subst e
          rw [br, if_neg (by omega), Int.neg_mul, Int.mul_comm (t q c)]; omega
        · rw [bs j (by omega), hxb j (by omega), hyb j (by omega)]
          by_cases e2 : j = q
          · rw [if_pos e2, if_pos e2, Int.neg_mul, Int.mul_comm D]; omega
          · rw [if_neg e2, if_neg e2]; omega) j
      have h1 := (E j).trans z
      rw [Int.neg_mul] at h1
      omega
    · have hlt : r < q := by omega
      obtain ⟨x, hx, hxb⟩ := I.low q hge hq
      have E : ∀ j, D * t' q j + -(t r c) * t q j + t q c * t r j = sumN (r + 1) fun i => (-D * lx q i + t r c * (if i < r then x i else 0) + t q c * (if i < r then - y i else D)) * M i j := fun j => by
        rw [comb3 (r + 1) M (-D) (t r c) (t q c) (lx q) (fun i => if i < r then x i else 0) (fun i => if i < r then - y i else D) j, ← trz, comb_ext r M x 0 j, t'low q hlt, hx]
        unfold resid
        simp only [Int.mul_sub, Int.neg_mul, Int.zero_mul, Int.add_zero]
        rw [Int.mul_left_comm D (t r c)]
        omega
      have z := comb_uniq (M := M) (b := bSet b r c) (e := fun i => -D * lx q i + t r c * (if i < r then x i else 0) + t q c * (if i < r then - y i else D)) hnz (fun j hj => by
        rw [← E, lowz q hlt j hj]
        by_cases e : j = r
        · subst e
          rw [br, Int.neg_mul, Int.mul_comm (t q c)]; omega
        · rw [bs j (by omega), hxb j (by omega), hyb j (by omega)]; omega) j
      have h1 := (E j).trans z
      rw [Int.neg_mul] at h1
      omega
  · rcases Nat.lt_or_ge q r with hlt | hge
    · exact ⟨tx q, t'top q hlt, fun j hj => by rw [t'top q hlt]; exact htx q j hj⟩
    · have e : q = r := by omega
      subst e
      refine ⟨fun i => if i < q then - y i else D, fun j => by rw [t'r]; exact trz j, fun j hj => ?_⟩
      rw [t'r]
      by_cases e : j = q
      · subst e; rw [br, if_pos rfl]
      · rw [if_neg e, bs j (by omega)]; exact hyb j (by omega)
  · exact ⟨lx q, t'low q (by omega), fun j hj => lowz q (by omega) j hj⟩
end Fc

set_option Elab.async false
set_option linter.all false
namespace Fc
/-! ### how large a determinant can be -/
def fac : Nat → Nat
  | 0 => 1
  | n + 1 => (n + 1) * fac n
theorem fac_pos : ∀ n, 0 < fac n
  | 0 => by decide
  | n + 1 => Nat.mul_pos (by omega) (fac_pos n)
theorem sumN_bd {n : Nat} {f : Nat → Int} {B : Nat} (h : ∀ i, i < n → (f i).natAbs ≤ B) : (sumN n f).natAbs ≤ n * B := by
  induction n with
  | zero => show (0 : Int).natAbs ≤ _; simp
  | succ n ih =>
    show (sumN n f + f n).natAbs ≤ _
    have h1 := ih fun i hi => h i (by omega)
    have h2 := h n (by omega)
    have h3 := Int.natAbs_add_le (sumN n f) (f n)
    rw [Nat.add_mul, Nat.one_mul]
    omega
theorem sg_abs (k : Nat) : (sg k).natAbs = 1 := by unfold sg; split <;> rfl
theorem det_bd : ∀ {n : Nat} {A : Nat → Nat → Int} {B : Nat}, (∀ i j, i < n → j < n → (A i j).natAbs ≤ B) → (det n A).natAbs ≤ fac n * B ^ n
  | 0, _, _, _ => by show (1 : Int).natAbs ≤ 1 * 1; simp
  | n + 1, A, B, h => by
    show (sumN (n + 1) _).natAbs ≤ _
    have := sumN_bd (n := n + 1) (f := fun i => sg (i + n) * A i n * det n fun r c => A (del i r) c) (B := B * (fac n * B ^ n)) fun i hi => by
      rw [Int.natAbs_mul, Int.natAbs_mul, sg_abs, Nat.one_mul]
      exact Nat.mul_le_mul (h i n hi (by omega)) (det_bd fun r c hr hc => h _ _ (del_lt hi hr) (by omega))
    refine Nat.le_trans this (Nat.le_of_eq ?_)
    show (n + 1) * (B * (fac n * B ^ n)) = (n + 1) * fac n * (B ^ n * B)
    rw [Nat.mul_assoc, Nat.mul_comm B, Nat.mul_assoc]
theorem cramer_bd {n : Nat} (A : Nat → Nat → Int) (v : Nat → Int) {B : Nat} (hA : ∀ i j, i < n → j < n → (A i j).natAbs ≤ B) (hv : ∀ j, j < n → (v j).natAbs ≤ B) : ∃ x : Nat → Int, (∀ b, b < n → sumN n (fun i => x i * A i b) = det n A * v b) ∧ ∀ i, i < n → (x i).natAbs ≤ fac n * B ^ n := by
  let mi : Nat → Int := fun i => det n fun r c => if del i r = n then v c else A (del i r) c
  refine ⟨fun i => - (sg (i + n) * mi i), fun b hb => ?_, fun i hi => ?_⟩
  rotate_left
  · show (- (sg (i + n) * mi i)).natAbs ≤ _
    rw [Int.natAbs_neg, Int.natAbs_mul, sg_abs, Nat.one_mul]
    refine det_bd fun r c hr hc => ?_
    split
    · exact hv c hc
    · rename_i h
      have := del_lt (n := n) (i := i) (r := r) (by omega) hr
      exact hA _ _ (by omega) hc
  · let B : Nat → Nat → Int := fun i j => if j = n then (if i = n then v b else A i b) else (if i = n then v j else A i j)
    have z : det (n + 1) B = 0 := det_altC (c := b) (d := n) hb (by omega) fun i hi => by
      show (if b = n then _ else (if i = n then v b else A i b)) = (if n = n then (if i = n then v b else A i b) else _)
      rw [if_neg (by omega), if_pos rfl]
    have m : ∀ i, (det n fun r c => B (del i r) c) = mi i := fun i => det_congr fun r c hr hc => by
      show (if c = n then _ else (if del i r = n then v c else A (del i r) c)) = _
      rw [if_neg (by omega)]
    have e : det (n + 1) B = sumN n (fun i => sg (i + n) * A i b * mi i) + sg (n + n) * v b * mi n := by
      show sumN n _ + _ = _
      have h1 : sumN n (fun i => sg (i + n) * B i n * det n fun r c => B (del i r) c) = sumN n (fun i => sg (i + n) * A i b * mi i) := sumN_congr fun i hi => by
        rw [m]
        have : B i n = A i b := by
          show (if n = n then (if i = n then v b else A i b) else _) = _
          rw [if_pos rfl, if_neg (by omega)]
        rw [this]
      rw [h1]
      show _ + sg (n + n) * B n n * (det n fun r c => B (del n r) c) = _
      rw [m]
      have : B n n = v b := by
        show (if n = n then (if n = n then v b else A n b) else _) = _
        rw [if_pos rfl, if_pos rfl]
      rw [this]
    have hm : mi n = det n A := det_congr fun r c hr hc => by
      have : del n r = r := by unfold del; rw [if_pos hr]
      rw [this, if_neg (by omega)]
    rw [z, sg_even, hm] at e
    have h2 : sumN n (fun i => -(sg (i + n) * mi i) * A i b) = - sumN n (fun i => sg (i + n) * A i b * mi i) := by
      rw [← sumN_neg]
      refine sumN_congr fun i hi => ?_
      generalize sg (i + n) = s
      generalize mi i = t
      generalize A i b = y
      rw [Int.neg_mul, Int.mul_assoc, Int.mul_assoc, Int.mul_comm t y]
    rw [h2, Int.mul_comm (det n A)]
    have : 1 * v b * det n A = v b * det n A := by rw [Int.one_mul]
    omega
/-- a row of the table that is no row of the basis yet -/
theorem low_bd {h r q j : Nat} {M t : Nat → Nat → Int} {b : Nat → Nat} {D : Int} {B : Nat} (I : BInv h r M t b D) (h1 : r ≤ q) (h2 : q < h) (hM : ∀ q j, q < h → (M q j).natAbs ≤ B) : (t q j).natAbs ≤ fac (r + 1) * B ^ (r + 1) := by
  obtain ⟨x, hx, hb⟩ := I.low q h1 h2
  have := bord_det (r := r) (M := M) (b := b) (w := M q) (x := x) (c := j) (fun k hk => by
    have h0 := hb k hk
    rw [hx] at h0
    unfold resid at h0
    rw [← I.det]; omega) (by rw [← I.det]; exact I.nz)
  rw [← I.det, ← hx] at this
  rw [← this]
  refine det_bd fun a c ha hc => ?_
  unfold bord
  split
  · exact hM _ _ h2
  · exact hM _ _ (by omega)
theorem top_bd {h r q j : Nat} {M t : Nat → Nat → Int} {b : Nat → Nat} {D : Int} {B : Nat} (I : BInv h r M t b D) (h1 : q < r) (hr : r ≤ h) (hB : 1 ≤ B) (hM : ∀ q j, q < h → (M q j).natAbs ≤ B) : (t q j).natAbs ≤ r * (fac r * B ^ r * B) := by
  obtain ⟨x, hx, hb⟩ := I.top q h1
  obtain ⟨y, hy, hyb⟩ := cramer_bd (n := r) (fun i j => M i (b j)) (fun j => if j = q then 1 else 0) (B := B) (fun i j hi _ => hM _ _ (by omega)) (fun j _ => by split <;> simp <;> omega)
  have z := comb_uniq (n := r) (M := M) (b := b) (e := fun i => x i - y i) (by rw [← I.det]; exact I.nz) (fun k hk => by
    have e1 : sumN r (fun i => (x i - y i) * M i (b k)) = sumN r (fun i => x i * M i (b k)) + sumN r (fun i => - (y i * M i (b k))) := by
      rw [← sumN_add]; exact sumN_congr fun i _ => by rw [Int.sub_mul]; omega
    rw [e1, sumN_neg, hy k hk, ← hx, hb k hk, ← I.det]
    split <;> simp [Int.add_right_neg]) j
  have e2 : sumN r (fun i => (x i - y i) * M i j) = sumN r (fun i => x i * M i j) + sumN r (fun i => - (y i * M i j)) := by
    rw [← sumN_add]; exact sumN_congr fun i _ => by rw [Int.sub_mul]; omega
  rw [e2, sumN_neg, ← hx] at z
  have : t q j = sumN r fun i => y i * M i j := by omega
  rw [this]
  refine sumN_bd fun i hi => ?_
  rw [Int.natAbs_mul]
  exact Nat.mul_le_mul (hyb i hi) (hM _ _ (by omega))
/-- each column by the columns of the basis -/
theorem binv_rel {h r q : Nat} {M t : Nat → Nat → Int} {b : Nat → Nat} {D : Int} (I : BInv h r M t b D) (hq : q < h) (j : Nat) : D * M q j = sumN r (fun i => t i j * M q (b i)) + (if q < r then 0 else t q j) := by
  have hnz : Fc.det r (fun i j => M i (b j)) ≠ 0 := by rw [← I.det]; exact I.nz
  have hu : ∃ x : Nat → Int, (∀ j, D * M q j - (if q < r then 0 else t q j) = sumN r fun i => x i * M i j) ∧ ∀ k, k < r → (if q < r then 0 else t q (b k)) = 0 := by
    by_cases c : q < r
    · refine ⟨fun i => if i = q then D else 0, fun j => ?_, fun k _ => by rw [if_pos c]⟩
      rw [if_pos c]
      have one : ∀ m, sumN m (fun i => (if i = q then D else 0) * M i j) = if q < m then D * M q j else 0 := by
        intro m
        induction m with
        | zero => rfl
        | succ m ih =>
          show sumN m _ + (if m = q then D else 0) * M m j = _
          rw [ih]
          by_cases e : m = q
          · subst e; rw [if_pos rfl, if_neg (by omega), if_pos (by omega)]; omega
          · rw [if_neg e, Int.zero_mul, Int.add_zero]
            by_cases a : q < m
            · rw [if_pos a, if_pos (by omega)]
            · rw [if_neg a, if_neg (by omega)]
      rw [one, if_pos c]; omega
    · obtain ⟨x, hx, hb⟩ := I.low q (by omega) hq
      refine ⟨x, fun j => ?_, fun k hk => by rw [if_neg c]; exact hb k hk⟩
      rw [if_neg c, hx]; unfold resid; omega
  obtain ⟨x, hx, hxb⟩ := hu
  let y := fun i => if hi : i < r then Classical.choose (I.top i hi) else fun _ => 0
  have hy : ∀ i, i < r → (∀ j, t i j = sumN r fun p => y i p * M p j) ∧ ∀ j, j < r → t i (b j) = if j = i then D else 0 := fun i hi => by
    have := Classical.choose_spec (I.top i hi)
    show (∀ j, t i j = sumN r fun p => (if hi : i < r then Classical.choose (I.top i hi) else fun _ => 0) p * M p j) ∧ _
    rw [dif_pos hi]; exact this
  have hz : ∀ j, sumN r (fun i => t i j * M q (b i)) = sumN r fun p => (sumN r fun i => M q (b i) * y i p) * M p j := fun j => by
    have e1 : sumN r (fun i => t i j * M q (b i)) = sumN r fun i => sumN r fun p => M q (b i) * y i p * M p j := sumN_congr fun i hi => by
      rw [(hy i hi).1 j, Int.mul_comm, ← sumN_mul]
      exact sumN_congr fun p _ => (Int.mul_assoc ..).symm
    rw [e1, sumN_swap]
    refine sumN_congr fun p _ => ?_
    rw [Int.mul_comm (sumN r _), ← sumN_mul]
    exact sumN_congr fun i _ => Int.mul_comm ..
  have E : ∀ j, D * M q j - (if q < r then 0 else t q j) - sumN r (fun i => t i j * M q (b i)) = sumN r fun p => (x p - sumN r fun i => M q (b i) * y i p) * M p j := fun j => by
    rw [hx j, hz j]
    have e2 : sumN r (fun p => (x p - sumN r fun i => M q (b i) * y i p) * M p j) = sumN r (fun p => x p * M p j) + sumN r (fun p => - ((sumN r fun i => M q (b i) * y i p) * M p j)) := by
      rw [← sumN_add]; exact sumN_congr fun i _ => by rw [Int.sub_mul]; omega
    rw [e2, sumN_neg]; omega
  have z := comb_uniq (n := r) (M := M) (b := b) hnz (fun k hk => by
    rw [← E (b k), hxb k hk]
    have one : sumN r (fun i => t i (b k) * M q (b i)) = D * M q (b k) := by
      have : ∀ m, m ≤ r → sumN m (fun i => t i (b k) * M q (b i)) = if k < m then D * M q (b k) else 0 := by
        intro m
        induction m with
        | zero => intro _; rfl
        | succ m ih =>
          intro hm
          show sumN m _ + t m (b k) * M q (b m) = _
          rw [ih (by omega), (hy m (by omega)).2 k hk]
          by_cases e : k = m
          · subst e; rw [if_pos rfl, if_neg (by omega), if_pos (by omega)]; omega
          · rw [if_neg e, Int.zero_mul, Int.add_zero]
            by_cases a : k < m
            · rw [if_pos a, if_pos (by omega)]
            · rw [if_neg a, if_neg (by omega)]
      rw [this r (Nat.le_refl _), if_pos hk]
    rw [one]; omega) j
  rw [← E j] at z
  omega
/-! ### a line reduced by kept lines -/
def Dk (K : Nat → Nat → Int) (l : Nat → Nat) (i : Nat) : Int := det i fun a c => K a (l c)
def Rs (K : Nat → Nat → Int) (l : Nat → Nat) (i : Nat) (w : Nat → Int) (c : Nat) : Int := det (i + 1) (bord i K l w c)
theorem rs_zero (K : Nat → Nat → Int) (l : Nat → Nat) (w : Nat → Int) (c : Nat) : Rs K l 0 w c = w c := by
  show (0 : Int) + sg (0 + 0) * bord 0 K l w c 0 0 * 1 = w c
  have : bord 0 K l w c 0 0 = w c := by unfold bord; rw [if_pos rfl, if_pos rfl]
  rw [this]
  show 0 + 1 * w c * 1 = w c
  omega
theorem dk_succ (K : Nat → Nat → Int) (l : Nat → Nat) (i : Nat) : Dk K l (i + 1) = Rs K l i (K i) (l i) := by
  refine det_congr fun a c ha hc => ?_
  unfold bord
  by_cases h1 : a = i
  · by_cases h2 : c = i
    · rw [if_pos h1, if_pos h2, h1, h2]
    · rw [if_pos h1, if_neg h2, h1]
  · by_cases h2 : c = i
    · rw [if_neg h1, if_pos h2, h2]
    · rw [if_neg h1, if_neg h2]
theorem rs_eq {K : Nat → Nat → Int} {l : Nat → Nat} {i : Nat} (hD : Dk K l i ≠ 0) (w : Nat → Int) : ∃ x : Nat → Int, (∀ c, Rs K l i w c = Dk K l i * w c - sumN i fun p => x p * K p c) ∧ ∀ j, j < i → Rs K l i w (l j) = 0 := by
  obtain ⟨x, hx⟩ := cramer (n := i) (fun a c => K a (l c)) (fun c => w (l c))
  have h := fun c => bord_det (r := i) (M := K) (b := l) (w := w) (x := x) (c := c) hx hD
  refine ⟨x, h, fun j hj => ?_⟩
  show det (i + 1) (bord i K l w (l j)) = 0
  rw [h]
  unfold resid
  rw [hx j hj]
  omega
theorem rs_bd {K : Nat → Nat → Int} {l : Nat → Nat} {i B : Nat} {w : Nat → Int} (hw : ∀ c, (w c).natAbs ≤ B) (hK : ∀ p c, p < i → (K p c).natAbs ≤ B) (c : Nat) : (Rs K l i w c).natAbs ≤ fac (i + 1) * B ^ (i + 1) :=
  det_bd fun a c ha hc => by
    unfold bord
    split
    · exact hw _
    · exact hK _ _ (by omega)
theorem rs_step {K : Nat → Nat → Int} {l : Nat → Nat} {i : Nat} (hD : Dk K l i ≠ 0) (hD' : Dk K l (i + 1) ≠ 0) (w : Nat → Int) (c : Nat) :
    Dk K l i * Rs K l (i + 1) w c = Rs K l i (K i) (l i) * Rs K l i w c - Rs K l i w (l i) * Rs K l i (K i) c := by
  obtain ⟨x', hx', zx'⟩ := rs_eq hD' w
  obtain ⟨x, hx, zx⟩ := rs_eq hD w
  obtain ⟨y, hy, zy⟩ := rs_eq hD (K i)
  have E : ∀ c, -(Dk K l i * Rs K l (i + 1) w c) + Rs K l i (K i) (l i) * Rs K l i w c - Rs K l i w (l i) * Rs K l i (K i) c = sumN (i + 1) fun p => (Dk K l i * x' p + -(Dk K l (i + 1)) * (if p < i then x p else 0) + - Rs K l i w (l i) * (if p < i then - y p else Dk K l i)) * K p c := fun c => by
    rw [comb3 (i + 1) K (Dk K l i) (-(Dk K l (i + 1))) (- Rs K l i w (l i)) x' (fun p => if p < i then x p else 0) (fun p => if p < i then - y p else Dk K l i) c, comb_ext i K x 0 c, comb_ext i K (fun p => - y p) (Dk K l i) c, hx' c, ← dk_succ]
    have : sumN i (fun p => - y p * K p c) = - sumN i fun p => y p * K p c := by
      rw [← sumN_neg]; exact sumN_congr fun p _ => Int.neg_mul ..
    rw [this, hy c]
    generalize hw : Rs K l i w (l i) = rw0
    rw [hx c]
    simp only [Int.mul_sub, Int.mul_add, Int.neg_mul, Int.mul_neg, Int.zero_mul, Int.add_zero]
    rw [Int.mul_left_comm (Dk K l (i + 1)) (Dk K l i)]
    omega
  have z := comb_uniq (n := i + 1) (M := K) (b := l) hD' (fun j hj => by
    rw [← E (l j), zx' j hj]
    rcases Nat.lt_or_ge j i with q | q
    · rw [zx j q, zy j q]; omega
    · have : j = i := by omega
      subst this
      rw [Int.mul_comm (Rs K l j w (l j))]; omega) c
  rw [← E c] at z
  omega
end Fc

set_option Elab.async false
set_option linter.all false
namespace Fc
/-! ### the rank by an elimination with primitive lines -/
/-- parallel at the places below L -/
def Par (L : Nat) (u v : Nat → Int) : Prop := ∃ a b : Int, a ≠ 0 ∧ b ≠ 0 ∧ ∀ c, c < L → a * u c = b * v c
def Prim (L : Nat) (u : Nat → Int) : Prop := ∀ a b : Int, (∀ c, c < L → b ∣ a * u c) → b ∣ a
def Dep (C : Nat → Nat → Int) (k L : Nat) : Prop := ∃ e : Nat → Int, (∃ j, j < k ∧ e j ≠ 0) ∧ ∀ c, c < L → sumN k (fun j => e j * C j c) = 0
def Indep (C : Nat → Nat → Int) (k L : Nat) : Prop := ∀ e : Nat → Int, (∀ c, c < L → sumN k (fun j => e j * C j c) = 0) → ∀ j, j < k → e j = 0
theorem dep_not {C : Nat → Nat → Int} {k L : Nat} (h : Dep C k L) : ¬ Indep C k L := fun i => by
  obtain ⟨e, ⟨j, hj, hz⟩, h⟩ := h
  exact hz (i e h j hj)
def upd {α : Type} (f : Nat → α) (r : Nat) (a : α) : Nat → α := fun i => if i = r then a else f i
theorem upd_self {α : Type} (f : Nat → α) (r : Nat) (a : α) : upd f r a r = a := if_pos rfl
theorem upd_ne {α : Type} {f : Nat → α} {r i : Nat} {a : α} (h : i ≠ r) : upd f r a i = f i := if_neg h
theorem dk_congr {K K' : Nat → Nat → Int} {l l' : Nat → Nat} {i : Nat} (hK : ∀ p, p < i → K p = K' p) (hl : ∀ p, p < i → l p = l' p) : Dk K l i = Dk K' l' i :=
  det_congr fun a c ha hc => by rw [hK a ha, hl c hc]
theorem rs_congr {K K' : Nat → Nat → Int} {l l' : Nat → Nat} {i : Nat} (hK : ∀ p, p < i → K p = K' p) (hl : ∀ p, p < i → l p = l' p) (w : Nat → Int) (c : Nat) : Rs K l i w c = Rs K' l' i w c :=
  det_congr fun a j ha hj => by
    unfold bord
    have e1 : (if a = i then w else K a) = (if a = i then w else K' a) := by
      by_cases h : a = i
      · rw [if_pos h, if_pos h]
      · rw [if_neg h, if_neg h, hK a (by omega)]
    have e2 : (if j = i then c else l j) = (if j = i then c else l' j) := by
      by_cases h : j = i
      · rw [if_pos h, if_pos h]
      · rw [if_neg h, if_neg h, hl j (by omega)]
    rw [e1, e2]
structure KInv (C : Nat → Nat → Int) (L B k r : Nat) (K : Nat → Nat → Int) (l : Nat → Nat) (V : Nat → Nat → Int) : Prop where
  rk : r ≤ k
  nz : ∀ i, i ≤ r → Dk K l i ≠ 0
  bd : ∀ p c, p < r → (K p c).natAbs ≤ B
  sp : ∀ p, p < r → ∃ e : Nat → Int, ∀ c, K p c = sumN k fun j => e j * C j c
  pr : ∀ p, p < r → Par L (V p) (Rs K l p (K p))
  ld : ∀ p, p < r → l p < L ∧ V p (l p) ≠ 0
  all : r = k → ∀ p, p < k → ∀ c, K p c = C p c
  dep : r < k → Dep C k L
  gen : ∀ j, j < k → ∃ (d : Int) (x : Nat → Int), d ≠ 0 ∧ ∀ c, c < L → d * C j c = sumN r fun p => x p * K p c
theorem kinv_zero (C : Nat → Nat → Int) (L B : Nat) (K : Nat → Nat → Int) (l : Nat → Nat) (V : Nat → Nat → Int) : KInv C L B 0 0 K l V where
  rk := Nat.le_refl _
  nz := fun i hi => by
    have : i = 0 := by omega
    subst this
    show (1 : Int) ≠ 0
    decide
  bd := fun p c h => by omega
  sp := fun p h => by omega
  pr := fun p h => by omega
  ld := fun p h => by omega
  all := fun _ p h => by omega
  dep := fun h => by omega
  gen := fun j h => by omega
theorem par_refl (L : Nat) (u : Nat → Int) : Par L u u := ⟨1, 1, by decide, by decide, fun _ _ => rfl⟩
theorem par_rs0 (L : Nat) (K : Nat → Nat → Int) (l : Nat → Nat) (w : Nat → Int) : Par L w (Rs K l 0 w) := ⟨1, 1, by decide, by decide, fun c _ => by rw [rs_zero]⟩
theorem par_step {C : Nat → Nat → Int} {L B k r i : Nat} {K : Nat → Nat → Int} {l : Nat → Nat} {V : Nat → Nat → Int} (I : KInv C L B k r K l V) (hi : i < r) {w u : Nat → Int} (h : Par L u (Rs K l i w)) : Par L (fun c => V i (l i) * u c - u (l i) * V i c) (Rs K l (i + 1) w) := by
  obtain ⟨a, b, ha, hb, e⟩ := h
  obtain ⟨a', b', ha', hb', e'⟩ := I.pr i hi
  obtain ⟨hl, hv⟩ := I.ld i hi
  have hD := I.nz i (by omega)
  have hD' := I.nz (i + 1) (by omega)
  refine ⟨a' * a, b' * b * Dk K l i, Int.mul_ne_zero ha' ha, Int.mul_ne_zero (Int.mul_ne_zero hb' hb) hD, fun c hc => ?_⟩
  have s := rs_step hD hD' w c
  have e1 := e c hc
  have e2 := e (l i) hl
  have e3 := e' c hc
  have e4 := e' (l i) hl
  have : a' * a * (V i (l i) * u c - u (l i) * V i c) = (a' * V i (l i)) * (a * u c) - (a * u (l i)) * (a' * V i c) := by
    rw [Int.mul_sub]
    congr 1
    · rw [Int.mul_assoc, Int.mul_assoc, Int.mul_left_comm a]
    · rw [Int.mul_comm a' a, Int.mul_assoc, Int.mul_assoc, Int.mul_left_comm a']
  rw [this, e1, e2, e3, e4, Int.mul_assoc (b' * b), s, Int.mul_sub]
  congr 1
  · rw [Int.mul_assoc, Int.mul_assoc, Int.mul_left_comm b]
  · rw [Int.mul_comm b' b, Int.mul_assoc, Int.mul_assoc, Int.mul_left_comm b']
theorem par_scale {L : Nat} {u z v : Nat → Int} {g : Int} (hg : g ≠ 0) (hz : ∀ c, c < L → z c = g * u c) (h : Par L z v) : Par L u v := by
  obtain ⟨a, b, ha, hb, e⟩ := h
  exact ⟨a * g, b, Int.mul_ne_zero ha hg, hb, fun c hc => by rw [Int.mul_assoc, ← hz c hc, e c hc]⟩
theorem prim_bd {L : Nat} {u v : Nat → Int} (hp : Prim L u) (h : Par L u v) (c : Nat) (hc : c < L) : (u c).natAbs ≤ (v c).natAbs := by
  obtain ⟨a, b, ha, hb, e⟩ := h
  obtain ⟨m, hm⟩ := hp a b fun c hc => ⟨v c, e c hc⟩
  have h1 := e c hc
  rw [hm, Int.mul_assoc] at h1
  have h2 := Int.eq_of_mul_eq_mul_left hb h1
  have hm0 : m ≠ 0 := fun z => ha (by rw [hm, z, Int.mul_zero])
  rw [← h2, Int.natAbs_mul]
  have : 1 ≤ m.natAbs := by omega
  calc (u c).natAbs = 1 * (u c).natAbs := (Nat.one_mul _).symm
    _ ≤ _ := Nat.mul_le_mul_right _ this
theorem par_zero {L : Nat} {u v : Nat → Int} (h : Par L u v) (hu : ∀ c, c < L → u c = 0) (c : Nat) (hc : c < L) : v c = 0 := by
  obtain ⟨a, b, ha, hb, e⟩ := h
  have := e c hc
  rw [hu c hc, Int.mul_zero] at this
  rcases Int.mul_eq_zero.mp this.symm with z | z
  · exact absurd z hb
  · exact z
theorem span_sum {C K : Nat → Nat → Int} {k : Nat} (x : Nat → Int) : ∀ r, (∀ p, p < r → ∃ e : Nat → Int, ∀ c, K p c = sumN k fun j => e j * C j c) → ∃ e : Nat → Int, ∀ c, sumN r (fun p => x p * K p c) = sumN k fun j => e j * C j c
  | 0, _ => ⟨fun _ => 0, fun c => by rw [sumN_zero fun i _ => Int.zero_mul _]; rfl⟩
  | r + 1, h => by
    obtain ⟨e, he⟩ := span_sum x r fun p hp => h p (by omega)
    obtain ⟨f, hf⟩ := h r (by omega)
    refine ⟨fun j => e j + x r * f j, fun c => ?_⟩
    show sumN r _ + x r * K r c = _
    rw [he, hf, ← sumN_mul, ← sumN_add]
    exact sumN_congr fun j _ => by rw [Int.add_mul, Int.mul_assoc]
theorem dep_mono {C : Nat → Nat → Int} {k L : Nat} (h : Dep C k L) : Dep C (k + 1) L := by
  obtain ⟨e, ⟨j, hj, hz⟩, h⟩ := h
  refine ⟨fun i => if i < k then e i else 0, ⟨j, by omega, by dsimp only; rw [if_pos hj]; exact hz⟩, fun c hc => ?_⟩
  show sumN k _ + (if k < k then e k else 0) * C k c = 0
  have e2 : sumN k (fun i => (if i < k then e i else 0) * C i c) = sumN k fun i => e i * C i c := sumN_congr fun i hi => by rw [if_pos hi]
  rw [if_neg (Nat.lt_irrefl _), Int.zero_mul, Int.add_zero]
  exact e2.trans (h c hc)
theorem span_mono {C : Nat → Nat → Int} {k : Nat} {u : Nat → Int} (h : ∃ e : Nat → Int, ∀ c, u c = sumN k fun j => e j * C j c) : ∃ e : Nat → Int, ∀ c, u c = sumN (k + 1) fun j => e j * C j c := by
  obtain ⟨e, h⟩ := h
  refine ⟨fun i => if i < k then e i else 0, fun c => ?_⟩
  show _ = sumN k _ + (if k < k then e k else 0) * C k c
  rw [if_neg (Nat.lt_irrefl _), Int.zero_mul, Int.add_zero, h c]
  exact sumN_congr fun i hi => by dsimp only; rw [if_pos hi]
theorem kinv_drop {C : Nat → Nat → Int} {L B k r : Nat} {K : Nat → Nat → Int} {l : Nat → Nat} {V : Nat → Nat → Int} (I : KInv C L B k r K l V) {u : Nat → Int} (h : Par L u (Rs K l r (C k))) (hu : ∀ c, c < L → u c = 0) : KInv C L B (k + 1) r K l V where
  rk := by have := I.rk; omega
  nz := I.nz
  bd := I.bd
  sp := fun p hp => span_mono (I.sp p hp)
  pr := I.pr
  ld := I.ld
  all := fun e => by have := I.rk; omega
  dep := fun _ => by
    have hD := I.nz r (Nat.le_refl _)
    obtain ⟨x, hx, _⟩ := rs_eq hD (C k)
    obtain ⟨e, he⟩ := span_sum x r I.sp
    refine ⟨fun j => if j < k then - e j else Dk K l r, ⟨k, by omega, by dsimp only; rw [if_neg (Nat.lt_irrefl _)]; exact hD⟩, fun c hc => ?_⟩
    have z := par_zero h hu c hc
    rw [hx, he] at z
    show sumN k _ + (if k < k then - e k else Dk K l r) * C k c = 0
    rw [if_neg (Nat.lt_irrefl _)]
    have : sumN k (fun j => (if j < k then - e j else Dk K l r) * C j c) = - sumN k fun j => e j * C j c := by
      rw [← sumN_neg]; exact sumN_congr fun j hj => by rw [if_pos hj, Int.neg_mul]
    rw [this]; omega
  gen := fun j hj => by
    rcases Nat.lt_or_ge j k with z | z
    · exact I.gen j z
    · have : j = k := by omega
      subst this
      have hD := I.nz r (Nat.le_refl _)
      obtain ⟨x, hx, _⟩ := rs_eq hD (C j)
      refine ⟨Dk K l r, x, hD, fun c hc => ?_⟩
      have z := par_zero h hu c hc
      rw [hx] at z
      omega
theorem kinv_keep {C : Nat → Nat → Int} {L B k r q : Nat} {K : Nat → Nat → Int} {l : Nat → Nat} {V : Nat → Nat → Int} (I : KInv C L B k r K l V) (hB : ∀ c, (C k c).natAbs ≤ B) {u : Nat → Int} (h : Par L u (Rs K l r (C k))) (hq : q < L) (hu : u q ≠ 0) : KInv C L B (k + 1) (r + 1) (upd K r (C k)) (upd l r q) (upd V r u) where
  rk := by have := I.rk; omega
  nz := fun i hi => by
    rcases Nat.lt_or_ge i (r + 1) with h1 | h1
    · rw [dk_congr (K' := K) (l' := l) (fun p hp => upd_ne (by omega)) fun p hp => upd_ne (by omega)]
      exact I.nz i (by omega)
    · have : i = r + 1 := by omega
      subst this
      rw [dk_succ, upd_self, upd_self, rs_congr (K' := K) (l' := l) (fun p hp => upd_ne (by omega)) fun p hp => upd_ne (by omega)]
      intro z
      obtain ⟨a, b, ha, hb, e⟩ := h
      have := e q hq
      rw [z, Int.mul_zero] at this
      rcases Int.mul_eq_zero.mp this with z | z
      · exact ha z
      · exact hu z
  bd := fun p c hp => by
    by_cases e : p = r
    · subst e; rw [upd_self]; exact hB c
    · rw [upd_ne e]; exact I.bd p c (by omega)
  sp := fun p hp => by
    by_cases e : p = r
    · subst e; rw [upd_self]
      refine ⟨fun j => if j = k then 1 else 0, fun c => ?_⟩
      show _ = sumN k _ + (if k = k then 1 else 0) * C k c
      rw [if_pos rfl, sumN_zero fun j hj => by dsimp only; rw [if_neg (by omega), Int.zero_mul]]; omega
    · rw [upd_ne e]; exact span_mono (I.sp p (by omega))
  pr := fun p hp => by
    by_cases e : p = r
    · subst e; rw [upd_self, upd_self]
      obtain ⟨a, b, ha, hb, e⟩ := h
      exact ⟨a, b, ha, hb, fun c hc => by rw [rs_congr (K' := K) (l' := l) (fun p hp => upd_ne (by omega)) fun p hp => upd_ne (by omega)]; exact e c hc⟩
    · rw [upd_ne e, upd_ne e]
      obtain ⟨a, b, ha, hb, e⟩ := I.pr p (by omega)
      exact ⟨a, b, ha, hb, fun c hc => by rw [rs_congr (K' := K) (l' := l) (fun p hp => upd_ne (by omega)) fun p hp => upd_ne (by omega)]; exact e c hc⟩
  ld := fun p hp => by
    by_cases e : p = r
    · subst e; rw [upd_self, upd_self]; exact ⟨hq, hu⟩
    · rw [upd_ne e, upd_ne e]; exact I.ld p (by omega)
  all := fun e p hp c => by
    by_cases h : p = r
    · have : r = k := by omega
      subst h this; rw [upd_self]
    · rw [upd_ne h]; exact I.all (by omega) p (by omega) c
  dep := fun h => dep_mono (I.dep (by omega))
  gen := fun j hj => by
    rcases Nat.lt_or_ge j k with z | z
    · obtain ⟨d, x, hd, hx⟩ := I.gen j z
      refine ⟨d, fun p => if p < r then x p else 0, hd, fun c hc => ?_⟩
      have e : sumN (r + 1) (fun p => (if p < r then x p else 0) * upd K r (C k) p c) = sumN r fun p => x p * K p c := by
        show sumN r _ + (if r < r then x r else 0) * _ = _
        rw [if_neg (Nat.lt_irrefl _), Int.zero_mul, Int.add_zero]
        exact sumN_congr fun p hp => by rw [if_pos hp, upd_ne (by omega)]
      rw [e]; exact hx c hc
    · have : j = k := by omega
      subst this
      refine ⟨1, fun p => if p = r then 1 else 0, by decide, fun c hc => ?_⟩
      show _ = sumN r _ + (if r = r then 1 else 0) * upd K r (C j) r c
      rw [if_pos rfl, upd_self, sumN_zero fun p hp => by dsimp only; rw [if_neg (by omega), Int.zero_mul]]
      omega
theorem kinv_indep {C : Nat → Nat → Int} {L B k : Nat} {K : Nat → Nat → Int} {l : Nat → Nat} {V : Nat → Nat → Int} (I : KInv C L B k k K l V) : Indep C k L := fun e h => by
  refine det_uniq (A := fun i c => K i (l c)) (I.nz k (Nat.le_refl _)) fun j hj => ?_
  rw [← h (l j) (I.ld j hj).1]
  exact sumN_congr fun i hi => by rw [I.all rfl i hi]
end Fc

set_option Elab.async false
set_option linter.all false
namespace Fc
/-! ### the elimination of columns: the state of its loop -/
structure EA where
  r : Nat
  b : Nat → Nat
  t : Nat → Nat → Int
  M : Nat → Nat → Int
  D : Int
structure EI (C : Nat → Nat → Int) (h i : Nat) (a : EA) : Prop where
  inv : BInv h a.r a.M a.t a.b a.D
  rh : a.r ≤ h
  ri : a.r ≤ i
  asc : ∀ p q, p < q → q < a.r → a.b p < a.b q
  bi : ∀ p, p < a.r → a.b p < i
  zero : ∀ q, a.r ≤ q → q < h → ∀ j, j < i → a.t q j = 0
  cov : ∀ l, l < h → ∃ q, q < h ∧ ∀ j, a.M q j = C j l
  src : ∀ q, q < h → ∃ l, l < h ∧ ∀ j, a.M q j = C j l
theorem ei_zero (C : Nat → Nat → Int) (h : Nat) (b : Nat → Nat) : EI C h 0 ⟨0, b, fun q j => C j q, fun q j => C j q, 1⟩ where
  inv := binv_zero _ _
  rh := Nat.zero_le _
  ri := Nat.zero_le _
  asc := fun p q _ h => by simp at h
  bi := fun p h => by simp at h
  zero := fun q _ _ j h => by omega
  cov := fun l hl => ⟨l, hl, fun _ => rfl⟩
  src := fun l hl => ⟨l, hl, fun _ => rfl⟩
theorem ei_skip {C : Nat → Nat → Int} {h i : Nat} {a : EA} (I : EI C h i a) (hz : ∀ q, a.r ≤ q → q < h → a.t q i = 0) : EI C h (i + 1) a where
  inv := I.inv
  rh := I.rh
  ri := by have := I.ri; omega
  asc := I.asc
  bi := fun p hp => by have := I.bi p hp; omega
  zero := fun q h1 h2 j hj => by
    rcases Nat.lt_or_ge j i with z | z
    · exact I.zero q h1 h2 j z
    · have : j = i := by omega
      rw [this]; exact hz q h1 h2
  cov := I.cov
  src := I.src
/-- two rows exchanged -/
def swp (t : Nat → Nat → Int) (r q : Nat) : Nat → Nat → Int := fun j => if j = q then t r else if j = r then t q else t j
theorem swp_of {t : Nat → Nat → Int} {r q : Nat} (j : Nat) : ∃ k, swp t r q j = t k ∧ ((j = q ∧ k = r) ∨ (j = r ∧ k = q) ∨ (j ≠ q ∧ j ≠ r ∧ k = j)) := by
  unfold swp
  by_cases h1 : j = q
  · exact ⟨r, by rw [if_pos h1], .inl ⟨h1, rfl⟩⟩
  · by_cases h2 : j = r
    · exact ⟨q, by rw [if_neg h1, if_pos h2], .inr (.inl ⟨h2, rfl⟩)⟩
    · exact ⟨j, by rw [if_neg h1, if_neg h2], .inr (.inr ⟨h1, h2, rfl⟩)⟩
theorem swp_lt {t : Nat → Nat → Int} {r q j : Nat} (h1 : j < r) (h2 : r ≤ q) : swp t r q j = t j := by
  unfold swp; rw [if_neg (by omega), if_neg (by omega)]
theorem swp_both (t M : Nat → Nat → Int) (r q j : Nat) : ∃ k, swp t r q j = t k ∧ swp M r q j = M k ∧ ((j = q ∧ k = r) ∨ (j = r ∧ k = q) ∨ (j ≠ q ∧ j ≠ r ∧ k = j)) := by
  unfold swp
  by_cases h1 : j = q
  · exact ⟨r, by rw [if_pos h1], by rw [if_pos h1], .inl ⟨h1, rfl⟩⟩
  · by_cases h2 : j = r
    · exact ⟨q, by rw [if_neg h1, if_pos h2], by rw [if_neg h1, if_pos h2], .inr (.inl ⟨h2, rfl⟩)⟩
    · exact ⟨j, by rw [if_neg h1, if_neg h2], by rw [if_neg h1, if_neg h2], .inr (.inr ⟨h1, h2, rfl⟩)⟩
theorem binv_swp {h r q : Nat} {M t : Nat → Nat → Int} {b : Nat → Nat} {D : Int} (I : BInv h r M t b D) (h1 : r ≤ q) (h2 : q < h) : BInv h r (swp M r q) (swp t r q) b D where
  det := by
    rw [I.det]
    exact det_congr fun i j hi _ => by rw [swp_lt hi h1]
  nz := I.nz
  top := fun p hp => by
    obtain ⟨x, hx, hb⟩ := I.top p hp
    refine ⟨x, fun j => ?_, fun j hj => by rw [swp_lt hp h1]; exact hb j hj⟩
    rw [swp_lt hp h1, hx]
    exact sumN_congr fun i hi => by rw [swp_lt hi h1]
  low := fun p hp1 hp2 => by
    obtain ⟨k, e1, e2, hk⟩ := swp_both t M r q p
    have hk1 : r ≤ k ∧ k < h := by rcases hk with ⟨a, b⟩ | ⟨a, b⟩ | ⟨a, a', b⟩ <;> omega
    obtain ⟨x, hx, hb⟩ := I.low k hk1.1 hk1.2
    refine ⟨x, fun j => ?_, fun j hj => by rw [e1]; exact hb j hj⟩
    rw [e1, e2, hx]
    unfold resid
    have : sumN r (fun i => x i * swp M r q i j) = sumN r fun i => x i * M i j := sumN_congr fun i hi => by rw [swp_lt hi h1]
    rw [this]
theorem ei_piv {C : Nat → Nat → Int} {h i q : Nat} {a : EA} (I : EI C h i a) (h1 : a.r ≤ q) (h2 : q < h) (hp : a.t q i ≠ 0) :
    ∃ t' : Nat → Nat → Int, (∀ j, t' a.r j = a.t q j) ∧ (∀ p, p < h → p ≠ a.r → ∀ j, a.t q i * swp a.t a.r q p j - swp a.t a.r q p i * a.t q j = a.D * t' p j) ∧ EI C h (i + 1) ⟨a.r + 1, bSet a.b a.r i, t', swp a.M a.r q, a.t q i⟩ := by
  have I' := binv_swp I.inv h1 h2
  have er : swp a.t a.r q a.r = a.t q := by
    unfold swp
    by_cases e : a.r = q
    · rw [if_pos e, e]
    · rw [if_neg e, if_pos rfl]
  obtain ⟨t', hr, hs, IB⟩ := binv_step (c := i) I' (by omega) (by rw [er]; exact hp)
  rw [er] at hr hs IB
  refine ⟨t', hr, fun p hp1 hp2 j => (hs p hp1 hp2 j).symm, IB, by show a.r + 1 ≤ h; omega, by have := I.ri; show a.r + 1 ≤ i + 1; omega, fun p p' hlt hp' => ?_, fun p hp' => ?_, fun p hp1 hp2 j hj => ?_, fun l hl => ?_, fun p hp' => ?_⟩
  · show bSet a.b a.r i p < bSet a.b a.r i p'
    have hp' : p' < a.r + 1 := hp'
    unfold bSet
    rw [if_neg (by omega)]
    by_cases e : p' = a.r
    · rw [if_pos e]; exact I.bi p (by omega)
    · rw [if_neg e]; exact I.asc p p' hlt (by omega)
  · show bSet a.b a.r i p < i + 1
    have hp' : p < a.r + 1 := hp'
    unfold bSet
    by_cases e : p = a.r
    · rw [if_pos e]; omega
    · rw [if_neg e]; have := I.bi p (by omega); omega
  · show t' p j = 0
    have hp1 : a.r + 1 ≤ p := hp1
    rcases Nat.lt_or_ge j i with z | z
    · have e := hs p hp2 (by omega) j
      have z1 : swp a.t a.r q p j = 0 := by
        obtain ⟨k, e1, hk⟩ := swp_of (t := a.t) (r := a.r) (q := q) p
        rw [e1]
        exact I.zero k (by rcases hk with ⟨a, b⟩ | ⟨a, b⟩ | ⟨a, a', b⟩ <;> omega) (by rcases hk with ⟨a, b⟩ | ⟨a, b⟩ | ⟨a, a', b⟩ <;> omega) j z
      have z2 : a.t q j = 0 := I.zero q h1 h2 j z
      rw [z1, z2, Int.mul_zero, Int.mul_zero] at e
      rcases Int.mul_eq_zero.mp (e.trans (by omega) : a.D * t' p j = 0) with y | y
      · exact absurd y I.inv.nz
      · exact y
    · have : j = i := by omega
      subst this
      obtain ⟨x, _, hb⟩ := IB.low p (by omega) hp2
      have := hb a.r (by omega)
      have e : bSet a.b a.r j a.r = j := by unfold bSet; rw [if_pos rfl]
      rw [e] at this
      exact this
  · obtain ⟨p, hp1, hp2⟩ := I.cov l hl
    by_cases e1 : p = q
    · refine ⟨a.r, by omega, fun j => ?_⟩
      show swp a.M a.r q a.r j = _
      unfold swp
      by_cases e : a.r = q
      · rw [if_pos e, e, ← e1]; exact hp2 j
      · rw [if_neg e, if_pos rfl, ← e1]; exact hp2 j
    · by_cases e2 : p = a.r
      · refine ⟨q, h2, fun j => ?_⟩
        show swp a.M a.r q q j = _
        unfold swp
        rw [if_pos rfl, ← e2]; exact hp2 j
      · refine ⟨p, hp1, fun j => ?_⟩
        show swp a.M a.r q p j = _
        unfold swp
        rw [if_neg e1, if_neg e2]; exact hp2 j
  · obtain ⟨k, e1, hk⟩ := swp_of (t := a.M) (r := a.r) (q := q) p
    obtain ⟨l, hl, hl2⟩ := I.src k (by have := hp'; rcases hk with ⟨a, b⟩ | ⟨a, b⟩ | ⟨a, a', b⟩ <;> omega)
    exact ⟨l, hl, fun j => by show swp a.M a.r q p j = _; rw [e1]; exact hl2 j⟩
/-- numbers of the table, bounded -/
theorem ei_bd {C : Nat → Nat → Int} {h i B : Nat} {a : EA} (I : EI C h i a) (hB : ∀ j l, (C j l).natAbs ≤ B) (h1 : 1 ≤ B) (q j : Nat) (hq : q < h) : (a.t q j).natAbs ≤ fac (a.r + 1) * B ^ (a.r + 1) := by
  have hM : ∀ q j, q < h → (a.M q j).natAbs ≤ B := fun q j hq => by
    obtain ⟨l, _, e⟩ := I.src q hq
    rw [e]; exact hB _ _
  rcases Nat.lt_or_ge q a.r with z | z
  · refine Nat.le_trans (top_bd I.inv z I.rh h1 hM) ?_
    show _ ≤ (a.r + 1) * fac a.r * (B ^ a.r * B)
    have : (a.r + 1) * fac a.r * (B ^ a.r * B) = (a.r + 1) * (fac a.r * B ^ a.r * B) := by
      rw [Nat.mul_assoc, ← Nat.mul_assoc (fac a.r)]
    rw [this]
    exact Nat.mul_le_mul_right _ (by omega)
  · exact low_bd I.inv z hq hM
theorem ei_bdD {C : Nat → Nat → Int} {h i B : Nat} {a : EA} (I : EI C h i a) (hB : ∀ j l, (C j l).natAbs ≤ B) : a.D.natAbs ≤ fac a.r * B ^ a.r := by
  rw [I.inv.det]
  refine det_bd fun q j hq _ => ?_
  obtain ⟨l, _, e⟩ := I.src q (by have := I.rh; omega)
  rw [e]; exact hB _ _
/-- a column as a sum of multiples of the columns of the basis -/
theorem ei_rel {C : Nat → Nat → Int} {h m : Nat} {a : EA} (I : EI C h m a) {j : Nat} (hj : j < m) (l : Nat) (hl : l < h) : a.D * C j l = sumN a.r fun i => a.t i j * C (a.b i) l := by
  obtain ⟨q, hq, e⟩ := I.cov l hl
  have := binv_rel I.inv hq j
  rw [e] at this
  rw [this]
  have z : (if q < a.r then 0 else a.t q j) = 0 := by
    by_cases c : q < a.r
    · rw [if_pos c]
    · rw [if_neg c]; exact I.zero q (by omega) hq j hj
  rw [z, Int.add_zero]
  exact sumN_congr fun i _ => by rw [e]
/-- if all columns are in the basis, they are independent -/
theorem ei_indep {C : Nat → Nat → Int} {h m : Nat} {a : EA} (I : EI C h m a) (hall : ∀ j, j < m → ∃ p, p < a.r ∧ a.b p = j) : Indep C m h := fun e he j hj => by
  obtain ⟨p, hp, hb⟩ := hall j hj
  obtain ⟨x, hx, ht⟩ := I.inv.top p hp
  have z : sumN m (fun k => e k * a.t p k) = 0 := by
    have e1 : sumN m (fun k => e k * a.t p k) = sumN a.r fun i => x i * sumN m fun k => e k * a.M i k := by
      have : sumN m (fun k => e k * a.t p k) = sumN m fun k => sumN a.r fun i => x i * (e k * a.M i k) := sumN_congr fun k _ => by
        rw [hx k, ← sumN_mul]
        exact sumN_congr fun i _ => Int.mul_left_comm ..
      rw [this, sumN_swap]
      exact sumN_congr fun i _ => sumN_mul ..
    rw [e1]
    refine sumN_zero fun i hi => ?_
    obtain ⟨l, hl, eM⟩ := I.src i (by have := I.rh; omega)
    have : sumN m (fun k => e k * a.M i k) = 0 := by
      rw [← he l hl]
      exact sumN_congr fun k _ => by rw [eM]
    rw [this, Int.mul_zero]
  have one : ∀ k, k < m → e k * a.t p k = if k = j then a.D * e j else 0 := fun k hk => by
    obtain ⟨p', hp', hb'⟩ := hall k hk
    have := ht p' hp'
    rw [hb'] at this
    rw [this]
    by_cases c : k = j
    · rw [if_pos c]
      have : p' = p := by
        rcases Nat.lt_or_ge p' p with y | y
        · have := I.asc p' p y hp; omega
        · rcases Nat.lt_or_ge p p' with y' | y'
          · have := I.asc p p' y' hp'; omega
          · omega
      rw [if_pos this, c, Int.mul_comm]
    · rw [if_neg c]
      have : p' ≠ p := fun z => c (by rw [← hb', ← hb, z])
      rw [if_neg this, Int.mul_zero]
  have s : ∀ k, k ≤ m → sumN k (fun k => e k * a.t p k) = if j < k then a.D * e j else 0 := by
    intro k
    induction k with
    | zero => intro _; rfl
    | succ k ih =>
      intro hk
      show sumN k _ + e k * a.t p k = _
      rw [ih (by omega), one k (by omega)]
      by_cases c : k = j
      · subst c; rw [if_pos rfl, if_neg (by omega), if_pos (by omega)]; omega
      · rw [if_neg c, Int.add_zero]
        by_cases y : j < k
        · rw [if_pos y, if_pos (by omega)]
        · rw [if_neg y, if_neg (by omega)]
  rw [s m (Nat.le_refl _), if_pos hj] at z
  rcases Int.mul_eq_zero.mp z with y | y
  · exact absurd y I.inv.nz
  · exact y
end Fc

set_option Elab.async false
set_option linter.all false
namespace Fc
/-! ### more vectors than unknowns -/
theorem fund : ∀ (r n : Nat) (x : Nat → Nat → Int), r < n → ∃ e : Nat → Int, (∃ i, i < n ∧ e i ≠ 0) ∧ ∀ p, p < r → sumN n (fun i => e i * x i p) = 0
  | 0, n, x, h => ⟨fun i => if i = 0 then 1 else 0, ⟨0, h, by decide⟩, fun p hp => by omega⟩
  | r + 1, n, x, h => by
    by_cases hc : ∃ i, i < n ∧ x i r ≠ 0
    · obtain ⟨i0, h0, hz⟩ := hc
      obtain ⟨n', rfl⟩ : ∃ n', n = n' + 1 := ⟨n - 1, by omega⟩
      obtain ⟨f, ⟨k, hk, hfk⟩, hf⟩ := fund r n' (fun k p => x i0 r * x (del i0 k) p - x (del i0 k) r * x i0 p) (by omega)
      -- the inverse of del
      let un : Nat → Nat := fun i => if i < i0 then i else i - 1
      have hun : ∀ k, un (del i0 k) = k := fun k => by
        show (if del i0 k < i0 then del i0 k else del i0 k - 1) = k
        unfold del
        by_cases h : k < i0
        · rw [if_pos h, if_pos h]
        · rw [if_neg h, if_neg (by omega)]; omega
      let S := sumN n' fun k => f k * x (del i0 k) r
      let e : Nat → Int := fun i => if i = i0 then - S else x i0 r * f (un i)
      have ed : ∀ k, e (del i0 k) = x i0 r * f k := fun k => by
        show (if del i0 k = i0 then - S else x i0 r * f (un (del i0 k))) = _
        rw [if_neg del_ne, hun]
      have e0 : e i0 = - S := if_pos rfl
      refine ⟨e, ⟨del i0 k, del_lt h0 hk, by rw [ed]; exact Int.mul_ne_zero hz hfk⟩, fun p hp => ?_⟩
      have h1 := sumN_del (n := n') (fun i => e i * x i p) h0
      rw [← h1, e0]
      have h2 : sumN n' (fun k => e (del i0 k) * x (del i0 k) p) = x i0 r * sumN n' fun k => f k * x (del i0 k) p := by
        rw [← sumN_mul]
        exact sumN_congr fun k _ => by rw [ed, Int.mul_assoc]
      rw [h2]
      rcases Nat.lt_or_ge p r with z | z
      · have h3 := hf p z
        have h4 : sumN n' (fun k => f k * (x i0 r * x (del i0 k) p - x (del i0 k) r * x i0 p)) = x i0 r * (sumN n' fun k => f k * x (del i0 k) p) + - (S * x i0 p) := by
          have : sumN n' (fun k => f k * (x i0 r * x (del i0 k) p - x (del i0 k) r * x i0 p)) = sumN n' (fun k => x i0 r * (f k * x (del i0 k) p)) + sumN n' (fun k => - (x i0 p * (f k * x (del i0 k) r))) := by
            rw [← sumN_add]
            exact sumN_congr fun k _ => by
              rw [Int.mul_sub, Int.mul_left_comm, Int.mul_comm (x (del i0 k) r), Int.mul_left_comm (f k) (x i0 p)]; omega
          rw [this, sumN_mul, sumN_neg, sumN_mul, Int.mul_comm (x i0 p)]
        rw [h4] at h3
        rw [Int.neg_mul]; exact h3
      · have : p = r := by omega
        subst this
        show x i0 p * S + - S * x i0 p = 0
        rw [Int.neg_mul, Int.mul_comm]; omega
    · obtain ⟨e, he, h2⟩ := fund r n x (by omega)
      refine ⟨e, he, fun p hp => ?_⟩
      rcases Nat.lt_or_ge p r with z | z
      · exact h2 p z
      · have : p = r := by omega
        subst this
        refine sumN_zero fun i hi => ?_
        have : x i p = 0 := Classical.byContradiction fun h => hc ⟨i, hi, h⟩
        rw [this, Int.mul_zero]
/-- independent vectors -/
def Ind (u : Nat → Nat → Int) (n L : Nat) : Prop := Indep u n L
/-- each u is a sum of multiples of the v -/
def Gen (u v : Nat → Nat → Int) (n r L : Nat) : Prop := ∀ i, i < n → ∃ (d : Int) (x : Nat → Int), d ≠ 0 ∧ ∀ c, c < L → d * u i c = sumN r fun p => x p * v p c
theorem steinitz {u v : Nat → Nat → Int} {n r L : Nat} (hi : Indep u n L) (hg : Gen u v n r L) : n ≤ r := by
  rcases Nat.lt_or_ge r n with z | z
  · exfalso
    have hg' : ∀ i, ∃ (d : Int) (x : Nat → Int), i < n → d ≠ 0 ∧ ∀ c, c < L → d * u i c = sumN r fun p => x p * v p c := fun i => by
      by_cases hi : i < n
      · obtain ⟨d, x, h⟩ := hg i hi
        exact ⟨d, x, fun _ => h⟩
      · exact ⟨0, fun _ => 0, fun h => absurd h hi⟩
    let d := fun i => Classical.choose (hg' i)
    let x := fun i => Classical.choose (Classical.choose_spec (hg' i))
    have hdx : ∀ i, i < n → d i ≠ 0 ∧ ∀ c, c < L → d i * u i c = sumN r fun p => x i p * v p c := fun i => Classical.choose_spec (Classical.choose_spec (hg' i))
    obtain ⟨e, ⟨k, hk, hek⟩, he⟩ := fund r n x z
    have := hi (fun i => e i * d i) (fun c hc => by
      have h1 : sumN n (fun i => e i * d i * u i c) = sumN n fun i => sumN r fun p => v p c * (e i * x i p) := sumN_congr fun i hi => by
        rw [Int.mul_assoc, (hdx i hi).2 c hc, ← sumN_mul]
        exact sumN_congr fun p _ => by rw [← Int.mul_assoc, Int.mul_comm]
      rw [h1, sumN_swap]
      refine sumN_zero fun p hp => ?_
      rw [sumN_mul, he p hp, Int.mul_zero]) k hk
    rcases Int.mul_eq_zero.mp this with y | y
    · exact hek y
    · exact (hdx k hk).1 y
  · exact z
/-- the kept lines are independent -/
theorem kinv_ind {C : Nat → Nat → Int} {L B k r : Nat} {K : Nat → Nat → Int} {l : Nat → Nat} {V : Nat → Nat → Int} (I : KInv C L B k r K l V) : Indep K r L := fun e h => by
  refine det_uniq (A := fun i c => K i (l c)) (I.nz r (Nat.le_refl _)) fun j hj => ?_
  exact h (l j) (I.ld j hj).1
/-! ### columns -/
theorem setC_self (A : Nat → Nat → Int) (p : Nat) : setC A p (fun i => A i p) = A := by
  funext i j
  unfold setC
  by_cases h : j = p
  · rw [if_pos h, h]
  · rw [if_neg h]
theorem det_zero_col {n : Nat} {A : Nat → Nat → Int} {p : Nat} (hp : p < n) : det n (setC A p fun _ => 0) = 0 := by
  have := det_linC (n := n) (A := A) (p := p) (fun _ => 0) (fun _ => 0) 1 (-1) hp
  have e : (fun _ : Nat => (1 : Int) * 0 + -1 * 0) = fun _ => 0 := rfl
  rw [e] at this
  omega
theorem det_sumC {n : Nat} {A : Nat → Nat → Int} {p : Nat} (hp : p < n) (x : Nat → Int) (u : Nat → Nat → Int) : ∀ m : Nat, det n (setC A p fun i => sumN m fun q => x q * u q i) = sumN m fun q => x q * det n (setC A p (u q))
  | 0 => det_zero_col hp
  | m + 1 => by
    have h := det_linC (n := n) (A := A) (p := p) (fun i => sumN m fun q => x q * u q i) (u m) 1 (x m) hp
    have e : (fun i => 1 * (sumN m fun q => x q * u q i) + x m * u m i) = fun i => sumN (m + 1) fun q => x q * u q i := funext fun i => by
      rw [Int.one_mul]; rfl
    rw [e, det_sumC hp x u m, Int.one_mul] at h
    exact h
/-! ### a basis whose columns are exchanged -/
structure TInv (r : Nat) (M t : Nat → Nat → Int) (b : Nat → Nat) (D : Int) : Prop where
  det : D = Fc.det r (fun i j => M i (b j))
  nz : D ≠ 0
  top : ∀ q, q < r → ∃ x : Nat → Int, (∀ j, t q j = sumN r fun i => x i * M i j) ∧ ∀ j, j < r → t q (b j) = if j = q then D else 0
theorem TInv.toB {r : Nat} {M t : Nat → Nat → Int} {b : Nat → Nat} {D : Int} (I : TInv r M t b D) : BInv r r M t b D := ⟨I.det, I.nz, I.top, fun q h1 h2 => by omega⟩
theorem BInv.toT {h r : Nat} {M t : Nat → Nat → Int} {b : Nat → Nat} {D : Int} (I : BInv h r M t b D) : TInv r M t b D := ⟨I.det, I.nz, I.top⟩
theorem tinv_rel {r : Nat} {M t : Nat → Nat → Int} {b : Nat → Nat} {D : Int} (I : TInv r M t b D) {i : Nat} (hi : i < r) (j : Nat) : D * M i j = sumN r fun q => t q j * M i (b q) := by
  have := binv_rel I.toB hi j
  rw [if_pos hi, Int.add_zero] at this
  exact this
theorem tinv_bset {r p c : Nat} {M t : Nat → Nat → Int} {b : Nat → Nat} {D : Int} (I : TInv r M t b D) (hp : p < r) : Fc.det r (fun i j => M i (bSet b p c j)) = t p c := by
  have e1 : (fun i j => M i (bSet b p c j)) = setC (fun i j => M i (b j)) p fun i => M i c := by
    funext i j
    unfold bSet setC
    by_cases h : j = p
    · rw [if_pos h, if_pos h]
    · rw [if_neg h, if_neg h]
  -- D times the column
  have h1 : Fc.det r (setC (fun i j => M i (b j)) p fun i => sumN r fun q => t q c * M i (b q)) = sumN r fun q => t q c * Fc.det r (setC (fun i j => M i (b j)) p fun i => M i (b q)) := det_sumC hp (fun q => t q c) (fun q i => M i (b q)) r
  have h2 : Fc.det r (setC (fun i j => M i (b j)) p fun i => sumN r fun q => t q c * M i (b q)) = D * Fc.det r (setC (fun i j => M i (b j)) p fun i => M i c) := by
    have := det_linC (n := r) (A := fun i j => M i (b j)) (p := p) (fun i => M i c) (fun _ => 0) D 0 hp
    simp only [Int.zero_mul, Int.add_zero, Int.mul_zero] at this
    rw [← this]
    refine det_congr fun i j hi hj => ?_
    unfold setC
    by_cases h : j = p
    · rw [if_pos h, if_pos h]; exact (tinv_rel I hi c).symm
    · rw [if_neg h, if_neg h]
  have h3 : ∀ m, m ≤ r → sumN m (fun q => t q c * Fc.det r (setC (fun i j => M i (b j)) p fun i => M i (b q))) = if p < m then t p c * D else 0 := by
    intro m
    induction m with
    | zero => intro _; rfl
    | succ m ih =>
      intro hm
      show sumN m _ + t m c * _ = _
      rw [ih (by omega)]
      by_cases z : m = p
      · subst z
        have : setC (fun i j => M i (b j)) m (fun i => M i (b m)) = fun i j => M i (b j) := setC_self (fun i j => M i (b j)) m
        rw [if_neg (by omega), if_pos (by omega), this, ← I.det]; omega
      · have alt : Fc.det r (setC (fun i j => M i (b j)) p fun i => M i (b m)) = 0 := by
          rcases Nat.lt_or_ge m p with y | y
          · refine det_altC (c := m) (d := p) y hp fun i _ => ?_
            unfold setC; rw [if_neg z, if_pos rfl]
          · refine det_altC (c := p) (d := m) (by omega) (by omega) fun i _ => ?_
            unfold setC; rw [if_pos rfl, if_neg z]
        rw [alt, Int.mul_zero, Int.add_zero]
        by_cases a : p < m
        · rw [if_pos a, if_pos (by omega)]
        · rw [if_neg a, if_neg (by omega)]
  have h4 := h3 r (Nat.le_refl _)
  rw [if_pos hp] at h4
  rw [h2, h4, ← e1] at h1
  have : D * (Fc.det r (fun i j => M i (bSet b p c j)) - t p c) = 0 := by
    rw [Int.mul_sub, h1, Int.mul_comm D]; omega
  rcases Int.mul_eq_zero.mp this with y | y
  · exact absurd y I.nz
  · omega
theorem tinv_exch {r p c : Nat} {M t : Nat → Nat → Int} {b : Nat → Nat} {D : Int} (I : TInv r M t b D) (hp : p < r) (hc : t p c ≠ 0) :
    ∃ t' : Nat → Nat → Int, (∀ j, t' p j = t p j) ∧ (∀ q, q < r → q ≠ p → ∀ j, t p c * t q j - t q c * t p j = D * t' q j) ∧ TInv r M t' (bSet b p c) (t p c) := by
  have hd := tinv_bset (c := c) I hp
  have hnz : Fc.det r (fun i j => M i (bSet b p c j)) ≠ 0 := by rw [hd]; exact hc
  have topx : ∀ q, ∃ x : Nat → Int, ∀ j, j < r → sumN r (fun i => x i * M i (bSet b p c j)) = if j = q then t p c else 0 := fun q => by
    obtain ⟨x, hx⟩ := cramer (n := r) (fun i j => M i (bSet b p c j)) (fun j => if j = q then 1 else 0)
    refine ⟨x, fun j hj => ?_⟩
    rw [hx j hj, hd]
    split <;> simp
  let tx := fun q => Classical.choose (topx q)
  have htx := fun q => Classical.choose_spec (topx q)
  let t' : Nat → Nat → Int := fun q j => if q = p then t p j else sumN r fun i => tx q i * M i j
  have tp : ∀ j, t' p j = t p j := fun j => if_pos rfl
  have tq : ∀ q, q ≠ p → ∀ j, t' q j = sumN r fun i => tx q i * M i j := fun q hq j => if_neg hq
  have bp : bSet b p c p = c := if_pos rfl
  have bn : ∀ j, j ≠ p → bSet b p c j = b j := fun j hj => if_neg hj
  obtain ⟨y, hy, hyb⟩ := I.top p hp
  refine ⟨t', tp, fun q hq hqp j => ?_, hd.symm, hc, fun q hq => ?_⟩
  · obtain ⟨x, hx, hxb⟩ := I.top q hq
    have E : ∀ j, D * t' q j + -(t p c) * t q j + t q c * t p j = sumN r fun i => (D * tx q i + -(t p c) * x i + t q c * y i) * M i j := fun j => by
      rw [comb3 r M D (-(t p c)) (t q c) (tx q) x y j, ← hy, ← hx, ← tq q hqp]
    have z := comb_uniq (M := M) (b := bSet b p c) (e := fun i => D * tx q i + -(t p c) * x i + t q c * y i) hnz (fun j hj => by
      rw [← E, tq q hqp, htx q j hj]
      by_cases e : j = p
      · subst e
        rw [bp, if_neg (fun h => hqp h.symm), Int.neg_mul, Int.mul_comm (t q c)]; omega
      · rw [bn j e, hxb j hj, hyb j hj, if_neg e]
        by_cases e2 : j = q
        · rw [if_pos e2, if_pos e2, Int.neg_mul, Int.mul_comm D]; omega
        · rw [if_neg e2, if_neg e2]; omega) j
    have h1 := (E j).trans z
    rw [Int.neg_mul] at h1
    omega
  · by_cases e : q = p
    · subst e
      refine ⟨y, fun j => (tp j).trans (hy j), fun j hj => ?_⟩
      rw [tp]
      by_cases e2 : j = q
      · subst e2; rw [bp, if_pos rfl]
      · rw [bn j e2, hyb j hj, if_neg e2, if_neg e2]
    · exact ⟨tx q, tq q e, fun j hj => by rw [tq q e]; exact htx q j hj⟩
theorem tinv_bd {r q : Nat} {M t : Nat → Nat → Int} {b : Nat → Nat} {D : Int} {B : Nat} (I : TInv r M t b D) (h1 : q < r) (hB : 1 ≤ B) (hM : ∀ q j, q < r → (M q j).natAbs ≤ B) (j : Nat) : (t q j).natAbs ≤ r * (fac r * B ^ r * B) :=
  top_bd I.toB h1 (Nat.le_refl _) hB hM
theorem tinv_bdD {r : Nat} {M t : Nat → Nat → Int} {b : Nat → Nat} {D : Int} {B : Nat} (I : TInv r M t b D) (hM : ∀ q j, q < r → (M q j).natAbs ≤ B) : D.natAbs ≤ fac r * B ^ r := by
  rw [I.det]
  exact det_bd fun q j hq _ => hM _ _ hq
/-- the relation of each column with the basis, behind an exchange -/
theorem rel_exch {r p c m h : Nat} {C t t' : Nat → Nat → Int} {b : Nat → Nat} {D : Int} (hD : D ≠ 0) (hp : p < r) (hcm : c < m) (ht : ∀ j, t' p j = t p j) (he : ∀ q, q < r → q ≠ p → ∀ j, t p c * t q j - t q c * t p j = D * t' q j)
    (hr : ∀ j, j < m → ∀ l, l < h → D * C j l = sumN r fun q => t q j * C (b q) l) : ∀ j, j < m → ∀ l, l < h → t p c * C j l = sumN r fun q => t' q j * C (bSet b p c q) l := fun j hj l hl => by
  have h1 := hr j hj l hl
  have h2 := hr c hcm l hl
  -- D times the sum
  have key : ∀ n, n ≤ r → D * sumN n (fun q => t' q j * C (bSet b p c q) l) = t p c * sumN n (fun q => t q j * C (b q) l) - t p j * sumN n (fun q => t q c * C (b q) l) + (if p < n then D * (t p j * C c l) else 0) := by
    intro n
    induction n with
    | zero => intro _; show D * 0 = t p c * 0 - t p j * 0 + 0; simp
    | succ n ih =>
      intro hn
      show D * (sumN n _ + t' n j * C (bSet b p c n) l) = t p c * (sumN n _ + t n j * C (b n) l) - t p j * (sumN n _ + t n c * C (b n) l) + _
      rw [Int.mul_add, ih (by omega), Int.mul_add, Int.mul_add]
      by_cases e : n = p
      · subst e
        have : bSet b n c n = c := if_pos rfl
        rw [this, ht, if_neg (Nat.lt_irrefl _), if_pos (by omega)]
        have e3 : t n c * (t n j * C (b n) l) = t n j * (t n c * C (b n) l) := Int.mul_left_comm ..
        omega
      · have : bSet b p c n = b n := if_neg e
        rw [this, ← Int.mul_assoc D (t' n j) (C (b n) l), ← he n (by omega) e j, Int.sub_mul, Int.mul_assoc, Int.mul_assoc]
        have e3 : t n c * (t p j * C (b n) l) = t p j * (t n c * C (b n) l) := Int.mul_left_comm ..
        by_cases a : p < n
        · rw [if_pos a, if_pos (by omega)]; omega
        · rw [if_neg a, if_neg (by omega)]; omega
  have := key r (Nat.le_refl _)
  rw [if_pos hp, ← h1, ← h2] at this
  have e4 : t p j * (D * C c l) = D * (t p j * C c l) := Int.mul_left_comm ..
  have e5 : t p c * (D * C j l) = D * (t p c * C j l) := Int.mul_left_comm ..
  have e6 : D * (t p c * C j l - sumN r fun q => t' q j * C (bSet b p c q) l) = 0 := by rw [Int.mul_sub]; omega
  rcases Int.mul_eq_zero.mp e6 with y | y
  · exact absurd y hD
  · omega
end Fc

set_option Elab.async false
set_option linter.all false
namespace Fc
/-! ### the law's own solving: lines with other lines cleared, kept primitive -/
def KU (A : Nat → Nat → Int) (u : Nat → Nat) (p : Nat) : Nat → Int := A (u p)
def idn (c : Nat) : Nat := c
structure LS (A : Nat → Nat → Int) (z w N j : Nat) (u : Nat → Nat) (t : Nat → Nat → Int) : Prop where
  ud : ∀ p, p < j → u p < z
  inj : ∀ p q, p < j → q < j → u p = u q → p = q
  nz : ∀ i, i ≤ j → Dk (KU A u) idn i ≠ 0
  us : ∀ p, p < j → (∃ (d : Int) (x : Nat → Int), d ≠ 0 ∧ ∀ c, c < w → d * t (u p) c = sumN j fun q => x q * KU A u q c) ∧ t (u p) p ≠ 0 ∧ ∀ q, q < j → q ≠ p → t (u p) q = 0
  fr : ∀ k, k < z → (∀ p, p < j → u p ≠ k) → (∃ (d d' : Int) (x : Nat → Int), d ≠ 0 ∧ d' ≠ 0 ∧ ∀ c, c < w → d * t k c = d' * A k c - sumN j fun q => x q * KU A u q c) ∧ ∀ q, q < j → t k q = 0
  bd : ∀ k, k < z → ∀ c, c < w → (t k c).natAbs ≤ N
  sol : ∀ y : Nat → Int, (∀ k, k < z → sumN w (fun c => y c * A k c) = 0) → ∀ k, k < z → sumN w (fun c => y c * t k c) = 0
  ker : ∀ y : Nat → Int, (∀ k, k < z → sumN w (fun c => y c * t k c) = 0) → ∀ k, k < z → sumN w (fun c => y c * A k c) = 0
theorem ls_zero {A : Nat → Nat → Int} {z w N B : Nat} (u : Nat → Nat) (hB : ∀ k c, (A k c).natAbs ≤ B) (hN : B ≤ N) : LS A z w N 0 u A where
  ud := fun p h => by omega
  inj := fun p q h => by omega
  nz := fun i hi => by
    have : i = 0 := by omega
    subst this
    show (1 : Int) ≠ 0
    decide
  us := fun p h => by omega
  fr := fun k _ _ => ⟨⟨1, 1, fun _ => 0, by decide, by decide, fun c _ => by show 1 * A k c = 1 * A k c - 0; omega⟩, fun q h => by omega⟩
  bd := fun k _ c _ => Nat.le_trans (hB k c) hN
  sol := fun y h => h
  ker := fun y h => h
theorem sumN_sub (n : Nat) (f g : Nat → Int) : sumN n (fun i => f i - g i) = sumN n f - sumN n g := by
  have := sumN_add n f fun i => - g i
  rw [sumN_neg] at this
  rw [← Int.sub_eq_add_neg] at this
  rw [← this]
  exact sumN_congr fun i _ => Int.sub_eq_add_neg
/-- a combination of the pivot lines -/
theorem comb_lin {n : Nat} (a b : Int) (x y : Nat → Int) (K : Nat → Nat → Int) (c : Nat) : a * sumN n (fun q => x q * K q c) + b * sumN n (fun q => y q * K q c) = sumN n fun q => (a * x q + b * y q) * K q c := by
  rw [← sumN_mul, ← sumN_mul, ← sumN_add]
  exact sumN_congr fun q _ => by rw [Int.add_mul, Int.mul_assoc, Int.mul_assoc]
theorem LS.pivot {A : Nat → Nat → Int} {z w N j r : Nat} {u : Nat → Nat} {t : Nat → Nat → Int} (I : LS A z w N j u t) (hj : j < r) (hrw : r ≤ w) (hind : ∀ e : Nat → Int, (∀ k, k < z → sumN r (fun c => e c * A k c) = 0) → ∀ c, c < r → e c = 0) : ∃ f, f < z ∧ (∀ p, p < j → u p ≠ f) ∧ t f j ≠ 0 := by
  apply Classical.byContradiction
  intro hno
  have hz : ∀ k, k < z → (∀ p, p < j → u p ≠ k) → t k j = 0 := fun k h1 h2 => Classical.byContradiction fun h3 => hno ⟨k, h1, h2, h3⟩
  obtain ⟨e, ⟨i, hi, he⟩, h⟩ := fund j (j + 1) (fun i p => t (u p) i) (by omega)
  have ext : ∀ n, j + 1 ≤ n → ∀ F : Nat → Int, sumN n (fun c => (if c < j + 1 then e c else 0) * F c) = sumN (j + 1) fun c => e c * F c := by
    intro n hn F
    have : ∀ k, sumN (j + 1 + k) (fun c => (if c < j + 1 then e c else 0) * F c) = sumN (j + 1) fun c => e c * F c := by
      intro k
      induction k with
      | zero => exact sumN_congr fun c hc => by rw [if_pos hc]
      | succ k ih =>
        show sumN (j + 1 + k) _ + (if j + 1 + k < j + 1 then _ else 0) * _ = _
        rw [ih, if_neg (by omega), Int.zero_mul, Int.add_zero]
    have := this (n - (j + 1))
    rw [show j + 1 + (n - (j + 1)) = n by omega] at this
    exact this
  have hk := I.ker (fun c => if c < j + 1 then e c else 0) (fun k hk => by
    rw [ext w (by omega)]
    by_cases hu : ∃ p, p < j ∧ u p = k
    · obtain ⟨p, hp, rfl⟩ := hu
      exact h p hp
    · have hf : ∀ p, p < j → u p ≠ k := fun p hp e => hu ⟨p, hp, e⟩
      refine sumN_zero fun c hc => ?_
      have : t k c = 0 := by
        rcases Nat.lt_or_ge c j with y | y
        · exact (I.fr k hk hf).2 c y
        · have : c = j := by omega
          rw [this]; exact hz k hk hf
      rw [this, Int.mul_zero])
  have := hind (fun c => if c < j + 1 then e c else 0) (fun k hk' => by
    have h1 := hk k hk'
    rw [ext w (by omega)] at h1
    rw [ext r (by omega)]; exact h1) i (by omega)
  rw [if_pos hi] at this
  exact he this
theorem Dk.congrU {A : Nat → Nat → Int} {u u' : Nat → Nat} {i : Nat} (h : ∀ p, p < i → u p = u' p) : Dk (KU A u) idn i = Dk (KU A u') idn i :=
  dk_congr (fun p hp => by unfold KU; rw [h p hp]) fun _ _ => rfl
/-- parallel, by what stands at the pivots -/
theorem par_top {A : Nat → Nat → Int} {w j p B : Nat} {u : Nat → Nat} {v : Nat → Int} (hB : ∀ k c, (A k c).natAbs ≤ B) (h1 : 1 ≤ B) (hnz : Dk (KU A u) idn j ≠ 0) (hjw : j ≤ w) (hp : p < j) (hc : ∃ (d : Int) (x : Nat → Int), d ≠ 0 ∧ ∀ c, c < w → d * v c = sumN j fun q => x q * KU A u q c) (hvp : v p ≠ 0) (hvz : ∀ q, q < j → q ≠ p → v q = 0) :
    ∃ v' : Nat → Int, Par w v v' ∧ ∀ c, (v' c).natAbs ≤ fac (j + 1) * B ^ (j + 1) := by
  obtain ⟨d, x, hd, hx⟩ := hc
  obtain ⟨y, hy, hyb⟩ := cramer_bd (n := j) (fun a c => KU A u a (idn c)) (fun c => if c = p then 1 else 0) (B := B) (fun a c _ _ => hB _ _) (fun c _ => by split <;> simp <;> omega)
  refine ⟨fun c => sumN j fun q => y q * KU A u q c, ⟨d * Dk (KU A u) idn j, d * v p, Int.mul_ne_zero hd hnz, Int.mul_ne_zero hd hvp, fun c hc => ?_⟩, fun c => ?_⟩
  · show d * Dk (KU A u) idn j * v c = d * v p * sumN j fun q => y q * KU A u q c
    have z := comb_uniq (n := j) (M := KU A u) (b := idn) (e := fun q => Dk (KU A u) idn j * x q + -(d * v p) * y q) hnz (fun q hq => by
      rw [← comb_lin]
      have e1 := hx q (by omega)
      have e2 := hy q hq
      have e2 : sumN j (fun i => y i * KU A u i (idn q)) = Dk (KU A u) idn j * if q = p then 1 else 0 := e2
      have e3 : sumN j (fun i => x i * KU A u i (idn q)) = d * v q := e1.symm
      rw [e2, e3]
      by_cases e : q = p
      · rw [if_pos e, e, Int.mul_one, Int.neg_mul, Int.mul_comm (d * v p)]; omega
      · rw [if_neg e, hvz q hq e]; simp) c
    rw [← comb_lin, ← hx c hc] at z
    rw [Int.neg_mul] at z
    rw [Int.mul_comm d, Int.mul_assoc]
    omega
  · have := sumN_bd (n := j) (f := fun q => y q * KU A u q c) (B := fac j * B ^ j * B) fun q hq => by
      rw [Int.natAbs_mul]
      exact Nat.mul_le_mul (hyb q hq) (hB _ _)
    refine Nat.le_trans this ?_
    show _ ≤ (j + 1) * fac j * (B ^ j * B)
    have : (j + 1) * fac j * (B ^ j * B) = (j + 1) * (fac j * B ^ j * B) := by
      rw [Nat.mul_assoc, ← Nat.mul_assoc (fac j)]
    rw [this]
    exact Nat.mul_le_mul_right _ (by omega)
theorem par_free {A : Nat → Nat → Int} {w j B : Nat} {u : Nat → Nat} {k : Nat} {v : Nat → Int} (hB : ∀ k c, (A k c).natAbs ≤ B) (hnz : Dk (KU A u) idn j ≠ 0) (hjw : j ≤ w) (hc : ∃ (d d' : Int) (x : Nat → Int), d ≠ 0 ∧ d' ≠ 0 ∧ ∀ c, c < w → d * v c = d' * A k c - sumN j fun q => x q * KU A u q c) (hvz : ∀ q, q < j → v q = 0) :
    Par w v (Rs (KU A u) idn j (A k)) ∧ ∀ c, (Rs (KU A u) idn j (A k) c).natAbs ≤ fac (j + 1) * B ^ (j + 1) := by
  obtain ⟨d, d', x, hd, hd', hx⟩ := hc
  obtain ⟨y, hy, hyz⟩ := rs_eq hnz (A k)
  refine ⟨⟨d * Dk (KU A u) idn j, d', Int.mul_ne_zero hd hnz, hd', fun c hc => ?_⟩, fun c => rs_bd (fun c => hB k c) (fun p c _ => hB _ _) c⟩
  have E : ∀ c, c < w → Dk (KU A u) idn j * (d * v c) - d' * Rs (KU A u) idn j (A k) c = sumN j fun q => (-(Dk (KU A u) idn j) * x q + d' * y q) * KU A u q c := fun c hc => by
    rw [← comb_lin, hx c hc, hy c, Int.mul_sub, Int.mul_sub, Int.neg_mul, Int.mul_left_comm]
    omega
  have z := comb_uniq (n := j) (M := KU A u) (b := idn) (e := fun q => -(Dk (KU A u) idn j) * x q + d' * y q) hnz (fun q hq => by
    have := E q (by omega)
    have hq0 : Rs (KU A u) idn j (A k) q = 0 := hyz q hq
    rw [hvz q hq, hq0] at this
    show sumN j (fun i => (-(Dk (KU A u) idn j) * x i + d' * y i) * KU A u i q) = 0
    rw [← this]; simp) c
  rw [← E c hc] at z
  rw [Int.mul_comm d, Int.mul_assoc]
  omega
theorem LS.step {A : Nat → Nat → Int} {z w N j r f B : Nat} {u : Nat → Nat} {t t' : Nat → Nat → Int} (I : LS A z w N j u t) (hB : ∀ k c, (A k c).natAbs ≤ B) (h1 : 1 ≤ B) (hjw : j + 1 ≤ w) (hfN : fac (j + 2) * B ^ (j + 2) ≤ N) (hf : f < z) (hfu : ∀ p, p < j → u p ≠ f) (hfn : t f j ≠ 0)
    (hff : ∀ c, c < w → t' f c = t f c) (hsame : ∀ k, k < z → k ≠ f → t k j = 0 → ∀ c, c < w → t' k c = t k c) (hnew : ∀ k, k < z → k ≠ f → t k j ≠ 0 → ∃ g : Int, g ≠ 0 ∧ (∀ c, c < w → t f j * t k c - t k j * t f c = g * t' k c) ∧ (Prim w (t' k) ∨ ∀ c, c < w → t' k c = 0)) : LS A z w N (j + 1) (upd u j f) t' := by
  obtain ⟨⟨df, df', xf, hdf, hdf', hxf⟩, hfz⟩ := I.fr f hf hfu
  have KUe : ∀ q, q < j → KU A (upd u j f) q = KU A u q := fun q hq => by unfold KU; rw [upd_ne (by omega)]
  have KUj : KU A (upd u j f) j = A f := by unfold KU; rw [upd_self]
  have extS : ∀ (x : Nat → Int) (c : Nat), sumN j (fun q => x q * KU A u q c) = sumN j fun q => x q * KU A (upd u j f) q c := fun x c => sumN_congr fun q hq => by rw [KUe q hq]
  -- the next determinant
  have hDn : Dk (KU A (upd u j f)) idn (j + 1) ≠ 0 := by
    rw [dk_succ]
    have e1 : Rs (KU A (upd u j f)) idn j (KU A (upd u j f) j) (idn j) = Rs (KU A u) idn j (A f) j := by
      rw [KUj]; exact rs_congr (fun p hp => KUe p hp) (fun _ _ => rfl) _ _
    rw [e1]
    obtain ⟨⟨a, b, ha, hb, hp⟩, _⟩ := par_free (B := B) hB (I.nz j (Nat.le_refl _)) (by omega) ⟨df, df', xf, hdf, hdf', hxf⟩ hfz
    intro z
    have := hp j (by omega)
    rw [z, Int.mul_zero] at this
    rcases Int.mul_eq_zero.mp this with y | y
    · exact ha y
    · exact hfn y
  have hnz : ∀ i, i ≤ j + 1 → Dk (KU A (upd u j f)) idn i ≠ 0 := fun i hi => by
    rcases Nat.lt_or_ge i (j + 1) with y | y
    · rw [Dk.congrU (u' := u) fun p hp => upd_ne (by omega)]; exact I.nz i (by omega)
    · have : i = j + 1 := by omega
      rw [this]; exact hDn
  -- the pivot line, by the pivot lines
  have cf : ∀ c, c < w → df * t f c = sumN (j + 1) fun q => (if q < j then - xf q else df') * KU A (upd u j f) q c := fun c hc => by
    show _ = sumN j _ + (if j < j then _ else df') * _
    rw [if_neg (Nat.lt_irrefl _), KUj, hxf c hc]
    have : sumN j (fun q => (if q < j then - xf q else df') * KU A (upd u j f) q c) = - sumN j fun q => xf q * KU A u q c := by
      rw [← sumN_neg]
      exact sumN_congr fun q hq => by rw [if_pos hq, KUe q hq, Int.neg_mul]
    rw [this]; omega
  have us' : ∀ p, p < j + 1 → (∃ (d : Int) (x : Nat → Int), d ≠ 0 ∧ ∀ c, c < w → d * t' (upd u j f p) c = sumN (j + 1) fun q => x q * KU A (upd u j f) q c) ∧ t' (upd u j f p) p ≠ 0 ∧ ∀ q, q < j + 1 → q ≠ p → t' (upd u j f p) q = 0 := fun p hp => by
    by_cases e : p = j
    · subst e
      rw [upd_self]
      refine ⟨⟨df, _, hdf, fun c hc => by rw [hff c hc]; exact cf c hc⟩, by rw [hff p (by omega)]; exact hfn, fun q hq hqp => by rw [hff q (by omega)]; exact hfz q (by omega)⟩
    · rw [upd_ne e]
      have hpj : p < j := by omega
      obtain ⟨⟨d, x, hd, hx⟩, hpp, hpz⟩ := I.us p hpj
      have huz := I.ud p hpj
      have huf : u p ≠ f := hfu p hpj
      have ext : ∀ c, c < w → d * t (u p) c = sumN (j + 1) fun q => (if q < j then x q else 0) * KU A (upd u j f) q c := fun c hc => by
        show _ = sumN j _ + (if j < j then _ else (0 : Int)) * _
        rw [if_neg (Nat.lt_irrefl _), Int.zero_mul, Int.add_zero, hx c hc]
        exact sumN_congr fun q hq => by rw [if_pos hq, KUe q hq]
      by_cases h0 : t (u p) j = 0
      · have hs := hsame (u p) huz huf h0
        refine ⟨⟨d, _, hd, fun c hc => by rw [hs c hc]; exact ext c hc⟩, by rw [hs p (by omega)]; exact hpp, fun q hq hqp => ?_⟩
        rw [hs q (by omega)]
        rcases Nat.lt_or_ge q j with y | y
        · exact hpz q y hqp
        · have : q = j := by omega
          rw [this]; exact h0
      · obtain ⟨g, hg, hgt, _⟩ := hnew (u p) huz huf h0
        refine ⟨⟨d * df * g, fun q => t f j * df * (if q < j then x q else 0) + -(t (u p) j * d) * (if q < j then - xf q else df'), Int.mul_ne_zero (Int.mul_ne_zero hd hdf) hg, fun c hc => ?_⟩, ?_, fun q hq hqp => ?_⟩
        · rw [← comb_lin, ← ext c hc, ← cf c hc, Int.mul_assoc (d * df), ← hgt c hc, Int.mul_sub, Int.neg_mul]
          have a1 : d * df * (t f j * t (u p) c) = t f j * df * (d * t (u p) c) := by ac_rfl
          have a2 : d * df * (t (u p) j * t f c) = t (u p) j * d * (df * t f c) := by ac_rfl
          rw [a1, a2]; omega
        · intro zz
          have := hgt p (by omega)
          rw [zz, Int.mul_zero, hfz p hpj, Int.mul_zero, Int.sub_zero] at this
          rcases Int.mul_eq_zero.mp this with y | y
          · exact hfn y
          · exact hpp y
        · have := hgt q (by omega)
          have z0 : t f j * t (u p) q - t (u p) j * t f q = 0 := by
            rcases Nat.lt_or_ge q j with y | y
            · rw [hpz q y hqp, hfz q y]; simp
            · have : q = j := by omega
              rw [this, Int.mul_comm]; omega
          rw [z0] at this
          rcases Int.mul_eq_zero.mp this.symm with y | y
          · exact absurd y hg
          · exact y
  have fr' : ∀ k, k < z → (∀ p, p < j + 1 → upd u j f p ≠ k) → (∃ (d d' : Int) (x : Nat → Int), d ≠ 0 ∧ d' ≠ 0 ∧ ∀ c, c < w → d * t' k c = d' * A k c - sumN (j + 1) fun q => x q * KU A (upd u j f) q c) ∧ ∀ q, q < j + 1 → t' k q = 0 := fun k hk hku => by
    have hkf : k ≠ f := fun e => hku j (by omega) (by rw [upd_self, e])
    have hku' : ∀ p, p < j → u p ≠ k := fun p hp => by
      have := hku p (by omega)
      rwa [upd_ne (by omega)] at this
    obtain ⟨⟨d, d', x, hd, hd', hx⟩, hkz⟩ := I.fr k hk hku'
    have ext : ∀ c, c < w → d * t k c = d' * A k c - sumN (j + 1) fun q => (if q < j then x q else 0) * KU A (upd u j f) q c := fun c hc => by
      show _ = _ - (sumN j _ + (if j < j then _ else (0 : Int)) * _)
      rw [if_neg (Nat.lt_irrefl _), Int.zero_mul, Int.add_zero, hx c hc]
      have : sumN j (fun q => (if q < j then x q else 0) * KU A (upd u j f) q c) = sumN j fun q => x q * KU A u q c := sumN_congr fun q hq => by rw [if_pos hq, KUe q hq]
      rw [this]
    by_cases h0 : t k j = 0
    · have hs := hsame k hk hkf h0
      refine ⟨⟨d, d', _, hd, hd', fun c hc => by rw [hs c hc]; exact ext c hc⟩, fun q hq => ?_⟩
      rw [hs q (by omega)]
      rcases Nat.lt_or_ge q j with y | y
      · exact hkz q y
      · have : q = j := by omega
        rw [this]; exact h0
    · obtain ⟨g, hg, hgt, _⟩ := hnew k hk hkf h0
      refine ⟨⟨d * df * g, t f j * df * d', fun q => t f j * df * (if q < j then x q else 0) + t k j * d * (if q < j then - xf q else df'), Int.mul_ne_zero (Int.mul_ne_zero hd hdf) hg, Int.mul_ne_zero (Int.mul_ne_zero hfn hdf) hd', fun c hc => ?_⟩, fun q hq => ?_⟩
      · rw [← comb_lin, ← cf c hc, Int.mul_assoc (d * df), ← hgt c hc, Int.mul_sub]
        have a1 : d * df * (t f j * t k c) = t f j * df * (d * t k c) := by ac_rfl
        have a2 : d * df * (t k j * t f c) = t k j * d * (df * t f c) := by ac_rfl
        rw [a1, a2, ext c hc, Int.mul_sub, Int.mul_assoc (t f j * df) d']
        omega
      · have := hgt q (by omega)
        have z0 : t f j * t k q - t k j * t f q = 0 := by
          rcases Nat.lt_or_ge q j with y | y
          · rw [hkz q y, hfz q y]; simp
          · have : q = j := by omega
            rw [this, Int.mul_comm]; omega
        rw [z0] at this
        rcases Int.mul_eq_zero.mp this.symm with y | y
        · exact absurd y hg
        · exact y
  refine ⟨fun p hp => ?_, fun p q hp hq e => ?_, hnz, us', fr', fun k hk c hc => ?_, fun y hy k hk => ?_, fun y hy k hk => I.ker y (fun k hk => ?_) k hk⟩
  · by_cases e : p = j
    · rw [e, upd_self]; exact hf
    · rw [upd_ne e]; exact I.ud p (by omega)
  · by_cases ep : p = j
    · by_cases eq : q = j
      · omega
      · rw [ep, upd_self, upd_ne eq] at e
        exact absurd e.symm (hfu q (by omega))
    · by_cases eq : q = j
      · rw [eq, upd_self, upd_ne ep] at e
        exact absurd e (hfu p (by omega))
      · rw [upd_ne ep, upd_ne eq] at e
        exact I.inj p q (by omega) (by omega) e
  · by_cases e : k = f
    · rw [e, hff c hc]; exact I.bd f hf c hc
    · by_cases h0 : t k j = 0
      · rw [hsame k hk e h0 c hc]; exact I.bd k hk c hc
      · obtain ⟨g, hg, hgt, hpr⟩ := hnew k hk e h0
        rcases hpr with hpr | hpr
        · by_cases hu : ∃ p, p < j + 1 ∧ upd u j f p = k
          · obtain ⟨p, hp, hpk⟩ := hu
            obtain ⟨q1, q2, q3⟩ := us' p hp
            rw [hpk] at q1 q2 q3
            obtain ⟨v', hv1, hv2⟩ := par_top hB h1 hDn hjw hp q1 q2 q3
            exact Nat.le_trans (prim_bd hpr hv1 c hc) (Nat.le_trans (hv2 c) hfN)
          · obtain ⟨q1, q2⟩ := fr' k hk fun p hp e => hu ⟨p, hp, e⟩
            obtain ⟨hv1, hv2⟩ := par_free (k := k) hB hDn hjw q1 q2
            exact Nat.le_trans (prim_bd hpr hv1 c hc) (Nat.le_trans (hv2 c) hfN)
        · rw [hpr c hc]; exact Nat.zero_le _
  · have h2 := I.sol y hy
    by_cases e : k = f
    · rw [e, ← h2 f hf]
      exact sumN_congr fun c hc => by rw [hff c hc]
    · by_cases h0 : t k j = 0
      · rw [← h2 k hk]
        exact sumN_congr fun c hc => by rw [hsame k hk e h0 c hc]
      · obtain ⟨g, hg, hgt, _⟩ := hnew k hk e h0
        have h3 : g * sumN w (fun c => y c * t' k c) = t f j * sumN w (fun c => y c * t k c) - t k j * sumN w fun c => y c * t f c := by
          rw [← sumN_mul, ← sumN_mul, ← sumN_mul, ← sumN_sub]
          exact sumN_congr fun c hc => by
            rw [Int.mul_left_comm, ← hgt c hc, Int.mul_sub, Int.mul_left_comm (y c), Int.mul_left_comm (y c)]
        rw [h2 k hk, h2 f hf, Int.mul_zero, Int.mul_zero] at h3
        rcases Int.mul_eq_zero.mp (h3.trans (by omega) : g * _ = 0) with q | q
        · exact absurd q hg
        · exact q
  · by_cases e : k = f
    · rw [e, ← hy f hf]
      exact sumN_congr fun c hc => by rw [hff c hc]
    · by_cases h0 : t k j = 0
      · rw [← hy k hk]
        exact sumN_congr fun c hc => by rw [hsame k hk e h0 c hc]
      · obtain ⟨g, hg, hgt, _⟩ := hnew k hk e h0
        have hf0 : sumN w (fun c => y c * t f c) = 0 := by
          rw [← hy f hf]
          exact sumN_congr fun c hc => by rw [hff c hc]
        have h3 : g * sumN w (fun c => y c * t' k c) = t f j * sumN w (fun c => y c * t k c) - t k j * sumN w fun c => y c * t f c := by
          rw [← sumN_mul, ← sumN_mul, ← sumN_mul, ← sumN_sub]
          exact sumN_congr fun c hc => by
            rw [Int.mul_left_comm, ← hgt c hc, Int.mul_sub, Int.mul_left_comm (y c), Int.mul_left_comm (y c)]
        rw [hy k hk, hf0, Int.mul_zero, Int.mul_zero, Int.sub_zero] at h3
        rcases Int.mul_eq_zero.mp h3.symm with q | q
        · exact absurd q hfn
        · exact q
end Fc

set_option Elab.async false
set_option linter.all false
set_option maxRecDepth 100000
set_option maxHeartbeats 4000000
namespace Fc
def gcdI (a b : Int) : Int := (Nat.gcd a.natAbs b.natAbs : Nat)
def gcdL (b : Int) (ns : List Int) : Int := ns.foldl gcdI b
abbrev lI (ns : List Int) : List D := ns.map .int
theorem foldl_lI {α : Type} (f : α → Int → α) (g : α → D → α) (h : ∀ a i, g a (.int i) = f a i) : ∀ (ns : List Int) (a : α), (lI ns).foldl g a = ns.foldl f a
  | [], _ => rfl
  | x :: xs, a => by
    show (lI xs).foldl g (g a (.int x)) = _
    rw [h]; exact foldl_lI f g h xs _
theorem run_lowered {n : Nat} {ns : List Int} {b : Int} (hg : 0 < gcdL b ns) (hd : divOk (gcdL b ns) = true) :
    call T (n + 1) 9 [.lst (lI ns), .int b] = .ok (.tup [.tup (ns.map fun x => .int (x / gcdL b ns)), .int (b / gcdL b ns)]) := by
  rw [call_eq (d := d_lowered) rfl rfl rfl]
  have hl : ∀ bd, bd = (Ss.cons (.set 2 0 [] (.bi .gcd (.cons (.var 2) (.cons (.var 3) .nil)))) .nil) → forR (turn T (call T n) (.nm 3) [3] bd) (lI ns) [some (.lst (lI ns)), some (.int b), some (.int b), none] [] = .ok (.nx [some (.lst (lI ns)), some (.int b), some (.int (gcdL b ns)), none] []) := by
    intro bd hb
    subst hb
    have := forR_fold (f := turn T (call T n) (.nm 3) [3] (.cons (.set 2 0 [] (.bi .gcd (.cons (.var 2) (.cons (.var 3) .nil)))) .nil)) (xs := lI ns) (S := fun (a : Int) => [some (.lst (lI ns)), some (.int b), some (.int a), none]) (O := fun _ => []) (g := fun a x => match x with
        | .int i => gcdI a i
        | _ => a) (C := fun _ => True) (fun _ _ _ _ => trivial) (fun a x hx _ => by
          obtain ⟨i, _, rfl⟩ := List.mem_map.mp hx
          rfl) (a := b) trivial
    rw [this.1, foldl_lI gcdI _ (fun _ _ => rfl)]
    rfl
  have hm : mapR (lcI T (call T n) [3] (.nm 3) .none (.bin .fdiv (.var 3) (.var 2)) [some (.lst (lI ns)), some (.int b), some (.int (gcdL b ns)), none]) (lI ns) = .ok (ns.map fun x => .int (x / gcdL b ns)) := mapR_ints fun x _ => by
    show (binD .fdiv (.int x) (.int (gcdL b ns)) >>= fun d => R.ok (some d)) = _
    simp [binD, hd, hg]
  simp [d_lowered, inS, ex_for, wp, hl, ev_lc, hm, bfD, biD, opD, binD, hd, hg, endF]
end Fc

namespace Fc
/-! ### rows and tables by functions; loops over ranges -/
abbrev rngD {α : Type} (k : Nat) (g : Nat → α) : List α := (List.range k).map g
abbrev rowL (L : Nat) (f : Nat → Int) : List D := (List.range L).map fun c => D.int (f c)
abbrev rowD (L : Nat) (f : Nat → Int) : D := .lst (rowL L f)
abbrev tabL (h m : Nat) (t : Nat → Nat → Int) : List D := (List.range h).map fun q => rowD m (t q)
abbrev tabD (h m : Nat) (t : Nat → Nat → Int) : D := .lst (tabL h m t)
theorem atI_nat {α : Type} (ds : List α) (i : Nat) : L2.atI ds (i : Int) = ds[i]? := by
  unfold L2.atI L2.ixN
  rw [if_pos (by omega)]
  by_cases h : i < ds.length
  · rw [if_pos (by omega)]
    simp
  · rw [if_neg (by omega), List.getElem?_eq_none (by omega)]; rfl
theorem rng_get {α : Type} {k i : Nat} (g : Nat → α) (h : i < k) : ((List.range k).map g)[i]? = some (g i) := by simp [h]
theorem ix_lst {ds : List D} {i : Nat} {d : D} (h : ds[i]? = some d) : ixD (.lst ds) (.int i) = .ok d := by
  show ofO (L2.atI ds i) = _
  rw [atI_nat, h]; rfl
theorem ix_tup {ds : List D} {i : Nat} {d : D} (h : ds[i]? = some d) : ixD (.tup ds) (.int i) = .ok d := by
  show ofO (L2.atI ds i) = _
  rw [atI_nat, h]; rfl
theorem ix_rngL {k i : Nat} (g : Nat → D) (h : i < k) : ixD (.lst ((List.range k).map g)) (.int i) = .ok (g i) := ix_lst (rng_get g h)
theorem ix_rngT {k i : Nat} (g : Nat → D) (h : i < k) : ixD (.tup ((List.range k).map g)) (.int i) = .ok (g i) := ix_tup (rng_get g h)
theorem put_nat {ds : List D} {i : Nat} (h : i < ds.length) (d : D) : putI ds (i : Int) d = .ok (ds.set i d) := by
  unfold putI L2.ixN
  rw [if_pos (by omega), if_pos (by omega)]
  rfl
theorem rng_set {α : Type} {k i : Nat} (g : Nat → α) (a : α) : ((List.range k).map g).set i a = (List.range k).map fun j => if j = i then a else g j := by
  apply List.ext_getElem?
  intro j
  rw [List.getElem?_set]
  simp only [List.length_map, List.length_range, List.getElem?_map]
  by_cases h : i = j
  · subst h
    by_cases hk : i < k
    · simp [hk]
    · simp [hk]
  · rw [if_neg h]
    by_cases hk : j < k
    · have : j ≠ i := fun e => h e.symm
      simp [hk, this]
    · simp [hk]
theorem rng_congr {α : Type} {k : Nat} {g g' : Nat → α} (h : ∀ i, i < k → g i = g' i) : (List.range k).map g = (List.range k).map g' := List.map_congr_left fun i hi => h i (List.mem_range.mp hi)
theorem rng_snoc {α : Type} (k : Nat) (g : Nat → α) : (List.range (k + 1)).map g = (List.range k).map g ++ [g k] := by rw [List.range_succ, List.map_append]; rfl
theorem rng_len {α : Type} (k : Nat) (g : Nat → α) : ((List.range k).map g).length = k := by simp
theorem rng_enum {α : Type} (k : Nat) (g : Nat → α) : ((List.range k).map g).zipIdx = (List.range k).map fun i => (g i, i) := by
  apply List.ext_getElem?
  intro j
  by_cases hk : j < k
  · simp [List.getElem?_zipIdx, hk]
  · simp [List.getElem?_zipIdx, hk]
theorem rng_zip {α β : Type} (k : Nat) (g : Nat → α) (h : Nat → β) : ((List.range k).map g).zip ((List.range k).map h) = (List.range k).map fun i => (g i, h i) := by
  apply List.ext_getElem?
  intro j
  by_cases hk : j < k
  · simp [List.zip, List.getElem?_zipWith, hk]
  · simp [List.zip, List.getElem?_zipWith, hk]
theorem rng_take {α : Type} {k r : Nat} (g : Nat → α) (h : r ≤ k) : ((List.range k).map g).take r = (List.range r).map g := by
  rw [← List.map_take, List.take_range]
  congr 2
  omega
theorem forR_ex {α : Type} {f : D → Env → Ow → R Fl} {k : Nat} {c : Nat → D} (S : α → Env) (O : α → Ow) (J : Nat → α → Prop) {a0 : α} (h0 : J 0 a0) (h : ∀ i, i < k → ∀ a, J i a → ∃ a', J (i + 1) a' ∧ f (c i) (S a) (O a) = .ok (.nx (S a') (O a'))) :
    ∃ a, J k a ∧ forR f ((List.range k).map c) (S a0) (O a0) = .ok (.nx (S a) (O a)) := by
  refine forR_gen (P := fun r => ∃ a, J k a ∧ r = .ok (.nx (S a) (O a))) (I := fun i s o => ∃ a, J i a ∧ s = S a ∧ o = O a) 0 ⟨a0, h0, rfl, rfl⟩ (fun i x s o hx ⟨a, ha, hs, ho⟩ => ?_) fun s o ⟨a, ha, hs, ho⟩ => ?_
  · rw [List.getElem?_map] at hx
    by_cases hk : i < k
    · rw [List.getElem?_range hk] at hx
      cases hx
      rw [Nat.zero_add] at ha
      obtain ⟨a', ha', hf⟩ := h i hk a ha
      subst hs ho
      exact .inl ⟨_, _, .inl hf, a', by rw [Nat.zero_add]; exact ha', rfl, rfl⟩
    · rw [List.getElem?_eq_none (by simp; omega)] at hx
      cases hx
  · refine ⟨a, ?_, by rw [hs, ho]⟩
    simpa using ha
/-- a loop that may return or break: by what it ends with -/
theorem forR_P {α : Type} {f : D → Env → Ow → R Fl} {P : R Fl → Prop} {k : Nat} {c : Nat → D} (S : α → Env) (O : α → Ow) (J : Nat → α → Prop) {a0 : α} (h0 : J 0 a0) (h : ∀ i, i < k → ∀ a, J i a → (∃ a', J (i + 1) a' ∧ f (c i) (S a) (O a) = .ok (.nx (S a') (O a'))) ∨ (∃ s o, f (c i) (S a) (O a) = .ok (.bk s o) ∧ P (.ok (.nx s o))) ∨ ∃ d, f (c i) (S a) (O a) = .ok (.rt d) ∧ P (.ok (.rt d)))
    (he : ∀ a, J k a → P (.ok (.nx (S a) (O a)))) : P (forR f ((List.range k).map c) (S a0) (O a0)) := by
  refine forR_gen (P := P) (I := fun i s o => ∃ a, J i a ∧ s = S a ∧ o = O a) 0 ⟨a0, h0, rfl, rfl⟩ (fun i x s o hx ⟨a, ha, hs, ho⟩ => ?_) fun s o ⟨a, ha, hs, ho⟩ => ?_
  · rw [List.getElem?_map] at hx
    by_cases hk : i < k
    · rw [List.getElem?_range hk] at hx
      cases hx
      rw [Nat.zero_add] at ha
      subst hs ho
      rcases h i hk a ha with ⟨a', ha', hf⟩ | ⟨s, o, hf, hp⟩ | ⟨d, hf, hp⟩
      · exact .inl ⟨_, _, .inl hf, a', by rw [Nat.zero_add]; exact ha', rfl, rfl⟩
      · exact .inr (.inl ⟨s, o, hf, hp⟩)
      · exact .inr (.inr ⟨d, hf, hp⟩)
    · rw [List.getElem?_eq_none (by simp; omega)] at hx
      cases hx
  · subst hs ho
    exact he a (by simpa using ha)
theorem mapR_rng {f : D → R (Option D)} {k : Nat} {c g : Nat → D} (h : ∀ i, i < k → f (c i) = .ok (some (g i))) : mapR f ((List.range k).map c) = .ok ((List.range k).map g) := mapR_ints fun i hi => h i (List.mem_range.mp hi)
section
variable {T : Tab} {F : Nat → List D → R D}
theorem ev_lcR {vs : List Nat} {t : Tg} {it : It} {e : E} {s : Env} {k : Nat} {c g : Nat → D} (hi : evI T F it s = .ok ((List.range k).map c)) (hx : ∀ i, i < k → lcI T F vs t .none e s (c i) = .ok (some (g i))) : evE T F (.lc vs t it .none e) s = .ok (.lst ((List.range k).map g)) := by
  rw [ev_lc, hi, bind_ok, mapR_rng hx]; rfl
theorem exs_step {st : S} {r : Ss} {s s' : Env} {o o' : Ow} (h : exS T F st s o = .ok (.nx s' o')) : exSs T F (.cons st r) s o = exSs T F r s' o' := by
  rw [exs_cons, h]; rfl
theorem exs_ret {st : S} {r : Ss} {s : Env} {o : Ow} {d : D} (h : exS T F st s o = .ok (.rt d)) : exSs T F (.cons st r) s o = .ok (.rt d) := by
  rw [exs_cons, h]; rfl
theorem ex_forR {t : Tg} {it : It} {fz fg : List Nat} {b : Ss} {s : Env} {o : Ow} {k : Nat} {c : Nat → D} (hi : evI T F it s = .ok ((List.range k).map c)) : exS T F (.for_ t it fz fg b) s o = forR (turn T F t fg b) ((List.range k).map c) (wp fg s) (dropO fg (dropO fz o)) := by
  rw [ex_for, hi]; rfl
theorem for_ex {α : Type} {t : Tg} {it : It} {fz fg : List Nat} {b : Ss} {s : Env} {o : Ow} (k : Nat) (c : Nat → D) (S : α → Env) (O : α → Ow) (J : Nat → α → Prop) (a0 : α) (hi : evI T F it s = .ok ((List.range k).map c)) (hs : wp fg s = S a0) (ho : dropO fg (dropO fz o) = O a0) (h0 : J 0 a0)
    (h : ∀ i, i < k → ∀ a, J i a → ∃ a', J (i + 1) a' ∧ turn T F t fg b (c i) (S a) (O a) = .ok (.nx (S a') (O a'))) : ∃ a, J k a ∧ exS T F (.for_ t it fz fg b) s o = .ok (.nx (S a) (O a)) := by
  rw [ex_forR hi, hs, ho]
  exact forR_ex S O J h0 h
theorem for_P {α : Type} {t : Tg} {it : It} {fz fg : List Nat} {b : Ss} {s : Env} {o : Ow} {P : R Fl → Prop} (k : Nat) (c : Nat → D) (S : α → Env) (O : α → Ow) (J : Nat → α → Prop) (a0 : α) (hi : evI T F it s = .ok ((List.range k).map c)) (hs : wp fg s = S a0) (ho : dropO fg (dropO fz o) = O a0) (h0 : J 0 a0)
    (h : ∀ i, i < k → ∀ a, J i a → (∃ a', J (i + 1) a' ∧ turn T F t fg b (c i) (S a) (O a) = .ok (.nx (S a') (O a'))) ∨ (∃ s o, turn T F t fg b (c i) (S a) (O a) = .ok (.bk s o) ∧ P (.ok (.nx s o))) ∨ ∃ d, turn T F t fg b (c i) (S a) (O a) = .ok (.rt d) ∧ P (.ok (.rt d)))
    (he : ∀ a, J k a → P (.ok (.nx (S a) (O a)))) : P (exS T F (.for_ t it fz fg b) s o) := by
  rw [ex_forR hi, hs, ho]
  exact forR_P S O J h0 h he
@[simp] theorem fzO_int (fz : List Nat) (e : E) (i : Int) (s : Env) (o : Ow) : fzO T fz e (.int i) s o = o := by
  unfold fzO fre
  simp [noL]
@[simp] theorem fzO_bl (fz : List Nat) (e : E) (i : Bool) (s : Env) (o : Ow) : fzO T fz e (.bl i) s o = o := by
  unfold fzO fre
  simp [noL]
@[simp] theorem fzO_non (fz : List Nat) (e : E) (s : Env) (o : Ow) : fzO T fz e .non s o = o := by
  unfold fzO fre
  simp [noL]
theorem evi_rngN {a : E} {s : Env} {k : Nat} (h : evE T F a s = .ok (.int k)) (hk : k ≤ 16777216) : evI T F (.rng1 a) s = .ok ((List.range k).map fun (i : Nat) => .int i) := by
  rw [evi_rng1, h, bind_ok, rng1_nat k hk]
theorem evi_rngN2 {a b : E} {s : Env} {m k : Nat} (ha : evE T F a s = .ok (.int m)) (h : evE T F b s = .ok (.int k)) (hk : k ≤ 16777216) (hm : m ≤ 16777216) : evI T F (.rng2 a b) s = .ok ((List.range (k - m)).map fun (i : Nat) => .int ((m + i : Nat) : Int)) := by
  rw [evi_rng2, ha, bind_ok, h, bind_ok, rng2_nat m k hk hm]
  congr 1
end
theorem mul_ok {a b : Int} (h : mulOk a b = true) : binD .mul (.int a) (.int b) = .ok (.int (a * b)) := by simp [binD, h]
theorem mod_pos {a b : Int} (h : 0 < b) : binD .mod (.int a) (.int b) = .ok (.int (a % b)) := by simp [binD, h]
theorem fdiv_pos {a b : Int} (h : 0 < b) (hd : divOk b = true) : binD .fdiv (.int a) (.int b) = .ok (.int (a / b)) := by simp [binD, h, hd]
/-- exact division -/
theorem fdiv_ex {a b q : Int} (h : b ≠ 0) (hd : divOk b = true) (he : a = b * q) : binD .fdiv (.int a) (.int b) = .ok (.int q) := by
  subst he
  by_cases h0 : 0 < b
  · rw [fdiv_pos h0 hd, Int.mul_ediv_cancel_left _ h]
  · have : b < 0 := by omega
    simp [binD, hd, h0, this]
    rw [Int.mul_comm]
    exact Int.mul_fdiv_cancel _ h
@[simp] theorem ev_add_int (a b : Int) : binD .add (.int a) (.int b) = .ok (.int (a + b)) := rfl
@[simp] theorem ev_sub_int (a b : Int) : binD .sub (.int a) (.int b) = .ok (.int (a - b)) := rfl
theorem log2_le {a k : Nat} (h : a < 2 ^ k) : a.log2 ≤ k := by
  by_cases h0 : a = 0
  · subst h0; simp
  · have := (Nat.log2_lt h0).mpr h
    omega
theorem divOk_of {b : Int} {k : Nat} (h : b.natAbs < 2 ^ k) (hk : k < 9000) : divOk b = true := by
  unfold divOk
  have := log2_le h
  exact decide_eq_true (by omega)
theorem mulOk_of {a b : Int} {k l : Nat} (h : a.natAbs < 2 ^ k) (h' : b.natAbs < 2 ^ l) (hk : k + l < 100000000) : mulOk a b = true := by
  unfold mulOk
  have := log2_le h
  have := log2_le h'
  exact decide_eq_true (by omega)
/-- small: the exponent is kept out of sight -/
def Sm (a k : Nat) : Prop := a < 2 ^ k
theorem sm_le {a b k : Nat} (h : a ≤ b) (hb : Sm b k) : Sm a k := Nat.lt_of_le_of_lt h hb
theorem sm_mono {a k l : Nat} (h : Sm a k) (hl : k ≤ l) : Sm a l := Nat.lt_of_lt_of_le h (Nat.pow_le_pow_right (by decide) hl)
theorem sm_mul {a b k l : Nat} (ha : Sm a k) (hb : Sm b l) : Sm (a * b) (k + l) := by
  unfold Sm at *
  rw [Nat.pow_add]; exact Nat.mul_lt_mul'' ha hb
theorem sm_pos {k : Nat} : Sm 0 k := Nat.pow_pos (by decide)
theorem sm_14 {r : Nat} (h : r < 10000) : Sm r 14 := Nat.lt_of_lt_of_le h (by decide)
theorem sm_add {a b k : Nat} (ha : Sm a k) (hb : Sm b k) : Sm (a + b) (k + 1) := by
  unfold Sm at *
  rw [Nat.pow_succ]; omega
theorem sm_div {b : Int} {k : Nat} (h : Sm b.natAbs k) (hk : k < 9000) : divOk b = true := divOk_of h hk
theorem sm_mulOk {a b : Int} {k l : Nat} (h : Sm a.natAbs k) (h' : Sm b.natAbs l) (hk : k + l < 100000000) : mulOk a b = true := mulOk_of h h' hk
end Fc

namespace Fc
/-! ### running by what a body ends with -/
def Ss.app : Ss → Ss → Ss
  | .nil, r => r
  | .cons st a, r => .cons st (Ss.app a r)
section
variable {T : Tab} {F : Nat → List D → R D}
theorem exs_app : ∀ (a r : Ss) (s : Env) (o : Ow), exSs T F (a.app r) s o = nxS (exSs T F r) (exSs T F a s o)
  | .nil, r, s, o => by
    show exSs T F r s o = _
    rw [exs_nil]; rfl
  | .cons st a, r, s, o => by
    show exSs T F (.cons st (a.app r)) s o = _
    rw [exs_cons, exs_cons]
    cases exS T F st s o with
    | no => rfl
    | ex c ds => rfl
    | ok fl => cases fl with
      | nx s o => exact exs_app a r s o
      | bk s o => rfl
      | ct s o => rfl
      | rt d => rfl
theorem call_P {n f : Nat} {xs : List D} {d : Def} {Q : R D → Prop} (h : T.fn f = some d) (hl : xs.length = d.np) (hi : d.init = false) (hp : ∀ P : R Fl → Prop, (∀ v, Q (.ok v) → P (.ok (.rt v))) → (d.rk = 0 → ∀ s o, Q (.ok .non) → P (.ok (.nx s o))) → P (exSs T (call T n) d.body (inS d xs) [])) : Q (call T (n + 1) f xs) := by
  rw [call_eq h hl hi]
  exact hp (fun x => Q (endF d.rk x)) (fun v hv => hv) fun hr s o hq => by
    show Q (if d.rk = 0 then .ok .non else .no)
    rw [if_pos hr]; exact hq
variable {P : R Fl → Prop} {r : Ss} {s : Env} {o : Ow}
theorem p_nil (h : P (.ok (.nx s o))) : P (exSs T F .nil s o) := h
theorem p_setz {i : Nat} {fz : List Nat} {e : E} (d : D) (h : evE T F e s = .ok d) (hp : P (exSs T F r (s.set i (some d)) (setO i 0 (fzO T fz e d s o)))) : P (exSs T F (.cons (.set i 0 fz e) r) s o) := by
  rw [exs_cons, ex_set0, h]; exact hp
theorem p_set1z {i : Nat} {fz : List Nat} {e : E} (d : D) (hk : frk T 1 e = 1) (h : evE T F e s = .ok d) (hp : P (exSs T F r (s.set i (some d)) (setO i 1 (fzO T fz e d s o)))) : P (exSs T F (.cons (.set i 1 fz e) r) s o) := by
  rw [exs_cons, ex_set1 hk, h]; exact hp
theorem p_exp {e : E} (d : D) (h : evE T F e s = .ok d) (hp : P (exSs T F r s o)) : P (exSs T F (.cons (.exp e) r) s o) := by
  rw [exs_cons, ex_exp, h]; exact hp
theorem p_unpz {t : Tg} {fz : List Nat} {e : E} (d : D) (s' : Env) (h : evE T F e s = .ok d) (ha : asg t d s = .ok s') (hp : P (exSs T F r s' (dropO (tgS t) (fzO T fz e d s o)))) : P (exSs T F (.cons (.unp t fz e) r) s o) := by
  rw [exs_cons]
  show P (nxS _ (evE T F e s >>= fun d => match asg t d s with
      | .ok s' => .ok (.nx s' (dropO (tgS t) (fzO T fz e d s o)))
      | _ => .no))
  rw [h, bind_ok, ha]; exact hp
theorem p_if {t : E} {a b : Ss} (v : Bool) (h : evE T F t s = .ok (.bl v)) (ht : v = true → P (exSs T F (a.app r) s o)) (hf : v = false → P (exSs T F (b.app r) s o)) : P (exSs T F (.cons (.if_ t a b) r) s o) := by
  rw [exs_cons, ex_if, h, bind_ok]
  cases v with
  | true => rw [ifR_true, ← exs_app]; exact ht rfl
  | false => rw [ifR_false, ← exs_app]; exact hf rfl
theorem p_ret {e : E} (d : D) (h : evE T F e s = .ok d) (hp : P (.ok (.rt d))) : P (exSs T F (.cons (.ret 0 e) r) s o) := by
  rw [exs_cons, ex_ret0, h]; exact hp
theorem p_ret1v {i : Nat} (ds : List D) (h : s[i]? = some (some (.lst ds))) (ho : o.lookup i = some 1) (hp : P (.ok (.rt (.lst ds)))) : P (exSs T F (.cons (.ret 1 (.var i)) r) s o) := by
  rw [exs_cons]
  show P (nxS _ (evE T F (.var i) s >>= fun d => if (1 : Nat) = 0 then R.ok (Fl.rt d) else match o.lookup i, d with
        | some j, .lst _ => if 1 = j then .ok (.rt d) else .no
        | _, _ => .no))
  rw [ev_var, h, ofV_some, bind_ok, if_neg (by decide), ho]
  exact hp
theorem p_brk (h : P (.ok (.bk s o))) : P (exSs T F (.cons .brk r) s o) := h
theorem p_appz {x : Nat} {fz : List Nat} {e : E} (ds : List D) (d : D) (h0 : s[x]? = some (some (.lst ds))) (ho : o.lookup x = some 1) (h : evE T F e s = .ok d) (ho' : (fzO T fz e d s o).lookup x = some 1) (hl : ds.length < 16777216) (hp : P (exSs T F r (s.set x (some (.lst (ds ++ [d])))) (fzO T fz e d s o))) : P (exSs T F (.cons (.app x fz e) r) s o) := by
  have o1 : ownL 1 x s o = .ok ds := by unfold ownL; rw [ho, h0]; rfl
  have o2 : ownL 1 x s (fzO T fz e d s o) = .ok ds := by unfold ownL; rw [ho', h0]; rfl
  rw [exs_cons, ex_app, o1, bind_ok, h, bind_ok, o2, bind_ok, blt_LIM hl, if_pos rfl]; exact hp
theorem p_setixz {x : Nat} {fz : List Nat} {i e : E} (ds : List D) (d : D) (k : Nat) (h0 : s[x]? = some (some (.lst ds))) (h : evE T F e s = .ok d) (hi : evE T F i s = .ok (.int k)) (ho : (fzO T fz e d s o).lookup x = some 1) (hl : k < ds.length) (hp : P (exSs T F r (s.set x (some (.lst (ds.set k d)))) (fzO T fz e d s o))) : P (exSs T F (.cons (.setix x fz i e) r) s o) := by
  have o2 : ownL 1 x s (fzO T fz e d s o) = .ok ds := by unfold ownL; rw [ho, h0]; rfl
  rw [exs_cons]
  show P (nxS _ (evE T F e s >>= fun d => match evE T F i s with
      | .ok (.int k) => (ownL 1 x s (fzO T fz e d s o) >>= fun ds => putI ds k d >>= fun es => .ok (.nx (s.set x (some (.lst es))) (fzO T fz e d s o)))
      | _ => .no))
  rw [h, bind_ok, hi]
  show P (nxS _ (ownL 1 x s (fzO T fz e d s o) >>= fun ds => putI ds k d >>= fun es => .ok (.nx (s.set x (some (.lst es))) (fzO T fz e d s o))))
  rw [o2, bind_ok, put_nat hl, bind_ok]; exact hp
theorem p_swap {x : Nat} {a b : E} (ds : List D) (i j : Nat) (u v : D) (ha : evE T F a s = .ok (.int i)) (hb : evE T F b s = .ok (.int j)) (h0 : s[x]? = some (some (.lst ds))) (ho : o.lookup x = some 1) (hu : ds[i]? = some u) (hv : ds[j]? = some v) (hp : P (exSs T F r (s.set x (some (.lst ((ds.set i v).set j u)))) o)) : P (exSs T F (.cons (.swap x a b) r) s o) := by
  have o2 : ownL 1 x s o = .ok ds := by unfold ownL; rw [ho, h0]; rfl
  have li : i < ds.length := (List.getElem?_eq_some_iff.mp hu).1
  have lj : j < (ds.set i v).length := by rw [List.length_set]; exact (List.getElem?_eq_some_iff.mp hv).1
  rw [exs_cons]
  show P (nxS _ (match evE T F a s, evE T F b s with
      | .ok (.int i), .ok (.int j) => (ownL 1 x s o >>= fun ds => match L2.atI ds i, L2.atI ds j with
          | some u, some v => (putI ds i v >>= fun es => putI es j u >>= fun es => .ok (.nx (s.set x (some (.lst es))) o))
          | _, _ => .no)
      | _, _ => .no))
  rw [ha, hb]
  show P (nxS _ (ownL 1 x s o >>= fun ds => match L2.atI ds i, L2.atI ds j with
          | some u, some v => (putI ds i v >>= fun es => putI es j u >>= fun es => .ok (.nx (s.set x (some (.lst es))) o))
          | _, _ => .no))
  rw [o2, bind_ok, atI_nat, atI_nat, hu, hv]
  show P (nxS _ (putI ds i v >>= fun es => putI es j u >>= fun es => .ok (.nx (s.set x (some (.lst es))) o)))
  rw [put_nat li, bind_ok, put_nat lj, bind_ok]; exact hp
theorem p_whl {α : Type} {t : E} {fg : List Nat} {b : Ss} (S : α → Env) (O : α → Ow) (J : Nat → α → Prop) (N : Nat) (a0 : α) (hN : N < WF) (hs : wp fg s = S a0) (ho : dropO fg o = O a0) (h0 : J 0 a0)
    (ht : ∀ i a, i ≤ N → J i a → ∃ v, evE T F t (S a) = .ok (.bl v) ∧ (v = false → P (exSs T F r (S a) (O a))) ∧ (v = true → i < N ∧ ∀ P' : R Fl → Prop, (∀ s o a', wp fg s = S a' → dropO fg o = O a' → J (i + 1) a' → P' (.ok (.nx s o))) → P' (exSs T F b (S a) (O a)))) : P (exSs T F (.cons (.whl t fg b) r) s o) := by
  have key : ∀ n i a, i ≤ N → N < i + n → J i a → P (nxS (exSs T F r) (whlR (fun s o => evE T F t s >>= fun d => match d with
      | .bl true => (exSs T F b s o >>= fun r => .ok (true, wpF fg r))
      | .bl false => .ok (false, .nx s o)
      | _ => .no) n (S a) (O a))) := by
    intro n
    induction n with
    | zero => intro i a h1 h2 _; omega
    | succ n ih =>
      intro i a h1 h2 hj
      obtain ⟨v, hv, hf, htr⟩ := ht i a h1 hj
      unfold whlR
      rw [hv, bind_ok]
      cases v with
      | false => exact hf rfl
      | true =>
        obtain ⟨hlt, hb⟩ := htr rfl
        refine hb (fun x => P (nxS (exSs T F r) (match (x >>= fun r => R.ok (true, wpF fg r)) with
          | .ok (false, r) => .ok r
          | .ok (true, .nx s' o') => whlR _ n s' o'
          | .ok (true, .ct s' o') => whlR _ n s' o'
          | .ok (true, .bk s' o') => .ok (.nx s' o')
          | .ok (true, .rt d) => .ok (.rt d)
          | .ex c ds => .ex c ds
          | .no => .no))) fun s' o' a' q1 q2 q3 => ?_
        show P (nxS (exSs T F r) (whlR _ n (wp fg s') (dropO fg o')))
        rw [q1, q2]
        exact ih (i + 1) a' (by omega) (by omega) q3
  rw [exs_cons]
  have e0 : exS T F (.whl t fg b) s o = whlR (fun s o => evE T F t s >>= fun d => match d with
      | .bl true => (exSs T F b s o >>= fun r => .ok (true, wpF fg r))
      | .bl false => .ok (false, .nx s o)
      | _ => .no) WF (wp fg s) (dropO fg o) := rfl
  rw [e0, hs, ho]
  exact key WF 0 a0 (Nat.zero_le _) (by omega) h0
theorem p_unpT {t : Tg} {fz ms : List Nat} {x : Nat} {e : E} (d : D) (s' : Env) (o' : Ow) (h : evE T F e s = .ok d) (ha : asg t d s = .ok s') (ho : (if newT ms x s s' then (x, 1) :: dropO (tgS t) (dropO fz o) else dropO (tgS t) (dropO fz o)) = o') (hp : P (exSs T F r s' o')) : P (exSs T F (.cons (.unpT t fz e ms x) r) s o) := by
  rw [exs_cons]
  have e0 : exS T F (.unpT t fz e ms x) s o = (evE T F e s >>= fun d => match asg t d s with
      | .ok s' => .ok (.nx s' (if newT ms x s s' then (x, 1) :: dropO (tgS t) (dropO fz o) else dropO (tgS t) (dropO fz o)))
      | _ => .no) := rfl
  rw [e0, h, bind_ok, ha]
  show P (exSs T F r s' (if newT ms x s s' then (x, 1) :: dropO (tgS t) (dropO fz o) else dropO (tgS t) (dropO fz o)))
  rw [ho]; exact hp
theorem wpF_nx (fg : List Nat) (s : Env) (o : Ow) : wpF fg (.nx s o) = .nx (wp fg s) (dropO fg o) := rfl
theorem p_for {α : Type} {t : Tg} {it : It} {fz fg : List Nat} {b : Ss} (k : Nat) (c : Nat → D) (S : α → Env) (O : α → Ow) (J : Nat → α → Prop) (Z : D → Prop) (Bk : Env → Ow → Prop) (a0 : α) (s1 : Nat → α → Env)
    (hi : evI T F it s = .ok ((List.range k).map c)) (hs : wp fg s = S a0) (ho : dropO fg (dropO fz o) = O a0) (h0 : J 0 a0)
    (ha : ∀ i, i < k → ∀ a, J i a → asg t (c i) (S a) = .ok (s1 i a))
    (h : ∀ i, i < k → ∀ a, J i a → ∀ P' : R Fl → Prop, (∀ s o a', wp fg s = S a' → dropO fg o = O a' → J (i + 1) a' → P' (.ok (.nx s o))) → (∀ d, Z d → P' (.ok (.rt d))) → (∀ s o, Bk (wp fg s) (dropO fg o) → P' (.ok (.bk s o))) → P' (exSs T F b (s1 i a) (dropO (tgS t) (O a))))
    (he : ∀ a, J k a → P (exSs T F r (S a) (O a)))
    (hz : ∀ d, Z d → P (.ok (.rt d)))
    (hb : ∀ s o, Bk s o → P (exSs T F r s o)) : P (exSs T F (.cons (.for_ t it fz fg b) r) s o) := by
  rw [exs_cons]
  refine for_P (P := fun x => P (nxS (exSs T F r) x)) k c S O J a0 hi hs ho h0 (fun i hk a hj => ?_) he
  have ht : turn T F t fg b (c i) (S a) (O a) = (exSs T F b (s1 i a) (dropO (tgS t) (O a)) >>= fun r => .ok (wpF fg r)) := by
    unfold turn
    rw [ha i hk a hj]
  rw [ht]
  refine h i hk a hj (fun x => (∃ a', J (i + 1) a' ∧ (x >>= fun r => R.ok (wpF fg r)) = .ok (.nx (S a') (O a'))) ∨ (∃ s o, (x >>= fun r => R.ok (wpF fg r)) = .ok (.bk s o) ∧ P (nxS (exSs T F r) (.ok (.nx s o)))) ∨ ∃ d, (x >>= fun r => R.ok (wpF fg r)) = .ok (.rt d) ∧ P (nxS (exSs T F r) (.ok (.rt d)))) (fun s o a' h1 h2 h3 => .inl ⟨a', h3, ?_⟩) (fun d hd => .inr (.inr ⟨d, rfl, hz d hd⟩)) fun s o h => .inr (.inl ⟨_, _, rfl, hb _ _ h⟩)
  show R.ok (wpF fg (.nx s o)) = _
  rw [wpF_nx, h1, h2]
theorem p_set {i : Nat} {e : E} (d : D) (h : evE T F e s = .ok d) (hp : P (exSs T F r (s.set i (some d)) (setO i 0 o))) : P (exSs T F (.cons (.set i 0 [] e) r) s o) := p_setz d h (by rw [fzO_nil]; exact hp)
theorem p_set1 {i : Nat} {e : E} (d : D) (hk : frk T 1 e = 1) (h : evE T F e s = .ok d) (hp : P (exSs T F r (s.set i (some d)) (setO i 1 o))) : P (exSs T F (.cons (.set i 1 [] e) r) s o) := p_set1z d hk h (by rw [fzO_nil]; exact hp)
theorem p_seti {i : Nat} {fz : List Nat} {e : E} (k : Int) (h : evE T F e s = .ok (.int k)) (hp : P (exSs T F r (s.set i (some (.int k))) (setO i 0 o))) : P (exSs T F (.cons (.set i 0 fz e) r) s o) := p_setz (.int k) h (by rw [fzO_int]; exact hp)
theorem p_app {x : Nat} {e : E} (ds : List D) (d : D) (h0 : s[x]? = some (some (.lst ds))) (ho : o.lookup x = some 1) (h : evE T F e s = .ok d) (hl : ds.length < 16777216) (hp : P (exSs T F r (s.set x (some (.lst (ds ++ [d])))) o)) : P (exSs T F (.cons (.app x [] e) r) s o) := p_appz ds d h0 ho h (by rw [fzO_nil]; exact ho) hl (by rw [fzO_nil]; exact hp)
theorem p_setix {x : Nat} {i e : E} (ds : List D) (d : D) (k : Nat) (h0 : s[x]? = some (some (.lst ds))) (h : evE T F e s = .ok d) (hi : evE T F i s = .ok (.int k)) (ho : o.lookup x = some 1) (hl : k < ds.length) (hp : P (exSs T F r (s.set x (some (.lst (ds.set k d)))) o)) : P (exSs T F (.cons (.setix x [] i e) r) s o) := p_setixz ds d k h0 h hi (by rw [fzO_nil]; exact ho) hl (by rw [fzO_nil]; exact hp)
theorem p_unp {t : Tg} {e : E} (d : D) (s' : Env) (h : evE T F e s = .ok d) (ha : asg t d s = .ok s') (hp : P (exSs T F r s' (dropO (tgS t) o))) : P (exSs T F (.cons (.unp t [] e) r) s o) := p_unpz d s' h ha (by rw [fzO_nil]; exact hp)
@[simp] theorem wp_nil (s : Env) : wp [] s = s := rfl
@[simp] theorem wp_cons (v : Nat) (vs : List Nat) (s : Env) : wp (v :: vs) s = (wp vs s).set v none := rfl
theorem op_fdiv_ex {a b q : Int} (h : b ≠ 0) (hd : divOk b = true) (he : a = b * q) : opD T F .fdiv (.int a) (.int b) = .ok (.int q) := fdiv_ex h hd he
theorem ev_biE {b : Bf} {es : Es} {s : Env} {xs : List D} {r : R D} (hx : evEs T F es s = .ok xs) (hr : bfD T F b xs = r) : evE T F (.bi b es) s = r := by rw [ev_bi, hx, bind_ok]; exact hr
theorem ev_cmpE {o : Cm} {a b : E} {s : Env} {x y : D} {r : R D} (ha : evE T F a s = .ok x) (hb : evE T F b s = .ok y) (hr : cmpD T F o x y = r) : evE T F (.cmp o a b) s = r := by rw [ev_cmp, ha, bind_ok, hb, bind_ok]; exact hr
theorem ev_binE {o : Op} {a b : E} {s : Env} {x y : D} {r : R D} (ha : evE T F a s = .ok x) (hb : evE T F b s = .ok y) (hr : opD T F o x y = r) : evE T F (.bin o a b) s = r := by rw [ev_bin, ha, bind_ok, hb, bind_ok]; exact hr
theorem ev_ixE {a b : E} {s : Env} {x y : D} {r : R D} (ha : evE T F a s = .ok x) (hb : evE T F b s = .ok y) (hr : ixD x y = r) : evE T F (.ix a b) s = r := by rw [ev_ix, ha, bind_ok, hb, bind_ok]; exact hr
theorem evs_consE {e : E} {es : Es} {s : Env} {x : D} {xs : List D} (he : evE T F e s = .ok x) (hs : evEs T F es s = .ok xs) : evEs T F (.cons e es) s = .ok (x :: xs) := by rw [evs_cons, he, bind_ok, hs, bind_ok]
theorem ev_tupE {es : Es} {s : Env} {xs : List D} (hx : evEs T F es s = .ok xs) : evE T F (.tup es) s = .ok (.tup xs) := by rw [ev_tup, hx, bind_ok]
theorem ev_lstE {es : Es} {s : Env} {xs : List D} (hx : evEs T F es s = .ok xs) : evE T F (.lst es) s = .ok (.lst xs) := by rw [ev_lst, hx, bind_ok]
theorem setO_fzO (i : Nat) (e : E) (d : D) (s : Env) (o : Ow) : setO i 1 (fzO T [i] e d s o) = setO i 1 o := by
  unfold fzO
  split
  · rfl
  · show (i, 1) :: dropO [i] (dropO [i] o) = (i, 1) :: dropO [i] o
    unfold dropO
    rw [List.filter_filter]
    congr 2
    funext p
    simp
theorem noLs_ints (cs : Option Nat) : ∀ ns : List Int, noL.noLs T cs (ns.map D.int) = true
  | [] => rfl
  | x :: ns => by
    show (noL T cs (.int x) && noL.noLs T cs (ns.map D.int)) = true
    rw [noLs_ints cs ns]; rfl
theorem fzO_row {fz : List Nat} {e : E} {L : Nat} {u : Nat → Int} {s : Env} {o : Ow} (h : frk T 1 e = 1) : fzO T fz e (rowD L u) s o = o := by
  unfold fzO fre
  have : rowL L u = ((List.range L).map u).map D.int := by rw [List.map_map]; rfl
  rw [h]
  have e1 : (noL T (selfC s o) (rowD L u) || (Nat.ble 1 1 && noL.noLs T (selfC s o) (rowL L u))) = true := by
    rw [this, noLs_ints]; simp [Nat.ble]
  show (if ((noL T (selfC s o) (rowD L u) || (Nat.ble 1 1 && noL.noLs T (selfC s o) (rowL L u))) || offO fz (rowD L u) s o) = true then o else dropO fz o) = o
  rw [e1]; rfl
theorem p_ret1lc {vs : List Nat} {t : Tg} {it : It} {c : Eo} {e : E} (d : D) (h : evE T F (.lc vs t it c e) s = .ok d) (hp : P (.ok (.rt d))) : P (exSs T F (.cons (.ret 1 (.lc vs t it c e)) r) s o) := by
  rw [exs_cons]
  show P (nxS _ (evE T F (.lc vs t it c e) s >>= fun d => if (1 : Nat) = 0 then R.ok (Fl.rt d) else if Nat.ble 1 (frk T 1 (.lc vs t it c e)) && Nat.ble 1 1 then .ok (.rt d) else .no))
  rw [h, bind_ok, if_neg (by decide), frk_lc]
  exact hp
theorem p_ret1li {es : Es} (d : D) (h : evE T F (.bi .list es) s = .ok d) (hp : P (.ok (.rt d))) : P (exSs T F (.cons (.ret 1 (.bi .list es)) r) s o) := by
  rw [exs_cons]
  show P (nxS _ (evE T F (.bi .list es) s >>= fun d => if (1 : Nat) = 0 then R.ok (Fl.rt d) else if Nat.ble 1 (frk T 1 (.bi .list es)) && Nat.ble 1 1 then .ok (.rt d) else .no))
  rw [h, bind_ok, if_neg (by decide)]
  exact hp
theorem lcI_cond {vs : List Nat} {t : Tg} {c e : E} {s s' : Env} {x d : D} {b : Bool} (h : asg t x (wp vs s) = .ok s') (hc : evE T F c s' = .ok (.bl b)) (he : evE T F e s' = .ok d) : lcI T F vs t (.some c) e s x = .ok (if b then some d else none) := by
  unfold lcI
  rw [h, bind_ok, evc_some, hc]
  cases b
  · rfl
  · show (evE T F e s' >>= fun d => R.ok (some d)) = _
    rw [he]; rfl
theorem mapR_filt {f : D → R (Option D)} {c g : Nat → D} {p : Nat → Bool} : ∀ xs : List Nat, (∀ i, i ∈ xs → f (c i) = .ok (if p i then some (g i) else none)) → mapR f (xs.map c) = .ok ((xs.filter p).map g)
  | [], _ => rfl
  | x :: xs, h => by
    rw [List.map_cons]
    unfold mapR
    rw [h x (by simp), mapR_filt xs fun y hy => h y (List.mem_cons_of_mem _ hy)]
    cases e : p x with
    | true => rw [List.filter_cons_of_pos e]; rfl
    | false => rw [List.filter_cons_of_neg (by rw [e]; decide)]; rfl
theorem ev_lcF {vs : List Nat} {t : Tg} {it : It} {c0 : Eo} {e : E} {s : Env} {k : Nat} {c g : Nat → D} {p : Nat → Bool} (hi : evI T F it s = .ok ((List.range k).map c)) (hx : ∀ i, i < k → lcI T F vs t c0 e s (c i) = .ok (if p i then some (g i) else none)) : evE T F (.lc vs t it c0 e) s = .ok (.lst (((List.range k).filter p).map g)) := by
  rw [ev_lc, hi, bind_ok, mapR_filt (g := g) (p := p) (List.range k) fun i hi => hx i (List.mem_range.mp hi)]; rfl
theorem ev_andT {a b : E} {s : Env} {r : R D} (ha : evE T F a s = .ok (.bl true)) (hb : evE T F b s = r) : evE T F (.and_ a b) s = r := by rw [ev_and, ha, bind_ok, iteR_true]; exact hb
theorem ev_andF {a b : E} {s : Env} (ha : evE T F a s = .ok (.bl false)) : evE T F (.and_ a b) s = .ok (.bl false) := by rw [ev_and, ha, bind_ok, iteR_false]
theorem ev_orF {a b : E} {s : Env} {r : R D} (ha : evE T F a s = .ok (.bl false)) (hb : evE T F b s = r) : evE T F (.or_ a b) s = r := by rw [ev_or, ha, bind_ok, iteR_false]; exact hb
theorem ev_orT {a b : E} {s : Env} (ha : evE T F a s = .ok (.bl true)) : evE T F (.or_ a b) s = .ok (.bl true) := by rw [ev_or, ha, bind_ok, iteR_true]
theorem ev_notE {a : E} {s : Env} {b : Bool} (ha : evE T F a s = .ok (.bl b)) : evE T F (.not_ a) s = .ok (.bl !b) := by rw [ev_not, ha, bind_ok, notD_bl]
theorem ev_iteT {t a b : E} {s : Env} {r : R D} (ht : evE T F t s = .ok (.bl true)) (ha : evE T F a s = r) : evE T F (.ite t a b) s = r := by rw [ev_ite, ht, bind_ok, iteR_true]; exact ha
theorem ev_iteF {t a b : E} {s : Env} {r : R D} (ht : evE T F t s = .ok (.bl false)) (ha : evE T F b s = r) : evE T F (.ite t a b) s = r := by rw [ev_ite, ht, bind_ok, iteR_false]; exact ha
theorem lcI_ok {vs : List Nat} {t : Tg} {e : E} {s s' : Env} {x d : D} (h : asg t x (wp vs s) = .ok s') (he : evE T F e s' = .ok d) : lcI T F vs t .none e s x = .ok (some d) := by
  unfold lcI
  rw [h, bind_ok, evc_none, bind_ok, he]; rfl
@[simp] theorem cmp_eq_int (a b : Int) : cmpD T F .eq (.int a) (.int b) = .ok (.bl (decide (a = b))) := rfl
@[simp] theorem cmp_ne_int (a b : Int) : cmpD T F .ne (.int a) (.int b) = .ok (.bl (!decide (a = b))) := rfl
@[simp] theorem cmp_lt_int (a b : Int) : cmpD T F .lt (.int a) (.int b) = .ok (.bl (decide (a < b))) := rfl
@[simp] theorem cmp_le_int (a b : Int) : cmpD T F .le (.int a) (.int b) = .ok (.bl (decide (a ≤ b))) := rfl
@[simp] theorem cmp_gt_int (a b : Int) : cmpD T F .gt (.int a) (.int b) = .ok (.bl (decide (b < a))) := rfl
@[simp] theorem cmp_ge_int (a b : Int) : cmpD T F .ge (.int a) (.int b) = .ok (.bl (decide (b ≤ a))) := rfl
@[simp] theorem len_lst (ds : List D) : bfD T F .len [.lst ds] = .ok (.int ds.length) := rfl
@[simp] theorem len_tup (ds : List D) : bfD T F .len [.tup ds] = .ok (.int ds.length) := rfl
@[simp] theorem len_scr (ns : List Int) : bfD T F .len [.scr ns] = .ok (.int ns.length) := by
  show biD .len [.scr ns] = _
  show R.ok (D.int ((ns.map D.int).length : Nat)) = _
  rw [List.length_map]
@[simp] theorem int_int (i : Int) : bfD T F .int [.int i] = .ok (.int i) := rfl
@[simp] theorem int_bl (b : Bool) : bfD T F .int [.bl b] = .ok (.int (if b then 1 else 0)) := rfl
@[simp] theorem tuple_lst (ds : List D) : bfD T F .tuple [.lst ds] = .ok (.tup ds) := rfl
@[simp] theorem tuple_tup (ds : List D) : bfD T F .tuple [.tup ds] = .ok (.tup ds) := rfl
@[simp] theorem list_lst (ds : List D) : bfD T F .list [.lst ds] = .ok (.lst ds) := rfl
@[simp] theorem list_tup (ds : List D) : bfD T F .list [.tup ds] = .ok (.lst ds) := rfl
@[simp] theorem abs_int (a : Int) : bfD T F .abs [.int a] = .ok (.int (if a < 0 then -a else a)) := rfl
@[simp] theorem gcd_int (a b : Int) : bfD T F .gcd [.int a, .int b] = .ok (.int (Nat.gcd a.natAbs b.natAbs : Nat)) := rfl
@[simp] theorem min_int (a b : Int) : bfD T F .min2 [.int a, .int b] = .ok (.int (if b < a then b else a)) := rfl
@[simp] theorem max_int (a b : Int) : bfD T F .max2 [.int a, .int b] = .ok (.int (if b > a then b else a)) := rfl
@[simp] theorem op_sub (a b : Int) : opD T F .sub (.int a) (.int b) = .ok (.int (a - b)) := rfl
@[simp] theorem op_add (a b : Int) : opD T F .add (.int a) (.int b) = .ok (.int (a + b)) := rfl
theorem op_mul {a b : Int} (h : mulOk a b = true) : opD T F .mul (.int a) (.int b) = .ok (.int (a * b)) := mul_ok h
theorem op_mod {a b : Int} (h : 0 < b) : opD T F .mod (.int a) (.int b) = .ok (.int (a % b)) := mod_pos h
theorem op_fdiv {a b : Int} (h : 0 < b) (hd : divOk b = true) : opD T F .fdiv (.int a) (.int b) = .ok (.int (a / b)) := fdiv_pos h hd
end
end Fc

namespace Fc
theorem run_pivoted {n h m r c : Nat} {t t' : Nat → Nat → Int} {D0 : Int} (hr : r < h) (hc : c < m) (hh : h < 16777216) (hD : D0 ≠ 0) (hd : divOk D0 = true)
    (h1 : ∀ j, j < m → ∀ q, q < h → mulOk (t r c) (t q j) = true) (h2 : ∀ j, j < m → ∀ q, q < h → mulOk (t q c) (t r j) = true)
    (he : ∀ q, q < h → q ≠ r → ∀ j, j < m → t r c * t q j - t q c * t r j = D0 * t' q j) (hr' : ∀ j, t' r j = t r j) :
    call T (n + 1) 39 [tabD h m t, .int r, .int c, .int D0] = .ok (tabD h m t') := by
  refine call_P (Q := fun x => x = .ok (tabD h m t')) (d := d_pivoted) rfl rfl rfl fun P hP _ => ?_
  have i4 : ixD (tabD h m t) (.int r) = .ok (rowD m (t r)) := ix_rngL _ hr
  have i5 : ixD (rowD m (t r)) (.int c) = .ok (.int (t r c)) := ix_rngL _ hc
  refine p_set (rowD m (t r)) (by simpa [inS, d_pivoted] using i4) ?_
  refine p_set (.int (t r c)) (by simpa [inS, d_pivoted] using i5) ?_
  refine p_set1 (.lst []) (frk_nil _ _) (by simp) ?_
  refine p_for (α := Nat) h (fun q => .tup [.int q, rowD m (t q)]) (fun a => [some (tabD h m t), some (.int r), some (.int c), some (.int D0), some (rowD m (t r)), some (.int (t r c)), some (tabD a m t'), none, none, none, none, none]) (fun _ => [(6, 1)]) (fun i a => a = i) (fun _ => False) (fun _ _ => False) 0
    (fun q a => [some (tabD h m t), some (.int r), some (.int c), some (.int D0), some (rowD m (t r)), some (.int (t r c)), some (tabD a m t'), some (.int q), some (rowD m (t q)), none, none, none]) ?_ rfl rfl rfl (fun i hi a ha => rfl) (fun i hi a ha P' hn _ _ => ?_) (fun a ha => ?_) (fun _ z => z.elim) (fun _ _ z => z.elim)
  · show (evE _ _ (.var 0) _ >>= enumR) = _
    simp [inS, d_pivoted, rng_enum, Function.comp_def]
  · subst ha
    have hs : tabL a m t' ++ [rowD m (t' a)] = tabL (a + 1) m t' := (rng_snoc a fun q => rowD m (t' q)).symm
    refine p_if (decide ((a : Int) = r)) rfl (fun e => ?_) fun e => ?_
    · have e : a = r := by have := of_decide_eq_true e; omega
      subst e
      refine p_app (tabL a m t') (rowD m (t a)) rfl rfl rfl (by rw [rng_len]; omega) ?_
      refine hn _ _ (a + 1) ?_ rfl rfl
      have : rowD m (t a) = rowD m (t' a) := congrArg D.lst (rng_congr fun j _ => by rw [hr'])
      rw [this, hs]
      rfl
    · have e : a ≠ r := by have := of_decide_eq_false e; omega
      have i9 : ixD (rowD m (t a)) (.int c) = .ok (.int (t a c)) := ix_rngL _ hc
      refine p_set (.int (t a c)) (by simpa using i9) ?_
      refine p_app (tabL a m t') (rowD m (t' a)) rfl rfl ?_ (by rw [rng_len]; omega) ?_
      · refine ev_lcR (k := m) (c := fun j => .tup [.int (t a j), .int (t r j)]) ?_ fun j hj => ?_
        · show (evE _ _ (.var 8) _ >>= fun x => evE _ _ (.var 4) _ >>= fun y => zipR x y) = _
          simp [rng_zip, Function.comp_def]
        · refine lcI_ok rfl ?_
          simp [op_mul (h1 j hj a hi), op_mul (h2 j hj a hi)]
          exact op_fdiv_ex hD hd (he a hi e j hj)
      · refine hn _ _ (a + 1) ?_ rfl rfl
        rw [hs]
        rfl
  · subst ha
    exact p_ret1v (tabL a m t') rfl rfl (hP _ rfl)
end Fc

namespace Fc
theorem run_first {n h m r c : Nat} {t : Nat → Nat → Int} (hr : r ≤ h) (hc : c < m) (hh : h < 16777216) :
    (∃ q : Nat, r ≤ q ∧ q < h ∧ t q c ≠ 0 ∧ call T (n + 1) 38 [tabD h m t, .int r, .int c] = .ok (.int q)) ∨ (∀ q, r ≤ q → q < h → t q c = 0) ∧ call T (n + 1) 38 [tabD h m t, .int r, .int c] = .ok .non := by
  refine call_P (Q := fun x => (∃ q : Nat, r ≤ q ∧ q < h ∧ t q c ≠ 0 ∧ x = .ok (.int q)) ∨ (∀ q, r ≤ q → q < h → t q c = 0) ∧ x = .ok .non) (d := d_first_filled) rfl rfl rfl fun P hP _ => ?_
  refine p_for (α := Unit) (h - r) (fun i => .int ((r + i : Nat) : Int)) (fun _ => [some (tabD h m t), some (.int r), some (.int c), none]) (fun _ => []) (fun i _ => ∀ q, r ≤ q → q < r + i → t q c = 0) (fun d => ∃ q : Nat, r ≤ q ∧ q < h ∧ t q c ≠ 0 ∧ d = .int q) (fun _ _ => False) ()
    (fun i _ => [some (tabD h m t), some (.int r), some (.int c), some (.int ((r + i : Nat) : Int))]) ?_ rfl rfl (fun q _ _ => by omega) (fun i hi a ha => rfl) (fun i hi a ha P' hn hz _ => ?_) (fun a ha => ?_) (fun d ⟨q, h1, h2, h3, e⟩ => hP _ (.inl ⟨q, h1, h2, h3, by rw [e]⟩)) (fun _ _ z => z.elim)
  · exact evi_rngN2 (by rfl) (by simp [d_first_filled, inS]) (by omega) (by omega)
  · have i1 : ixD (tabD h m t) (.int ((r + i : Nat) : Int)) = .ok (rowD m (t (r + i))) := ix_rngL _ (by omega)
    have i2 : ixD (rowD m (t (r + i))) (.int c) = .ok (.int (t (r + i) c)) := ix_rngL _ hc
    refine p_if (!decide (t (r + i) c = 0)) (by simp only [ev_cmp, ev_ix, ev_var]; exact (congrArg (fun x => (x >>= fun y => ixD y (.int c)) >>= fun x => cmpD T (call T n) .ne x (.int 0)) i1).trans ((congrArg (fun x => x >>= fun x => cmpD T (call T n) .ne x (.int 0)) i2).trans rfl)) (fun e => ?_) fun e => ?_
    · exact p_ret (.int ((r + i : Nat) : Int)) rfl (hz _ ⟨r + i, by omega, by omega, by simpa using e, rfl⟩)
    · refine hn _ _ () rfl rfl fun q h1 h2 => ?_
      have e : t (r + i) c = 0 := by simpa using e
      rcases Nat.lt_or_ge q (r + i) with z | z
      · exact ha q h1 z
      · have : q = r + i := by omega
        rw [this]; exact e
  · exact p_ret .non rfl (hP _ (.inr ⟨fun q h1 h2 => ha q h1 (by omega), rfl⟩))
/-! squares -/
def sqL (z : Nat) (f : Nat → Int) : List Int := (List.range z).flatMap fun i => (List.range (z - i)).map fun j => f i * f (i + j)
def sqN (z : Nat) : Nat := ((List.range z).map fun i => z - i).sum
theorem sqL_len (z : Nat) (f : Nat → Int) : (sqL z f).length = sqN z := by
  unfold sqL sqN
  rw [List.length_flatMap]
  congr 1
  exact List.map_congr_left fun i _ => by simp
theorem lI_row (ns : List Int) : lI ns = rowL ns.length fun i => ns.getD i 0 := by
  apply List.ext_getElem?
  intro j
  by_cases hj : j < ns.length
  · simp [hj]
  · simp [hj]
def sqF (z : Nat) (f : Nat → Int) (l : Nat) : Int := (sqL z f).getD l 0
theorem sq_row (z : Nat) (f : Nat → Int) : D.lst (lI (sqL z f)) = rowD (sqN z) (sqF z f) := by
  rw [lI_row, sqL_len]; rfl
theorem sqF_bd {z : Nat} {f : Nat → Int} {B : Nat} (h : ∀ i, i < z → (f i).natAbs ≤ B) (l : Nat) : (sqF z f l).natAbs ≤ B * B := by
  unfold sqF
  by_cases hl : l < (sqL z f).length
  · have : (sqL z f)[l]? = some ((sqL z f)[l]) := List.getElem?_eq_getElem hl
    rw [List.getD_eq_getElem?_getD, this]
    have hm := List.getElem_mem hl
    generalize (sqL z f)[l] = x at hm
    unfold sqL at hm
    obtain ⟨i, hi, hx⟩ := List.mem_flatMap.mp hm
    obtain ⟨j, hj, rfl⟩ := List.mem_map.mp hx
    have hi := List.mem_range.mp hi
    have hj := List.mem_range.mp hj
    show (f i * f (i + j)).natAbs ≤ _
    rw [Int.natAbs_mul]
    exact Nat.mul_le_mul (h i hi) (h (i + j) (by omega))
  · rw [List.getD_eq_getElem?_getD, List.getElem?_eq_none (by omega)]
    show (0 : Int).natAbs ≤ _
    simp
theorem flatL_map {α : Type} (g : α → List D) : ∀ xs : List α, evE.flatL (xs.map fun x => .lst (g x)) = some (xs.flatMap g)
  | [] => rfl
  | x :: xs => by
    show (match evE.flatL (xs.map fun x => .lst (g x)) with
      | some l => some (g x ++ l)
      | none => none) = _
    rw [flatL_map g xs]
    rfl
theorem ev_lc2R {T : Tab} {F : Nat → List D → R D} {vs vs1 : List Nat} {t t1 : Tg} {it it1 : It} {e : E} {s : Env} {k : Nat} {k2 : Nat → Nat} {c : Nat → D} {c2 g : Nat → Nat → D} {s1 : Nat → Env} {s2 : Nat → Nat → Env} (hi : evI T F it s = .ok ((List.range k).map c)) (ha : ∀ i, i < k → asg t (c i) (wp vs s) = .ok (s1 i)) (hi1 : ∀ i, i < k → evI T F it1 (s1 i) = .ok ((List.range (k2 i)).map (c2 i)))
    (ha1 : ∀ i, i < k → ∀ j, j < k2 i → asg t1 (c2 i j) (wp vs1 (s1 i)) = .ok (s2 i j)) (hx : ∀ i, i < k → ∀ j, j < k2 i → evE T F e (s2 i j) = .ok (g i j)) (hl : ((List.range k).flatMap fun i => (List.range (k2 i)).map (g i)).length ≤ 16777216) :
    evE T F (.lc2 vs vs1 t it t1 it1 e) s = .ok (.lst ((List.range k).flatMap fun i => (List.range (k2 i)).map (g i))) := by
  show (evI T F it s >>= fun xs => mapR (fun x => asg t x (wp vs s) >>= fun s' => evI T F it1 s' >>= fun zs => mapR (fun z => asg t1 z (wp vs1 s') >>= fun s2 => evE T F e s2 >>= fun d => .ok (some d)) zs >>= fun ws => .ok (some (.lst ws))) xs >>= fun ys => match evE.flatL ys with
      | some l => if l.length ≤ LIM then R.ok (D.lst l) else R.no
      | none => .no) = _
  rw [hi, bind_ok, mapR_rng (g := fun i => .lst ((List.range (k2 i)).map (g i))) fun i hk => ?_, bind_ok, flatL_map]
  · exact if_pos hl
  · rw [ha i hk, bind_ok, hi1 i hk, bind_ok, mapR_rng (g := g i) fun j hj => ?_]
    · rfl
    · rw [ha1 i hk j hj, bind_ok, hx i hk j hj]; rfl
theorem gcdL_ne {b : Int} {ns : List Int} (h : b ≠ 0 ∨ ∃ x ∈ ns, x ≠ 0) : 0 < gcdL b ns ∨ (ns = [] ∧ b = gcdL b ns) := by
  unfold gcdL
  induction ns generalizing b with
  | nil => exact .inr ⟨rfl, rfl⟩
  | cons x ns ih =>
    left
    show 0 < ns.foldl gcdI (gcdI b x)
    by_cases e : gcdI b x = 0
    · have e' : Nat.gcd b.natAbs x.natAbs = 0 := by unfold gcdI at e; omega
      have hb := Nat.eq_zero_of_gcd_eq_zero_left e'
      have hx := Nat.eq_zero_of_gcd_eq_zero_right e'
      rcases h with h | ⟨y, hy, hz⟩
      · omega
      · rcases List.mem_cons.mp hy with rfl | hy
        · omega
        · rcases ih (b := gcdI b x) (.inr ⟨y, hy, hz⟩) with q | ⟨q, _⟩
          · exact q
          · subst q; cases hy
    · rcases ih (b := gcdI b x) (.inl e) with q | ⟨q, r⟩
      · exact q
      · subst q
        show 0 < gcdI b x
        have : 0 ≤ gcdI b x := by unfold gcdI; omega
        omega
theorem gcdL_dvd : ∀ (ns : List Int) (b : Int), gcdL b ns ∣ b ∧ ∀ x ∈ ns, gcdL b ns ∣ x
  | [], b => ⟨Int.dvd_refl _, fun x h => by cases h⟩
  | y :: ns, b => by
    obtain ⟨h1, h2⟩ := gcdL_dvd ns (gcdI b y)
    have e1 : gcdI b y ∣ b := Int.natAbs_dvd_natAbs.mp (by unfold gcdI; rw [Int.natAbs_natCast]; exact Nat.gcd_dvd_left ..)
    have e2 : gcdI b y ∣ y := Int.natAbs_dvd_natAbs.mp (by unfold gcdI; rw [Int.natAbs_natCast]; exact Nat.gcd_dvd_right ..)
    refine ⟨Int.dvd_trans h1 e1, fun x hx => ?_⟩
    rcases List.mem_cons.mp hx with rfl | hx
    · exact Int.dvd_trans h1 e2
    · exact h2 x hx
end Fc

namespace Fc
theorem ev_callE {T : Tab} {F : Nat → List D → R D} {f : Nat} {es : Es} {s : Env} {xs : List D} {d : Def} {r : R D} (hf : T.fn f = some d) (hx : evEs T F es s = .ok xs) (hr : F f xs = r) : evE T F (.call f es) s = r := by
  show (match T.fn f with
    | some _ => (evEs T F es s >>= fun xs => F f xs)
    | none => .no) = _
  rw [hf]
  show (evEs T F es s >>= fun xs => F f xs) = _
  rw [hx]; exact hr
theorem sIx_nat (n d k : Nat) : HT.sIx n d (some (k : Int)) = min k n := by
  show (if (k : Int) < 0 then ((k : Int) + n).toNat else min (k : Int).toNat n) = _
  rw [if_neg (by omega), Int.toNat_natCast]
theorem cut_take (ds : List D) (k : Nat) : cutD ds none (some (k : Int)) = ds.take k := by
  unfold cutD
  rw [sIx_nat]
  show (ds.drop 0).take (min k ds.length - 0) = _
  rw [List.drop_zero, Nat.sub_zero]
  by_cases h : k ≤ ds.length
  · rw [Nat.min_eq_left h]
  · rw [Nat.min_eq_right (by omega), List.take_of_length_le (by omega), List.take_of_length_le (by omega)]
theorem cut_drop (ds : List D) (k : Nat) : cutD ds (some (k : Int)) none = ds.drop k := by
  unfold cutD
  rw [sIx_nat]
  show (ds.drop (min k ds.length)).take (ds.length - min k ds.length) = _
  by_cases h : k ≤ ds.length
  · rw [Nat.min_eq_left h, List.take_of_length_le (by simp)]
  · rw [Nat.min_eq_right (by omega), List.drop_of_length_le (by omega), List.drop_of_length_le (by omega), List.take_nil]
def exO : Bool → Ow
  | false => [(3, 1), (2, 1)]
  | true => [(2, 1), (3, 1)]
def exE (cc : Nat → D) (h m : Nat) (a : EA × Bool) : Env := [some (.lst ((List.range m).map cc)), some (.int h), some (tabD h m a.1.t), some (.lst ((List.range a.1.r).map fun i => .int (a.1.b i))), some (.int a.1.D), none, none, none, none]
theorem run_expressedG {n h m B : Nat} {C : Nat → Nat → Int} {cc : Nat → D} (hcc : ∀ k, k < m → ∀ l, l < h → ixD (cc k) (.int l) = .ok (.int (C k l))) (hlen : 0 < m → bfD T (call T (n + 1)) .len [cc 0] = .ok (.int h)) (hm : m < 10000) (hh : h < 10000) (h0 : 0 < m ∨ h = 0) (hB : ∀ j l, (C j l).natAbs ≤ B) (h1 : 1 ≤ B) (hN : ∀ r, r ≤ h → r ≤ m → Sm (fac r * B ^ r) 2000) :
    ∃ a : EA, EI C h m a ∧ call T (n + 2) 40 [.lst ((List.range m).map cc)] = .ok (.tup [.lst ((List.range a.r).map fun i => .int (a.b i)), tabD a.r m a.t, .int a.D]) := by
  refine call_P (Q := fun x => ∃ a : EA, EI C h m a ∧ x = .ok (.tup [.lst ((List.range a.r).map fun i => .int (a.b i)), tabD a.r m a.t, .int a.D])) (d := d_expressed) rfl rfl rfl fun P hP _ => ?_
  refine p_set (.int h) ?_ ?_
  · by_cases hm : 0 < m
    · refine ev_iteT (ev_cmpE (ev_biE rfl (by rw [len_lst, rng_len])) rfl (by rw [cmp_gt_int, decide_eq_true (by omega)])) (ev_biE (evs_consE (ev_ixE rfl rfl (ix_rngL (i := 0) _ hm)) rfl) (hlen hm))
    · have e1 : m = 0 := by omega
      have e2 : h = 0 := by omega
      subst e1 e2
      exact ev_iteF (ev_cmpE (ev_biE rfl (by rw [len_lst, rng_len])) rfl (by rw [cmp_gt_int]; rfl)) rfl
  refine p_set1 (tabD h m fun q j => C j q) (frk_lc ..) ?_ ?_
  · refine ev_lcR (k := h) (c := fun (i : Nat) => .int i) (evi_rngN rfl (by omega)) fun q hq => lcI_ok rfl ?_
    refine ev_lcR (k := m) (c := cc) (by simp [d_expressed, inS]) fun j hj => lcI_ok rfl (ev_ixE rfl rfl (hcc j hj q hq))
  refine p_set1 (.lst []) (frk_nil _ _) rfl ?_
  refine p_set (.int 1) rfl ?_
  refine p_for (α := EA × Bool) m (fun (i : Nat) => .int i) (exE cc h m) (fun a => exO a.2) (fun i a => EI C h i a.1) (fun _ => False) (fun _ _ => False) (⟨0, fun _ => 0, fun q j => C j q, fun q j => C j q, 1⟩, false)
    (fun i a => (exE cc h m a).set 5 (some (.int i))) (evi_rngN (by simp [d_expressed, inS]) (by omega)) rfl rfl (ei_zero C h _) (fun i hi a ha => rfl) (fun i hi a ha P' hn _ _ => ?_) (fun a ha => ?_) (fun _ z => z.elim) (fun _ _ z => z.elim)
  · obtain ⟨⟨r, b, t, M, D0⟩, w⟩ := a
    have ha : EI C h i ⟨r, b, t, M, D0⟩ := ha
    have hrh : r ≤ h := ha.rh
    have hri : r ≤ i := ha.ri
    refine p_seti (r : Int) (by simp [exE]) ?_
    rcases run_first (n := n) (h := h) (m := m) (r := r) (c := i) (t := t) hrh hi (by omega) with ⟨q, q1, q2, q3, q4⟩ | ⟨q1, q2⟩
    · refine p_seti (q : Int) (ev_callE (d := d_first_filled) rfl (by rfl) q4) ?_
      refine p_if true rfl (fun _ => ?_) (fun z => nomatch z)
      obtain ⟨t', t1, t2, I'⟩ := ei_piv ha q1 q2 q3
      have er : swp t r q r = t q := by
        unfold swp
        by_cases e : r = q
        · rw [if_pos e, e]
        · rw [if_neg e, if_pos rfl]
      have esw : ((tabL h m t).set r (rowD m (t q))).set q (rowD m (t r)) = tabL h m (swp t r q) := by
        rw [rng_set, rng_set]
        refine rng_congr fun j _ => ?_
        unfold swp
        by_cases e1 : j = q
        · rw [if_pos e1, if_pos e1]
        · rw [if_neg e1, if_neg e1]
          by_cases e2 : j = r
          · rw [if_pos e2, if_pos e2]
          · rw [if_neg e2, if_neg e2]
      have bd := fun p j hp => ei_bd ha hB h1 p j hp
      have bd0 := hN (r + 1) (by omega) (by omega)
      have bds : ∀ p j, p < h → Sm (swp t r q p j).natAbs 2000 := fun p j hp => by
        obtain ⟨k, e1, hk⟩ := swp_of (t := t) (r := r) (q := q) p
        rw [e1]
        exact sm_le (bd k j (by rcases hk with ⟨a, b⟩ | ⟨a, b⟩ | ⟨a, a', b⟩ <;> omega)) bd0
      have hdiv : divOk D0 = true := sm_div (k := 2000) (sm_le (ei_bdD ha hB) (hN r hrh (by omega))) (by decide)
      have hpv := run_pivoted (n := n) (h := h) (m := m) (r := r) (c := i) (t := swp t r q) (t' := t') (D0 := D0) (by omega) hi (by omega) ha.inv.nz hdiv
        (fun j _ p hp => sm_mulOk (bds _ _ (by omega)) (bds _ _ hp) (by decide)) (fun j _ p hp => sm_mulOk (bds _ _ hp) (bds _ _ (by omega)) (by decide))
        (fun p hp hpr j _ => by rw [er]; exact t2 p hp hpr j) (fun j => by rw [er]; exact t1 j)
      refine p_swap (tabL h m t) r q (rowD m (t r)) (rowD m (t q)) rfl rfl rfl (by cases w <;> rfl) (rng_get _ (by omega)) (rng_get _ q2) ?_
      rw [esw]
      refine p_set1z (tabD h m t') rfl (ev_callE (d := d_pivoted) rfl (by rfl) hpv) ?_
      have ot : ∀ o : Ow, setO 2 1 (fzO T [2] (.call 39 (.cons (.var 2) (.cons (.var 6) (.cons (.var 5) (.cons (.var 4) .nil))))) (tabD h m t') [some (.lst ((List.range m).map cc)), some (.int h), some (tabD h m (swp t r q)), some (.lst ((List.range r).map fun i => .int (b i))), some (.int D0), some (.int i), some (.int r), some (.int q), none] o) = setO 2 1 o := fun o => by
        unfold fzO
        split
        · rfl
        · show (2, 1) :: dropO [2] (dropO [2] o) = (2, 1) :: dropO [2] o
          unfold dropO
          rw [List.filter_filter]
          congr 2
          funext p
          simp
      have ot' := ot (exO w)
      refine p_seti (t' r i) ?_ ?_
      · have e1 : ixD (tabD h m t') (.int r) = .ok (rowD m (t' r)) := ix_rngL _ (by omega)
        have e2 : ixD (rowD m (t' r)) (.int i) = .ok (.int (t' r i)) := ix_rngL _ hi
        exact (congrArg (fun x => x >>= fun y => ixD y (.int i)) e1).trans e2
      refine p_app ((List.range r).map fun i => .int (b i)) (.int i) rfl ?_ rfl (by rw [rng_len]; omega) ?_
      · cases w
        · exact (congrArg (fun o => List.lookup 3 (setO 4 0 o)) ot').trans rfl
        · exact (congrArg (fun o => List.lookup 3 (setO 4 0 o)) ot').trans rfl
      refine p_nil (hn _ _ (⟨r + 1, bSet b r i, t', swp M r q, t q i⟩, true) ?_ ?_ I')
      · have eb : ((List.range r).map fun i => D.int (b i)) ++ [D.int i] = (List.range (r + 1)).map fun k => D.int (bSet b r i k) := by
          rw [rng_snoc]
          have : D.int (bSet b r i r) = D.int i := by unfold bSet; rw [if_pos rfl]
          rw [this]
          congr 1
          exact rng_congr fun k hk => by unfold bSet; rw [if_neg (by omega)]
        rw [eb, t1]
        rfl
      · cases w
        · exact (congrArg (fun o => dropO [5, 6, 7] (setO 4 0 o)) ot').trans rfl
        · exact (congrArg (fun o => dropO [5, 6, 7] (setO 4 0 o)) ot').trans rfl
    · refine p_setz .non (ev_callE (d := d_first_filled) rfl (by rfl) q2) ?_
      rw [fzO_non]
      refine p_if false rfl (fun z => nomatch z) fun _ => ?_
      refine p_nil (hn _ _ (⟨r, b, t, M, D0⟩, w) rfl ?_ (ei_skip ha q1))
      cases w <;> rfl
  · obtain ⟨⟨r, b, t, M, D0⟩, w⟩ := a
    refine p_ret _ ?_ (hP _ ⟨⟨r, b, t, M, D0⟩, ha, rfl⟩)
    have hrh : r ≤ h := ha.rh
    have : slD (tabD h m t) none (some (r : Int)) = .ok (tabD r m t) := by
      show R.ok (D.lst (cutD (tabL h m t) none (some (r : Int)))) = _
      rw [cut_take, rng_take _ hrh]
    simp [exE, this]
theorem run_expressed {n h m B : Nat} {C : Nat → Nat → Int} (hm : m < 10000) (hh : h < 10000) (h0 : 0 < m ∨ h = 0) (hB : ∀ j l, (C j l).natAbs ≤ B) (h1 : 1 ≤ B) (hN : ∀ r, r ≤ h → r ≤ m → Sm (fac r * B ^ r) 2000) :
    ∃ a : EA, EI C h m a ∧ call T (n + 2) 40 [.lst ((List.range m).map fun k => rowD h (C k))] = .ok (.tup [.lst ((List.range a.r).map fun i => .int (a.b i)), tabD a.r m a.t, .int a.D]) :=
  run_expressedG (fun k _ l hl => ix_rngL _ hl) (fun _ => by rw [len_lst, rng_len]) hm hh h0 hB h1 hN
end Fc

namespace Fc
abbrev prD (z m : Nat) (Rw : Nat → Nat → Int) (W : Nat → Int) : D := .tup ((List.range m).map fun k => .tup [.tup (rowL z (Rw k)), .int (W k)])
abbrev rlD (z m : Nat) (Rw : Nat → Nat → Int) (W : Nat → Int) (b : Int) (fm : D) : D := .obj 8 [5, 8, 7, 9] [.int z, prD z m Rw W, .int b, fm]
theorem fld_pairs (z m : Nat) (Rw : Nat → Nat → Int) (W : Nat → Int) (b : Int) (fm : D) : fldD T (rlD z m Rw W b fm) 8 = .ok (prD z m Rw W) := rfl
theorem run_len {n z m : Nat} {Rw : Nat → Nat → Int} {W : Nat → Int} {b : Int} {fm : D} : call T (n + 1) 32 [rlD z m Rw W b fm] = .ok (.int m) := by
  refine call_P (Q := fun x => x = .ok (.int m)) (d := d_RowList_len) rfl rfl rfl fun P hP _ => ?_
  refine p_ret (.int m) ?_ (hP _ rfl)
  show bfD T (call T n) .len [prD z m Rw W] = _
  rw [len_tup, rng_len]
theorem len_rl {n z m : Nat} {Rw : Nat → Nat → Int} {W : Nat → Int} {b : Int} {fm : D} (hm : m < 10000) : bfD T (call T (n + 1)) .len [rlD z m Rw W b fm] = .ok (.int m) := by
  show (match call T (n + 1) 32 [rlD z m Rw W b fm] with
      | .ok (.int n) => if 0 ≤ n ∧ n < 2 ^ 62 then R.ok (D.int n) else .no
      | .ok _ => .no
      | .ex c ds => .ex c ds
      | .no => .no) = _
  rw [run_len]
  exact if_pos (by omega)
theorem flatDs_int : ∀ ns : List Int, flatDs (lI ns) = some (ns.map .int)
  | [] => rfl
  | x :: ns => by
    show (match flatDs (lI ns) with
      | some vs => some (L2.V.int x :: vs)
      | none => none) = _
    rw [flatDs_int ns]; rfl
theorem nin_ints {T : Tab} {F : Nat → List D → R D} (i : Int) (ns : List Int) : cmpD T F .nin (.int i) (.lst (lI ns)) = .ok (.bl (!(ns.any fun y => decide (y = i)))) := by
  show (match (match flatDs (lI ns) with
    | some vs => R.ok (L2.inV (.int i) vs)
    | none => .no) with
    | .ok b => R.ok (D.bl (!b))
    | _ => .no) = _
  rw [flatDs_int]
  show R.ok (D.bl (!(L2.inV (.int i) (ns.map .int)))) = _
  unfold L2.inV
  rw [List.any_map]
  rfl
theorem sumN_upd {m q : Nat} {v w : Nat → Int} {x : Int} (hq : q < m) : sumN m (fun j => (if j = q then x else v j) * w j) = sumN m (fun j => v j * w j) + (x - v q) * w q := by
  have s : ∀ k, k ≤ m → sumN k (fun j => (if j = q then x else v j) * w j) = sumN k (fun j => v j * w j) + (if q < k then (x - v q) * w q else 0) := by
    intro k
    induction k with
    | zero => intro _; rfl
    | succ k ih =>
      intro hk
      show sumN k _ + (if k = q then x else v k) * w k = sumN k (fun j => v j * w j) + v k * w k + _
      rw [ih (by omega)]
      by_cases c : k = q
      · subst c; rw [if_pos rfl, if_neg (by omega), if_pos (by omega), Int.sub_mul]; omega
      · rw [if_neg c]
        by_cases y : q < k
        · rw [if_pos y, if_pos (by omega)]; omega
        · rw [if_neg y, if_neg (by omega)]; omega
  rw [s m (Nat.le_refl _), if_pos hq]
theorem bd4 {r f B : Nat} (h1 : r < 10000) (h3 : Sm f 2000) (h2 : Sm B 1000) : Sm (r * (f * (B * B))) 8000 :=
  sm_mono (sm_mul (sm_14 h1) (sm_mul h3 (sm_mul h2 h2))) (by decide)
/-- numbers with which the columns cancel -/
def Told (C : Nat → Nat → Int) (m h : Nat) (told : Nat → Int) : Prop := (∃ j, j < m ∧ told j ≠ 0) ∧ (∀ l, l < h → sumN m (fun j => told j * C j l) = 0) ∧ ∀ j, j < m → Sm (told j).natAbs 8000
theorem told_dep {C : Nat → Nat → Int} {m h : Nat} {told : Nat → Int} (hT : Told C m h told) : Dep C m h := ⟨told, hT.1, hT.2.1⟩
end Fc

namespace Fc
theorem mod_half {x y : Nat} (h : y < x) (hy : 0 < y) : 2 * (x % y) ≤ x := by
  have h1 := Nat.mod_lt x hy
  have h2 := Nat.div_add_mod x y
  have h3 : 1 ≤ x / y := Nat.div_pos (by omega) hy
  have h4 : y * 1 ≤ y * (x / y) := Nat.mul_le_mul_left _ h3
  omega
theorem final_zero {x y X k : Nat} (h : x * y * 2 ^ k ≤ X) (hX : X < 2 ^ k) (hlt : y < x) : y = 0 := by
  rcases Nat.eq_zero_or_pos y with z | z
  · exact z
  · have h1 : 1 ≤ x * y := Nat.mul_pos (by omega) z
    have h2 : 1 * 2 ^ k ≤ x * y * 2 ^ k := Nat.mul_le_mul_right _ h1
    omega
theorem run_lgcd {n : Nat} {a b : Int} (hb : Sm b.natAbs 40000) : call T (n + 1) 48 [.int a, .int b] = .ok (.int (gcdI a b)) := by
  have habs : ∀ x : Int, (if x < 0 then -x else x) = (x.natAbs : Int) := fun x => by split <;> omega
  refine call_P (Q := fun x => x = .ok (.int (gcdI a b))) (d := d__law_gcd) rfl rfl rfl fun P hP _ => ?_
  refine p_set (.int a.natAbs) (by rw [← habs a]; rfl) ?_
  refine p_set (.int b.natAbs) (by rw [← habs b]; rfl) ?_
  have hX : Sm (2 * (b.natAbs * b.natAbs)) 100000 := sm_mono (sm_mul (show Sm 2 2 by unfold Sm; decide) (sm_mul hb hb)) (by decide)
  unfold gcdI at hP
  generalize hG : Nat.gcd a.natAbs b.natAbs = G at hP
  refine p_for (α := Nat × Nat) 100000 (fun (i : Nat) => .int i) (fun p => [some (.int p.1), some (.int p.2), none, none]) (fun _ => []) (fun i p => Nat.gcd p.1 p.2 = G ∧ (i = 0 → p.2 = b.natAbs) ∧ (0 < i → p.2 < p.1 ∧ p.1 * p.2 * 2 ^ i ≤ 2 * (b.natAbs * b.natAbs))) (fun _ => False) (fun s _ => s = [some (.int G), some (.int 0), none, none]) (a.natAbs, b.natAbs)
    (fun i p => [some (.int p.1), some (.int p.2), some (.int i), none]) (evi_rngN rfl (by decide)) rfl rfl ⟨hG, fun _ => rfl, fun h => absurd h (Nat.lt_irrefl 0)⟩ (fun i _ p _ => rfl) (fun i _ p hp P' hn _ hbk => ?_) (fun p hp => ?_) (fun _ z => z.elim) (fun s o e => ?_)
  · obtain ⟨x, y⟩ := p
    obtain ⟨p1, p2, p3⟩ := hp
    refine p_if (decide ((y : Int) = 0)) rfl (fun e => ?_) fun e => ?_
    · have e : y = 0 := by have := of_decide_eq_true e; omega
      subst e
      refine p_brk (hbk _ _ ?_)
      have : x = G := by rw [← p1]; exact (Nat.gcd_zero_right x).symm
      rw [← this]; rfl
    · have e : y ≠ 0 := by have := of_decide_eq_false e; omega
      have hy : 0 < y := by omega
      refine p_set (.int ((x % y : Nat) : Int)) (ev_binE (ev_biE rfl rfl) rfl (op_mod (by omega))) ?_
      refine p_set (.int y) rfl ?_
      refine p_set (.int ((x % y : Nat) : Int)) rfl ?_
      refine p_nil (hn _ _ (y, x % y) rfl rfl ⟨?_, fun h => absurd h (by omega), fun _ => ⟨Nat.mod_lt x hy, ?_⟩⟩)
      · show Nat.gcd y (x % y) = G
        rw [← p1, Nat.gcd_comm x y, Nat.gcd_rec y x, Nat.gcd_comm]
      · show y * (x % y) * 2 ^ (i + 1) ≤ _
        rcases Nat.eq_zero_or_pos i with z | z
        · subst z
          have e2 : y = b.natAbs := p2 rfl
          have h1 : x % y ≤ y := Nat.le_of_lt (Nat.mod_lt x hy)
          have h2 : y * (x % y) ≤ y * y := Nat.mul_le_mul_left _ h1
          rw [← e2, Nat.pow_succ, Nat.pow_zero]
          omega
        · obtain ⟨q1, q2⟩ := p3 z
          have h1 := mod_half q1 hy
          have h2 : y * (2 * (x % y)) ≤ y * x := Nat.mul_le_mul_left _ h1
          have h3 : y * (x % y) * 2 ^ (i + 1) = y * (2 * (x % y)) * 2 ^ i := by
            rw [Nat.pow_succ, Nat.mul_comm (2 ^ i) 2, ← Nat.mul_assoc, Nat.mul_assoc y, Nat.mul_comm (x % y) 2]
          rw [h3]
          refine Nat.le_trans (Nat.mul_le_mul_right _ h2) ?_
          rw [Nat.mul_comm y x]; exact q2
  · obtain ⟨x, y⟩ := p
    obtain ⟨p1, p2, p3⟩ := hp
    obtain ⟨q1, q2⟩ := p3 (by decide)
    have e : y = 0 := final_zero q2 hX q1
    subst e
    have : x = G := by rw [← p1]; exact (Nat.gcd_zero_right x).symm
    exact p_ret (.int x) rfl (hP _ (by rw [this]))
  · subst e
    exact p_ret (.int G) rfl (hP _ rfl)
theorem gcdI_dvd_lin {d a x y : Int} (hx : d ∣ a * x) (hy : d ∣ a * y) : d ∣ a * gcdI x y := by
  have h1 := Int.natAbs_dvd_natAbs.mpr hx
  have h2 := Int.natAbs_dvd_natAbs.mpr hy
  rw [Int.natAbs_mul] at h1 h2
  have h3 := Nat.dvd_gcd h1 h2
  rw [Nat.gcd_mul_left] at h3
  refine Int.natAbs_dvd_natAbs.mp ?_
  rw [Int.natAbs_mul]
  exact h3
theorem gcdL_lin {d a : Int} : ∀ (ns : List Int) (b0 : Int), d ∣ a * b0 → (∀ x ∈ ns, d ∣ a * x) → d ∣ a * gcdL b0 ns
  | [], b0, h, _ => h
  | x :: ns, b0, h, hs => gcdL_lin ns (gcdI b0 x) (gcdI_dvd_lin h (hs x (by simp))) fun y hy => hs y (List.mem_cons_of_mem _ hy)
theorem gcdL_nonneg : ∀ (ns : List Int) (b : Int), 0 ≤ b → 0 ≤ gcdL b ns
  | [], b, h => h
  | x :: ns, b, h => gcdL_nonneg ns (gcdI b x) (by unfold gcdI; omega)
theorem run_lprim {n m : Nat} {v : Nat → Int} (hm : m < 10000) (hb : ∀ j, j < m → Sm (v j).natAbs 8000) :
    ∃ (u : Nat → Int) (g : Int), g ≠ 0 ∧ (∀ j, j < m → v j = g * u j) ∧ (Prim m u ∨ ∀ j, j < m → u j = 0) ∧ call T (n + 2) 50 [rowD m v] = .ok (rowD m u) := by
  have hf : ∀ i, (List.map v (List.range (i + 1))).foldl gcdI 0 = gcdI ((List.map v (List.range i)).foldl gcdI 0) (v i) := fun i => by rw [rng_snoc, List.foldl_append]; rfl
  have hd := (gcdL_dvd ((List.range m).map v) 0).2
  have hdv : ∀ j, j < m → gcdL 0 ((List.range m).map v) ∣ v j := fun j hj => hd _ (List.mem_map.mpr ⟨j, List.mem_range.mpr hj, rfl⟩)
  have h0 := gcdL_nonneg ((List.range m).map v) 0 (by decide)
  have hlin : ∀ d a : Int, (∀ j, j < m → d ∣ a * v j) → d ∣ a * gcdL 0 ((List.range m).map v) := fun d a h => gcdL_lin _ 0 (by rw [Int.mul_zero]; exact Int.dvd_zero _) fun x hx => by
    obtain ⟨j, hj, rfl⟩ := List.mem_map.mp hx
    exact h j (List.mem_range.mp hj)
  have hne : gcdL 0 ((List.range m).map v) ≠ 0 → ∃ j, j < m ∧ v j ≠ 0 := fun h => Classical.byContradiction fun hc => h (by
    have : ∀ j, j < m → v j = 0 := fun j hj => Classical.byContradiction fun z => hc ⟨j, hj, z⟩
    have z := hlin 0 1 fun j hj => by rw [this j hj]; exact Int.dvd_refl 0
    rw [Int.one_mul] at z
    exact Int.zero_dvd.mp z)
  generalize hgd : gcdL 0 ((List.range m).map v) = g at *
  refine call_P (Q := fun x => ∃ (u : Nat → Int) (g : Int), g ≠ 0 ∧ (∀ j, j < m → v j = g * u j) ∧ (Prim m u ∨ ∀ j, j < m → u j = 0) ∧ x = .ok (rowD m u)) (d := d__law_primitive) rfl rfl rfl fun P hP _ => ?_
  refine p_set (.int 0) rfl ?_
  refine p_for (α := Int) m (fun j => .int (v j)) (fun a => [some (rowD m v), some (.int a), none]) (fun _ => []) (fun i a => a = (List.map v (List.range i)).foldl gcdI 0) (fun _ => False) (fun _ _ => False) 0
    (fun j a => [some (rowD m v), some (.int a), some (.int (v j))]) (by rfl) rfl rfl rfl (fun i hi a ha => rfl) (fun i hi a ha P' hn _ _ => ?_) (fun a ha => ?_) (fun _ z => z.elim) (fun _ _ z => z.elim)
  · refine p_if (!decide (a = 1)) rfl (fun e => ?_) fun e => ?_
    · refine p_set (.int (gcdI a (v i))) (ev_callE (d := d__law_gcd) rfl (by rfl) (run_lgcd (n := n) (sm_mono (hb i hi) (by decide)))) ?_
      exact p_nil (hn _ _ (gcdI a (v i)) rfl rfl (by rw [hf, ha]))
    · have e : a = 1 := by simpa using e
      refine p_nil (hn _ _ a rfl rfl ?_)
      rw [hf, ← ha, e]
      unfold gcdI
      show (1 : Int) = ((Nat.gcd 1 (v i).natAbs : Nat) : Int)
      rw [Nat.gcd_one_left]; rfl
  · have : a = g := ha.trans hgd
    subst this
    refine p_if (decide (a < 2)) rfl (fun e => ?_) fun e => ?_
    · have e := of_decide_eq_true e
      refine p_ret1li (rowD m v) (by rfl) (hP _ ⟨v, 1, by decide, fun j _ => (Int.one_mul _).symm, ?_, rfl⟩)
      rcases (show a = 0 ∨ a = 1 by omega) with z | z
      · right
        intro j hj
        have := hdv j hj
        rw [z] at this
        exact Int.zero_dvd.mp this
      · left
        intro x y h
        have := hlin y x h
        rw [z, Int.mul_one] at this
        exact this
    · have e := of_decide_eq_false e
      have hok : divOk a = true := by
        obtain ⟨j, hj, hz⟩ := hne (by omega)
        refine sm_div (k := 8000) (sm_le ?_ (hb j hj)) (by decide)
        exact Nat.le_of_dvd (by omega) (Int.natAbs_dvd_natAbs.mpr (hdv j hj))
      have hex : ∀ j, j < m → v j = a * (v j / a) := fun j hj => (Int.mul_ediv_cancel' (hdv j hj)).symm
      refine p_ret1lc (rowD m fun j => v j / a) (ev_lcR (k := m) (c := fun j => .int (v j)) (by rfl) fun j hj => lcI_ok rfl (ev_binE rfl rfl (op_fdiv (by omega) hok))) (hP _ ⟨fun j => v j / a, a, by omega, hex, .inl fun x y h => ?_, rfl⟩)
      have := hlin (y * a) x fun j hj => by
        rw [hex j hj, Int.mul_left_comm, Int.mul_comm y]
        exact Int.mul_dvd_mul_left a (h j hj)
      exact Int.dvd_of_mul_dvd_mul_right (by omega) this
end Fc

namespace Fc
abbrev keD (L : Nat) (l : Nat → Nat) (V : Nat → Nat → Int) (p : Nat) : D := .lst [.int (l p), rowD L (V p)]
abbrev kpD (L r : Nat) (l : Nat → Nat) (V : Nat → Nat → Int) : D := .lst ((List.range r).map (keD L l V))
theorem ix0 (x : D) (ds : List D) : ixD (.lst (x :: ds)) (.int 0) = .ok x := ix_lst (i := 0) rfl
theorem ix1 (x y : D) (ds : List D) : ixD (.lst (x :: y :: ds)) (.int 1) = .ok y := ix_lst (i := 1) rfl
theorem run_lreducedG {n L B k r : Nat} {x : D} {C K : Nat → Nat → Int} {l : Nat → Nat} {V : Nat → Nat → Int} {w : Nat → Int} {N : Nat} (hxl : bfD T (call T (n + 2)) .list [x] = .ok (rowD L w)) (I : KInv C L B k r K l V) (hL : L < 10000) (hr : r < 10000) (hw : ∀ c, (w c).natAbs ≤ B) (hBN : B ≤ N) (hN : Sm N 2000) (hfN : ∀ i, i ≤ r → fac (i + 1) * B ^ (i + 1) ≤ N) (hV : ∀ p, p < r → ∀ c, c < L → (V p c).natAbs ≤ N) :
    ∃ u : Nat → Int, Par L u (Rs K l r w) ∧ (∀ c, c < L → (u c).natAbs ≤ N) ∧ call T (n + 3) 51 [kpD L r l V, x] = .ok (rowD L u) := by
  refine call_P (Q := fun x => ∃ u : Nat → Int, Par L u (Rs K l r w) ∧ (∀ c, c < L → (u c).natAbs ≤ N) ∧ x = .ok (rowD L u)) (d := d__law_reduced) rfl rfl rfl fun P hP _ => ?_
  refine p_set1 (rowD L w) rfl (ev_biE rfl hxl) ?_
  refine p_for (α := Nat → Int) r (keD L l V) (fun u => [some (kpD L r l V), some x, some (rowD L u), none, none, none, none, none]) (fun _ => [(2, 1)]) (fun i u => Par L u (Rs K l i w) ∧ ∀ c, c < L → (u c).natAbs ≤ N) (fun _ => False) (fun _ _ => False) w
    (fun i u => [some (kpD L r l V), some x, some (rowD L u), some (keD L l V i), none, none, none, none]) (by rfl) rfl rfl ⟨par_rs0 .., fun c _ => Nat.le_trans (hw c) hBN⟩ (fun i hi a ha => rfl) (fun i hi u hu P' hn _ _ => ?_) (fun u hu => ?_) (fun _ z => z.elim) (fun _ _ z => z.elim)
  · obtain ⟨hu1, hu2⟩ := hu
    have hli := (I.ld i hi).1
    have i1 : ixD (rowD L u) (.int (l i)) = .ok (.int (u (l i))) := ix_rngL _ hli
    have i2 : ixD (rowD L (V i)) (.int (l i)) = .ok (.int (V i (l i))) := ix_rngL _ hli
    have hst := par_step I hi hu1
    refine p_seti (u (l i)) (ev_ixE rfl (ev_ixE rfl rfl (ix0 _ _)) i1) ?_
    refine p_if (!decide (u (l i) = 0)) rfl (fun e => ?_) fun e => ?_
    · refine p_set (rowD L (V i)) (ev_ixE rfl rfl (ix1 _ _ _)) ?_
      refine p_set (.int (V i (l i))) (ev_ixE rfl (ev_ixE rfl rfl (ix0 _ _)) i2) ?_
      have mok : ∀ x y : Int, x.natAbs ≤ N → y.natAbs ≤ N → mulOk x y = true := fun x y hx hy => sm_mulOk (sm_le hx hN) (sm_le hy hN) (by decide)
      have hzb : ∀ j, j < L → Sm (V i (l i) * u j - u (l i) * V i j).natAbs 8000 := fun j hj => by
        have h1 : (V i (l i) * u j - u (l i) * V i j).natAbs ≤ (V i (l i) * u j).natAbs + (u (l i) * V i j).natAbs := Int.natAbs_sub_le ..
        rw [Int.natAbs_mul, Int.natAbs_mul] at h1
        exact sm_le h1 (sm_mono (sm_add (sm_mul (sm_le (hV i hi _ hli) hN) (sm_le (hu2 j hj) hN)) (sm_mul (sm_le (hu2 _ hli) hN) (sm_le (hV i hi j hj) hN))) (by decide))
      obtain ⟨u', g, hg, hgu, hpr, hcall⟩ := run_lprim (n := n) (m := L) (v := fun j => V i (l i) * u j - u (l i) * V i j) hL hzb
      have hpar : Par L u' (Rs K l (i + 1) w) := par_scale hg hgu hst
      refine p_set1z (rowD L u') rfl (ev_callE (d := d__law_primitive) rfl (evs_consE (ev_lcR (k := L) (c := fun (j : Nat) => .int j) (g := fun j => .int (V i (l i) * u j - u (l i) * V i j)) (evi_rngN (ev_biE rfl (by rw [len_lst, rng_len])) (by omega)) fun j hj => lcI_ok rfl ?_) rfl) hcall) ?_
      · have j1 : ixD (rowD L u) (.int j) = .ok (.int (u j)) := ix_rngL _ hj
        have j2 : ixD (rowD L (V i)) (.int j) = .ok (.int (V i j)) := ix_rngL _ hj
        exact ev_binE (ev_binE rfl (ev_ixE rfl rfl j1) (op_mul (mok _ _ (hV i hi _ hli) (hu2 j hj)))) (ev_binE rfl (ev_ixE rfl rfl j2) (op_mul (mok _ _ (hu2 _ hli) (hV i hi j hj)))) (op_sub _ _)
      rw [setO_fzO]
      refine p_nil (hn _ _ u' rfl rfl ⟨hpar, fun c hc => ?_⟩)
      rcases hpr with hpr | hpr
      · refine Nat.le_trans (prim_bd hpr hpar c hc) ?_
        exact Nat.le_trans (rs_bd hw (fun p c hp => I.bd p c (by omega)) c) (hfN (i + 1) (by omega))
      · rw [hpr c hc]; exact Nat.zero_le _
    · have e : u (l i) = 0 := by simpa using e
      refine p_nil (hn _ _ u rfl rfl ⟨?_, hu2⟩)
      refine par_scale (g := V i (l i)) (I.ld i hi).2 (fun c _ => ?_) hst
      show V i (l i) * u c - u (l i) * V i c = _
      rw [e, Int.zero_mul, Int.sub_zero]
  · exact p_ret1v (rowL L u) rfl rfl (hP _ ⟨u, hu.1, hu.2, rfl⟩)
structure KA where
  r : Nat
  K : Nat → Nat → Int
  l : Nat → Nat
  V : Nat → Nat → Int
theorem pigeon : ∀ {L r : Nat} (f : Nat → Nat), (∀ i, i < r → f i < L) → (∀ i j, i < j → j < r → f i ≠ f j) → r ≤ L
  | 0, r, f, h, _ => by
    rcases Nat.eq_zero_or_pos r with z | z
    · omega
    · exact absurd (h 0 z) (Nat.not_lt_zero _)
  | L + 1, r, f, h, hi => by
    by_cases hc : ∃ i, i < r ∧ f i = L
    · obtain ⟨i0, h0, e0⟩ := hc
      have := pigeon (L := L) (r := r - 1) (fun i => if i < i0 then f i else f (i + 1)) (fun i hr => by
        split
        · rename_i hlt
          have h1 := h i (by omega)
          have h2 := hi i i0 hlt h0
          omega
        · rename_i hlt
          have h1 := h (i + 1) (by omega)
          have h2 := hi i0 (i + 1) (by omega) (by omega)
          omega) (fun i j hij hj => by
        by_cases a : i < i0
        · rw [if_pos a]
          by_cases b : j < i0
          · rw [if_pos b]; exact hi i j hij (by omega)
          · rw [if_neg b]; exact hi i (j + 1) (by omega) (by omega)
        · rw [if_neg a, if_neg (by omega)]
          exact hi (i + 1) (j + 1) (by omega) (by omega))
      omega
    · have := pigeon (L := L) (r := r) f (fun i hr => by
        have h1 := h i hr
        have h2 : f i ≠ L := fun e => hc ⟨i, hr, e⟩
        omega) hi
      omega
theorem kinv_le {C : Nat → Nat → Int} {L B k r : Nat} {K : Nat → Nat → Int} {l : Nat → Nat} {V : Nat → Nat → Int} (I : KInv C L B k r K l V) : r ≤ L :=
  pigeon l (fun i hi => (I.ld i hi).1) fun i j hij hj e => by
    obtain ⟨x, _, hz⟩ := rs_eq (I.nz j (by omega)) (K j)
    obtain ⟨a, b, ha, hb, hp⟩ := I.pr j hj
    have h1 := hp (l i) (I.ld i (by omega)).1
    rw [hz i hij, Int.mul_zero] at h1
    rcases Int.mul_eq_zero.mp h1 with z | z
    · exact ha z
    · exact (I.ld j hj).2 (by rw [← e]; exact z)
theorem run_lrankG {n L B m : Nat} {C : Nat → Nat → Int} {N : Nat} {cc : Nat → D} (hcc : ∀ k, k < m → itR (cc k) = .ok (rowL L (C k)) ∧ bfD T (call T (n + 2)) .list [cc k] = .ok (rowD L (C k))) (hL : L < 10000) (hm : m < 10000) (hB : ∀ k c, (C k c).natAbs ≤ B) (hBN : B ≤ N) (hN : Sm N 2000) (hfN : ∀ i, i ≤ m → i ≤ L + 1 → fac i * B ^ i ≤ N) :
    ∃ r : Nat, call T (n + 4) 52 [.lst ((List.range m).map cc)] = .ok (.int r) ∧ ((r = m → Indep C m L) ∧ (r ≠ m → Dep C m L)) ∧ ∃ K l V, KInv C L B m r K l V := by
  refine call_P (Q := fun x => ∃ r : Nat, x = .ok (.int r) ∧ ((r = m → Indep C m L) ∧ (r ≠ m → Dep C m L)) ∧ ∃ K l V, KInv C L B m r K l V) (d := d__law_rank) rfl rfl rfl fun P hP _ => ?_
  refine p_set1 (.lst []) (frk_nil _ _) rfl ?_
  refine p_for (α := KA) m cc (fun a => [some (.lst ((List.range m).map cc)), some (kpD L a.r a.l a.V), none, none, none, none]) (fun _ => [(1, 1)]) (fun k a => KInv C L B k a.r a.K a.l a.V ∧ ∀ p, p < a.r → ∀ c, c < L → (a.V p c).natAbs ≤ N) (fun _ => False) (fun _ _ => False) ⟨0, fun _ _ => 0, fun _ => 0, fun _ _ => 0⟩
    (fun k a => [some (.lst ((List.range m).map cc)), some (kpD L a.r a.l a.V), some (cc k), none, none, none]) (by rfl) rfl rfl ⟨kinv_zero .., fun p hp => by simp at hp⟩ (fun i hi a ha => rfl) (fun k hk a ha P' hn _ _ => ?_) (fun a ha => ?_) (fun _ z => z.elim) (fun _ _ z => z.elim)
  · obtain ⟨r, K, l, V⟩ := a
    obtain ⟨I, hV⟩ := ha
    have I : KInv C L B k r K l V := I
    have hV : ∀ p, p < r → ∀ c, c < L → (V p c).natAbs ≤ N := hV
    have hrL := kinv_le I
    have hrk := I.rk
    obtain ⟨u, hp, hu, hcall⟩ := run_lreducedG (n := n) (w := C k) (x := cc k) (hcc k hk).2 I hL (by omega) (hB k) hBN hN (fun i hi => hfN (i + 1) (by omega) (by omega)) hV
    refine p_setz (rowD L u) (ev_callE (d := d__law_reduced) rfl (by rfl) hcall) ?_
    rw [fzO_row rfl]
    refine p_set (.lst (((List.range L).filter fun j => !decide (u j = 0)).map fun (j : Nat) => .int j)) (ev_lcF (k := L) (c := fun (j : Nat) => .int j) (g := fun (j : Nat) => .int j) (p := fun j => !decide (u j = 0)) (evi_rngN (ev_biE rfl (by rw [len_lst, rng_len])) (by omega)) fun j hj => lcI_cond rfl (ev_cmpE (ev_ixE rfl rfl (ix_rngL _ hj)) rfl rfl) rfl) ?_
    have hmem : ∀ j, j ∈ (List.range L).filter (fun j => !decide (u j = 0)) ↔ j < L ∧ u j ≠ 0 := fun j => by
      rw [List.mem_filter, List.mem_range]
      constructor
      · rintro ⟨a, b⟩; exact ⟨a, by simpa using b⟩
      · rintro ⟨a, b⟩; exact ⟨a, by simpa using b⟩
    generalize (List.range L).filter (fun j => !decide (u j = 0)) = fl at hmem
    refine p_if (decide ((0 : Int) < (fl.map fun (j : Nat) => D.int j).length)) (ev_cmpE (ev_biE rfl (len_lst _)) rfl rfl) (fun e => ?_) fun e => ?_
    · cases fl with
      | nil => exact absurd e (by decide)
      | cons q fl =>
        obtain ⟨hq, hqz⟩ := (hmem q).mp (by simp)
        refine p_app ((List.range r).map (keD L l V)) (.lst [.int q, rowD L u]) rfl rfl (ev_lstE (evs_consE (ev_ixE rfl rfl (ix0 _ _)) rfl)) (by rw [rng_len]; omega) ?_
        have hk2 := kinv_keep I (hB k) hp hq hqz
        have eq : (List.range r).map (keD L l V) ++ [.lst [.int q, rowD L u]] = (List.range (r + 1)).map (keD L (upd l r q) (upd V r u)) := by
          rw [rng_snoc]
          have e1 : keD L (upd l r q) (upd V r u) r = .lst [.int q, rowD L u] := by
            show D.lst [.int ((upd l r q r : Nat) : Int), rowD L (upd V r u r)] = _
            rw [upd_self, upd_self]
          rw [e1]
          congr 1
          exact rng_congr fun p hp => by
            show D.lst [.int (l p), rowD L (V p)] = D.lst [.int ((upd l r q p : Nat) : Int), rowD L (upd V r u p)]
            rw [upd_ne (by omega), upd_ne (by omega)]
        rw [eq]
        refine p_nil (hn _ _ ⟨r + 1, upd K r (C k), upd l r q, upd V r u⟩ rfl rfl ⟨hk2, fun p hp c hc => ?_⟩)
        show (upd V r u p c).natAbs ≤ N
        by_cases e : p = r
        · subst e; rw [upd_self]; exact hu c hc
        · rw [upd_ne e]; exact hV p (by have hp : p < r + 1 := hp; omega) c hc
    · cases fl with
      | nil =>
        have hz : ∀ c, c < L → u c = 0 := fun c hc => Classical.byContradiction fun z => by
          have := (hmem c).mpr ⟨hc, z⟩
          cases this
        exact p_nil (hn _ _ ⟨r, K, l, V⟩ rfl rfl ⟨kinv_drop I hp hz, hV⟩)
      | cons q fl =>
        have := of_decide_eq_false e
        rw [List.map_cons, List.length_cons] at this
        omega
  · obtain ⟨r, K, l, V⟩ := a
    obtain ⟨I, hV⟩ := ha
    have I : KInv C L B m r K l V := I
    refine p_ret (.int r) (ev_biE rfl (by rw [len_lst, rng_len])) (hP _ ⟨r, rfl, ⟨fun e => ?_, fun e => I.dep (by have := I.rk; omega)⟩, K, l, V, I⟩)
    subst e
    exact kinv_indep I
theorem run_lrank {n L B m : Nat} {C : Nat → Nat → Int} {N : Nat} (hL : L < 10000) (hm : m < 10000) (hB : ∀ k c, (C k c).natAbs ≤ B) (hBN : B ≤ N) (hN : Sm N 2000) (hfN : ∀ i, i ≤ m → i ≤ L + 1 → fac i * B ^ i ≤ N) :
    ∃ r : Nat, call T (n + 4) 52 [tabD m L C] = .ok (.int r) ∧ (r = m → Indep C m L) ∧ (r ≠ m → Dep C m L) := by
  obtain ⟨r, h1, h2, _⟩ := run_lrankG (n := n) (cc := fun k => rowD L (C k)) (fun k _ => ⟨rfl, list_lst _⟩) hL hm hB hBN hN hfN
  exact ⟨r, h1, h2⟩
end Fc

namespace Fc
theorem flat_snoc {β : Type} (k : Nat) (g : Nat → List β) : (List.range (k + 1)).flatMap g = (List.range k).flatMap g ++ g k := by
  rw [List.range_succ, List.flatMap_append]; simp
theorem run_whole {n : Nat} (i : Int) : call T (n + 1) 45 [.int i] = .ok (.bl true) := rfl
theorem blsD_map {α : Type} (p : α → Bool) : ∀ xs : List α, blsD (xs.map fun i => .bl (p i)) = some (xs.map p)
  | [] => rfl
  | x :: xs => by
    show (match blsD (xs.map fun i => .bl (p i)) with
    | some is => some (p x :: is)
    | none => none) = _
    rw [blsD_map p xs]; rfl
theorem intsD_map {α : Type} (p : α → Int) : ∀ xs : List α, intsD (xs.map fun i => .int (p i)) = some (xs.map p)
  | [] => rfl
  | x :: xs => by
    show (match intsD (xs.map fun i => .int (p i)) with
    | some is => some (p x :: is)
    | none => none) = _
    rw [intsD_map p xs]; rfl
theorem sum_rng (m : Nat) (g : Nat → Int) : ((List.range m).map g).sum = sumN m g := by
  induction m with
  | zero => rfl
  | succ m ih =>
    rw [rng_snoc, List.sum_append, ih]
    show sumN m g + (g m + 0) = sumN m g + g m
    omega
section
variable {T : Tab} {F : Nat → List D → R D}
theorem all_rng (m : Nat) (p : Nat → Bool) : bfD T F .all [.lst ((List.range m).map fun i => .bl (p i))] = .ok (.bl ((List.range m).all p)) := by
  show (match blsD ((List.range m).map fun i => .bl (p i)) with
    | some bs => R.ok (D.bl (bs.all id))
    | none => .no) = _
  rw [blsD_map]
  show R.ok (D.bl (((List.range m).map p).all id)) = _
  rw [List.all_map]; rfl
theorem sum_row (m : Nat) (g : Nat → Int) : bfD T F .sum [rowD m g] = .ok (.int (sumN m g)) := by
  show (match intsD ((List.range m).map fun i => .int (g i)) with
    | some ns => R.ok (D.int ns.sum)
    | none => .no) = _
  rw [intsD_map]
  show R.ok (D.int ((List.range m).map g).sum) = _
  rw [sum_rng]
end
theorem run_ispoint {n m : Nat} (told : Nat → Int) : call T (n + 2) 49 [.tup (rowL m told), .int m] = .ok (.bl true) := by
  refine call_P (Q := fun x => x = .ok (.bl true)) (d := d__law_is_point) rfl rfl rfl fun P hP _ => ?_
  have hlc : evE T (call T (n + 1)) (.lc [2] (.nm 2) (.seq (.var 0)) .none (.call 45 (.cons (.var 2) .nil))) [some (.tup (rowL m told)), some (.int m), none] = .ok (.lst ((List.range m).map fun _ => .bl true)) :=
    ev_lcR (k := m) (c := fun j => .int (told j)) (by rfl) fun j hj => lcI_ok rfl (ev_callE (d := d__law_whole) rfl (by rfl) (run_whole (told j)))
  refine p_ret (.bl true) (ev_andT rfl (ev_andT (ev_cmpE (ev_biE rfl (len_tup _)) rfl (by rw [rng_len, cmp_eq_int, decide_eq_true rfl])) (ev_biE (evs_consE hlc rfl) ((all_rng m fun _ => true).trans ?_)))) (hP _ rfl)
  rw [List.all_eq_true.mpr fun _ _ => rfl]
end Fc

namespace Fc
def cD (b : Bool) (ds : List D) : D := if b then .lst ds else .tup ds
theorem run_fz6i {n : Nat} (i : Int) : call T (n + 1) 6 [.int i] = .ok (.int i) := rfl
theorem run_fz6 {n : Nat} (b : Bool) (ds : List D) : call T (n + 1) 6 [cD b ds] = .ok (.tup ds) := by cases b <;> rfl
theorem run_fz7 {n k : Nat} {g g' : Nat → D} (b : Bool) (h : ∀ i, i < k → call T (n + 1) 6 [g i] = .ok (g' i)) : call T (n + 2) 7 [cD b ((List.range k).map g)] = .ok (.tup ((List.range k).map g')) := by
  refine call_P (Q := fun x => x = .ok (.tup ((List.range k).map g'))) (d := d_frozen_part) rfl rfl rfl fun P hP _ => ?_
  refine p_if true (by cases b <;> rfl) (fun _ => ?_) (fun z => nomatch z)
  refine p_ret (.tup ((List.range k).map g')) (ev_biE (evs_consE (ev_lcR (k := k) (c := g) (g := g') (by cases b <;> rfl) fun i hi => lcI_ok rfl (ev_callE (d := d_frozen_numbers) rfl (by rfl) (h i hi))) rfl) (tuple_lst _)) (hP _ rfl)
theorem run_fz8 {n k : Nat} {g g' : Nat → D} (b : Bool) (h : ∀ i, i < k → call T (n + 2) 7 [g i] = .ok (g' i)) : call T (n + 3) 8 [cD b ((List.range k).map g)] = .ok (.tup ((List.range k).map g')) := by
  refine call_P (Q := fun x => x = .ok (.tup ((List.range k).map g'))) (d := d_frozen) rfl rfl rfl fun P hP _ => ?_
  refine p_if true (by cases b <;> rfl) (fun _ => ?_) (fun z => nomatch z)
  refine p_ret (.tup ((List.range k).map g')) (ev_biE (evs_consE (ev_lcR (k := k) (c := g) (g := g') (by cases b <;> rfl) fun i hi => lcI_ok rfl (ev_callE (d := d_frozen_part) rfl (by rfl) (h i hi))) rfl) (tuple_lst _)) (hP _ rfl)
/-- a pair, in whatever it is packed -/
theorem run_fzpair {n z : Nat} {f : Nat → Int} {w : Int} (b b' : Bool) : call T (n + 2) 7 [cD b [cD b' (rowL z f), .int w]] = .ok (.tup [.tup (rowL z f), .int w]) :=
  run_fz7 (k := 2) (g := fun i => match i with | 0 => cD b' (rowL z f) | _ => .int w) (g' := fun i => match i with | 0 => .tup (rowL z f) | _ => .int w) b fun i hi => by
    match i, hi with
    | 0, _ => exact run_fz6 b' _
    | 1, _ => exact run_fz6i w
theorem run_fzpairs {n z m : Nat} {Rw : Nat → Nat → Int} {W : Nat → Int} (b b1 b2 : Bool) : call T (n + 3) 8 [cD b ((List.range m).map fun k => cD b1 [cD b2 (rowL z (Rw k)), .int (W k)])] = .ok (prD z m Rw W) :=
  run_fz8 b fun i _ => run_fzpair b1 b2
theorem run_fztab {n h m : Nat} {t : Nat → Nat → Int} : call T (n + 3) 8 [tabD h m t] = .ok (.tup ((List.range h).map fun q => .tup (rowL m (t q)))) :=
  run_fz8 (g := fun q => rowD m (t q)) (g' := fun q => .tup (rowL m (t q))) true fun i _ => run_fz7 (g := fun j => .int (t i j)) (g' := fun j => .int (t i j)) true fun j _ => run_fz6i _
theorem run_checkpairs {n z m : Nat} {Rw : Nat → Nat → Int} {W : Nat → Int} (hW : ∀ k, k < m → 1 ≤ W k) : call T (n + 1) 28 [.int z, prD z m Rw W] = .ok .non := by
  refine call_P (Q := fun x => x = .ok .non) (d := d_check_pairs) rfl rfl rfl fun P hP hN => ?_
  refine p_for (α := Unit) m (fun k => .tup [.int k, .tup [.tup (rowL z (Rw k)), .int (W k)]]) (fun _ => [some (.int z), some (prD z m Rw W), none, none, none]) (fun _ => []) (fun _ _ => True) (fun _ => False) (fun _ _ => False) ()
    (fun k _ => [some (.int z), some (prD z m Rw W), some (.int k), some (.tup (rowL z (Rw k))), some (.int (W k))]) ?_ rfl rfl trivial (fun i hi a ha => rfl) (fun k hk a ha P' hn _ _ => ?_) (fun a ha => ?_) (fun _ z => z.elim) (fun _ _ z => z.elim)
  · show enumR (prD z m Rw W) = _
    rw [enumR_tup, rng_enum, List.map_map]; rfl
  · refine p_if false (ev_cmpE (ev_biE rfl (len_tup _)) rfl (by rw [rng_len, cmp_ne_int, decide_eq_true rfl]; rfl)) (fun z => nomatch z) fun _ => ?_
    refine p_if (decide (W k < 1)) rfl (fun e => ?_) fun _ => p_nil (hn _ _ () rfl rfl trivial)
    have := of_decide_eq_true e
    have := hW k hk
    omega
  · exact p_nil (hN rfl _ _ rfl)
def wm (m : Nat) (Rw : Nat → Nat → Int) (W : Nat → Int) (i j : Nat) : Int := sumN m fun k => W k * Rw k i * Rw k j
theorem run_wsum {n z m B : Nat} {Rw : Nat → Nat → Int} {W : Nat → Int} (hB : ∀ k i, (Rw k i).natAbs ≤ B) (hs : Sm B 1000) (hW : ∀ k, k < m → Sm (W k).natAbs 8000) {i j : Nat} (hi : i < z) (hj : j < z) : call T (n + 1) 29 [prD z m Rw W, .int i, .int j] = .ok (.int (wm m Rw W i j)) := by
  refine call_P (Q := fun x => x = .ok (.int (wm m Rw W i j))) (d := d_weighted_sum) rfl rfl rfl fun P hP _ => ?_
  refine p_ret (.int (wm m Rw W i j)) (ev_biE (evs_consE (ev_lcR (k := m) (c := fun k => .tup [.tup (rowL z (Rw k)), .int (W k)]) (g := fun k => .int (W k * Rw k i * Rw k j)) (by rfl) fun k hk => lcI_ok rfl (ev_binE (ev_binE rfl (ev_ixE rfl rfl (ix_rngT _ hi)) (op_mul (sm_mulOk (hW k hk) (sm_le (hB _ _) hs) (by decide)))) (ev_ixE rfl rfl (ix_rngT _ hj)) (op_mul (sm_mulOk (k := 9000) (l := 1000) ?_ (sm_le (hB _ _) hs) (by decide))))) rfl) (sum_row m _)) (hP _ rfl)
  rw [Int.natAbs_mul]
  exact sm_mul (hW k hk) (sm_le (hB _ _) hs)
theorem run_wmat {n z m B : Nat} {Rw : Nat → Nat → Int} {W : Nat → Int} (hz : z ≤ 100) (hB : ∀ k i, (Rw k i).natAbs ≤ B) (hs : Sm B 1000) (hW : ∀ k, k < m → Sm (W k).natAbs 8000) : call T (n + 2) 30 [.int z, prD z m Rw W] = .ok (tabD z z (wm m Rw W)) := by
  refine call_P (Q := fun x => x = .ok (tabD z z (wm m Rw W))) (d := d_weighted_matrix) rfl rfl rfl fun P hP _ => ?_
  refine p_ret (tabD z z (wm m Rw W)) (ev_lcR (k := z) (c := fun (i : Nat) => .int i) (g := fun i => rowD z (wm m Rw W i)) (evi_rngN rfl (by omega)) fun i hi => lcI_ok rfl (ev_lcR (k := z) (c := fun (i : Nat) => .int i) (g := fun j => .int (wm m Rw W i j)) (evi_rngN rfl (by omega)) fun j hj => lcI_ok rfl (ev_callE (d := d_weighted_sum) rfl (by rfl) (run_wsum (n := n) hB hs hW hi hj)))) (hP _ rfl)
theorem wm_sym (m : Nat) (Rw : Nat → Nat → Int) (W : Nat → Int) (i j : Nat) : wm m Rw W i j = wm m Rw W j i :=
  sumN_congr fun k _ => by rw [Int.mul_assoc, Int.mul_assoc, Int.mul_comm (Rw k i)]
/-! forms -/
abbrev linesD (z : Nat) (t : Nat → Nat → Int) : D := .tup ((List.range z).map fun q => .tup (rowL z (t q)))
theorem run_checksquare {n z : Nat} {t : Nat → Nat → Int} : call T (n + 1) 12 [linesD z t] = .ok .non := by
  refine call_P (Q := fun x => x = .ok .non) (d := d_check_square) rfl rfl rfl fun P hP hN => ?_
  refine p_for (α := Unit) z (fun k => .tup [.int k, .tup (rowL z (t k))]) (fun _ => [some (linesD z t), none, none]) (fun _ => []) (fun _ _ => True) (fun _ => False) (fun _ _ => False) ()
    (fun k _ => [some (linesD z t), some (.int k), some (.tup (rowL z (t k)))]) ?_ rfl rfl trivial (fun i hi a ha => rfl) (fun k hk a ha P' hn _ _ => ?_) (fun a ha => ?_) (fun _ z => z.elim) (fun _ _ z => z.elim)
  · show enumR (linesD z t) = _
    rw [enumR_tup, rng_enum, List.map_map]; rfl
  · refine p_if false (ev_cmpE (ev_biE rfl (len_tup _)) (ev_biE rfl (len_tup _)) (by rw [rng_len, rng_len, cmp_ne_int, decide_eq_true rfl]; rfl)) (fun z => nomatch z) fun _ => p_nil (hn _ _ () rfl rfl trivial)
  · exact p_nil (hN rfl _ _ rfl)
theorem run_checksym {n z : Nat} {t : Nat → Nat → Int} (hz : z ≤ 100) (ht : ∀ i j, t i j = t j i) : call T (n + 1) 13 [linesD z t] = .ok .non := by
  refine call_P (Q := fun x => x = .ok .non) (d := d_check_symmetric) rfl rfl rfl fun P hP hN => ?_
  have hlen : bfD T (call T n) .len [linesD z t] = .ok (.int z) := by rw [len_tup, rng_len]
  refine p_for (α := Unit) z (fun (k : Nat) => .int k) (fun _ => [some (linesD z t), none, none]) (fun _ => []) (fun _ _ => True) (fun _ => False) (fun _ _ => False) ()
    (fun k _ => [some (linesD z t), some (.int k), none]) (evi_rngN (ev_biE rfl hlen) (by omega)) rfl rfl trivial (fun i hi a ha => rfl) (fun i hi a ha P' hn _ _ => ?_) (fun a ha => ?_) (fun _ z => z.elim) (fun _ _ z => z.elim)
  · refine p_for (α := Unit) (z - (i + 1)) (fun (k : Nat) => .int ((i + 1 + k : Nat) : Int)) (fun _ => [some (linesD z t), some (.int i), none]) (fun _ => []) (fun _ _ => True) (fun _ => False) (fun _ _ => False) ()
      (fun k _ => [some (linesD z t), some (.int i), some (.int ((i + 1 + k : Nat) : Int))]) (evi_rngN2 (m := i + 1) (by rfl) (ev_biE rfl hlen) (by omega) (by omega)) rfl rfl trivial (fun i hi a ha => rfl) (fun j hj a ha P'' hn' _ _ => ?_) (fun a ha => ?_) (fun _ z => z.elim) (fun _ _ z => z.elim)
    · refine p_if false (ev_cmpE (ev_ixE (ev_ixE rfl rfl (ix_rngT _ hi)) rfl (ix_rngT _ (by omega))) (ev_ixE (ev_ixE rfl rfl (ix_rngT _ (by omega))) rfl (ix_rngT _ hi)) (by rw [cmp_ne_int, decide_eq_true (ht _ _)]; rfl)) (fun z => nomatch z) fun _ => p_nil (hn' _ _ () rfl rfl trivial)
    · exact p_nil (hn _ _ () rfl rfl trivial)
  · exact p_nil (hN rfl _ _ rfl)
theorem gcdL_pos {b : Int} {ns : List Int} (h : 0 < b) : 0 < gcdL b ns := by
  rcases gcdL_ne (b := b) (ns := ns) (.inl (by omega)) with q | ⟨q, e⟩
  · exact q
  · omega
theorem run_low {n : Nat} {ns : List Int} {b : Int} (hb : 0 < b) (hs : Sm b.natAbs 8000) : call T (n + 1) 9 [.lst (lI ns), .int b] = .ok (.tup [.tup (ns.map fun x => .int (x / gcdL b ns)), .int (b / gcdL b ns)]) :=
  run_lowered (gcdL_pos hb) (sm_div (sm_le (Nat.le_of_dvd (by omega) (Int.natAbs_dvd_natAbs.mpr (gcdL_dvd ns b).1)) hs) (by decide))
end Fc

namespace Fc
theorem call_eqI {T : Tab} {n f : Nat} {xs : List D} {d : Def} (h : T.fn f = some d) (hl : xs.length = d.np) (hi : d.init = true) : call T (n + 1) f xs = endI (exSs T (call T n) d.body (inS d xs) [(0, 1)]) := by
  show (match T.fn f with
    | some d => runDef T (call T n) d xs
    | none => .no) = _
  rw [h]
  show runDef T (call T n) d xs = _
  unfold runDef
  rw [if_pos hl, hi]
section
variable {T : Tab} {F : Nat → List D → R D}
theorem call_PI {n f : Nat} {xs : List D} {d : Def} {Q : R D → Prop} (h : T.fn f = some d) (hl : xs.length = d.np) (hi : d.init = true) (hp : ∀ P : R Fl → Prop, (∀ c ks ds s o, (o.lookup 0).isSome = true → Q (.ok (.obj c ks ds)) → P (.ok (.nx (some (.obj c ks ds) :: s) o))) → P (exSs T (call T n) d.body (inS d xs) [(0, 1)])) : Q (call T (n + 1) f xs) := by
  rw [call_eqI h hl hi]
  exact hp (fun x => Q (endI x)) fun c ks ds s o ho hq => by
    show Q (if (o.lookup 0).isSome then .ok (.obj c ks ds) else .no)
    rw [if_pos ho]; exact hq
variable {P : R Fl → Prop} {r : Ss} {s : Env} {o : Ow}
theorem p_setfz {k : Nat} {fz : List Nat} {e : E} {c : Nat} {ks : List Nat} {ds : List D} {s' : Env} (d : D) (h : evE T F e (some (.obj c ks ds) :: s') = .ok d) (ho : ((fzO T fz e d (some (.obj c ks ds) :: s') o).lookup 0).isSome = true) (hk : (ks.contains k || !(Nat.blt ks.length 100) || (T.init c).isNone) = false) (hp : P (exSs T F r (some (.obj c (ks ++ [k]) (ds ++ [d])) :: s') (fzO T fz e d (some (.obj c ks ds) :: s') o))) : P (exSs T F (.cons (.setf k fz e) r) (some (.obj c ks ds) :: s') o) := by
  obtain ⟨j, hj⟩ := Option.isSome_iff_exists.mp ho
  have : exS T F (.setf k fz e) (some (.obj c ks ds) :: s') o = .ok (.nx (some (.obj c (ks ++ [k]) (ds ++ [d])) :: s') (fzO T fz e d (some (.obj c ks ds) :: s') o)) := by
    unfold exS
    simp only [h, bind_ok, hj, hk]
    rfl
  rw [exs_cons, this]
  exact hp
theorem p_setf {k : Nat} {e : E} {c : Nat} {ks : List Nat} {ds : List D} {s' : Env} (d : D) (h : evE T F e (some (.obj c ks ds) :: s') = .ok d) (ho : (o.lookup 0).isSome = true) (hk : (ks.contains k || !(Nat.blt ks.length 100) || (T.init c).isNone) = false) (hp : P (exSs T F r (some (.obj c (ks ++ [k]) (ds ++ [d])) :: s') o)) : P (exSs T F (.cons (.setf k [] e) r) (some (.obj c ks ds) :: s') o) :=
  p_setfz d h (by rw [fzO_nil]; exact ho) hk (by rw [fzO_nil]; exact hp)
theorem ev_mkE {c f : Nat} {es : Es} {e : E} {d k : D} {xs : List D} {r : R D} {s : Env} (hf : T.init c = some (f, some d)) (hx : evEs T F es s = .ok xs) (hk : evE T F e s = .ok k) (hr : F f (.obj c [] [] :: (xs ++ [k])) = r) : evE T F (.mk c es (.some e)) s = r := by
  show (match T.init c with
    | some (f, none) => (match (Eo.some e) with
      | .none => (evEs T F es s >>= fun xs => F f (.obj c [] [] :: xs))
      | .some _ => .no)
    | some (f, some d) => (evEs T F es s >>= fun xs => evOd T F (.some e) s >>= fun k => F f (.obj c [] [] :: (xs ++ [k.getD d])))
    | none => .no) = r
  rw [hf]
  show (evEs T F es s >>= fun xs => (evE T F e s >>= fun x => R.ok (some x)) >>= fun k => F f (.obj c [] [] :: (xs ++ [k.getD d]))) = r
  rw [hx, bind_ok, hk]
  exact hr
theorem ev_slE {a : E} {lo hi : Eo} {x : D} {l h : Option Int} {r : R D} {s : Env} (ha : evE T F a s = .ok x) (hl : evOi T F lo s = .ok l) (hh : evOi T F hi s = .ok h) (hr : slD x l h = r) : evE T F (.sl a lo hi) s = r := by
  rw [ev_sl, ha, bind_ok, hl, bind_ok, hh, bind_ok]; exact hr
theorem evo_E {e : E} {i : Int} {s : Env} (h : evE T F e s = .ok (.int i)) : evOi T F (.some e) s = .ok (some i) := by
  rw [evo_some, h]; rfl
theorem noLs_all {cs : Option Nat} : ∀ {xs : List D}, (∀ x ∈ xs, noL T cs x = true) → noL.noLs T cs xs = true
  | [], _ => rfl
  | x :: xs, h => by
    show (noL T cs x && noL.noLs T cs xs) = true
    rw [h x (by simp), noLs_all fun y hy => h y (List.mem_cons_of_mem _ hy)]; rfl
end
/-- the numbers of the lines, one behind another -/
def flT (z : Nat) (t : Nat → Nat → Int) : List Int := (List.range z).flatMap fun i => (List.range z).map fun j => t i j
def frN (z : Nat) (t : Nat → Nat → Int) (b : Int) : List D := (flT z t).map fun x => .int (x / gcdL b (flT z t))
/-- the form of a matrix over a bottom -/
def frD (z : Nat) (t : Nat → Nat → Int) (b : Int) : D := .obj 7 [5, 6, 7] [.int z, .tup ((List.range z).map fun (r : Nat) => .tup (cutD (frN z t b) (some ((r : Int) * z)) (some ((r : Int) * z + z)))), .int (b / gcdL b (flT z t))]
theorem flT_len (z : Nat) (t : Nat → Nat → Int) : (flT z t).length = z * z := by
  unfold flT
  rw [List.length_flatMap]
  have : (List.range z).map (fun i => ((List.range z).map fun j => t i j).length) = (List.range z).map fun _ => z := List.map_congr_left fun i _ => by simp
  rw [this]
  have : ∀ k : Nat, ((List.range k).map fun _ => z).sum = k * z := fun k => by
    induction k with
    | zero => simp
    | succ k ih => rw [rng_snoc, List.sum_append, ih, Nat.add_mul]; simp
  exact this z
theorem fr_noL (z : Nat) (t : Nat → Nat → Int) (b : Int) : noL T (some 8) (frD z t b) = true := by
  have h1 : noL T (some 8) (.tup ((List.range z).map fun (r : Nat) => .tup (cutD (frN z t b) (some ((r : Int) * z)) (some ((r : Int) * z + z))))) = true := by
    show noL.noLs T (some 8) _ = true
    refine noLs_all fun x hx => ?_
    obtain ⟨r, _, rfl⟩ := List.mem_map.mp hx
    show noL.noLs T (some 8) _ = true
    refine noLs_all fun y hy => ?_
    unfold cutD at hy
    have hy := List.mem_of_mem_drop (List.mem_of_mem_take hy)
    obtain ⟨i, _, rfl⟩ := List.mem_map.mp hy
    rfl
  show ((match (some 8 : Option Nat) with
    | none => true
    | some c0 => (T.init c0).isSome && ((T.init 7).isSome && !(7 == c0))) && (noL T (some 8) (.int z) && (noL T (some 8) (.tup ((List.range z).map fun (r : Nat) => .tup (cutD (frN z t b) (some ((r : Int) * z)) (some ((r : Int) * z + z))))) && (noL T (some 8) (.int (b / gcdL b (flT z t))) && true)))) = true
  rw [h1]
  rfl
theorem run_forminit {n z : Nat} {t : Nat → Nat → Int} {b : Int} (hz : z ≤ 100) (ht : ∀ i j, t i j = t j i) (hb : 0 < b) (hs : Sm b.natAbs 8000) : call T (n + 4) 17 [.obj 7 [] [], tabD z z t, .int b] = .ok (frD z t b) := by
  refine call_PI (Q := fun x => x = .ok (frD z t b)) (d := d_Form_init) rfl rfl rfl fun P hP => ?_
  refine p_set (linesD z t) (ev_callE (d := d_frozen) rfl (by rfl) (run_fztab (n := n))) ?_
  refine p_exp .non (ev_callE (d := d_check_square) rfl (by rfl) (run_checksquare (n := n + 2))) ?_
  refine p_exp .non (ev_callE (d := d_check_symmetric) rfl (by rfl) (run_checksym (n := n + 2) hz ht)) ?_
  refine p_set (.int z) (ev_biE rfl (by rw [len_tup, rng_len])) ?_
  have hfl : (List.range z).flatMap (fun i => (List.range z).map fun j => D.int (t i j)) = lI (flT z t) := by
    unfold flT lI
    rw [List.map_flatMap]
    congr 1
    funext i
    rw [List.map_map]; rfl
  have hfle : ((List.range z).flatMap fun i => (List.range z).map fun j => D.int (t i j)).length ≤ 16777216 := by
    rw [hfl, List.length_map, flT_len]
    have : z * z ≤ 100 * 100 := Nat.mul_le_mul hz hz
    omega
  refine p_unp (.tup [.tup (frN z t b), .int (b / gcdL b (flT z t))]) [some (.obj 7 [] []), some (tabD z z t), some (.int b), some (linesD z t), some (.int z), some (.tup (frN z t b)), some (.int (b / gcdL b (flT z t))), none, none, none] (ev_callE (d := d_lowered) rfl (evs_consE (ev_lc2R (k := z) (k2 := fun _ => z) (c := fun q => .tup (rowL z (t q))) (c2 := fun q j => .int (t q j)) (g := fun q j => .int (t q j)) (s1 := fun q => [some (.obj 7 [] []), some (tabD z z t), some (.int b), some (linesD z t), some (.int z), none, none, some (.tup (rowL z (t q))), none, none]) (s2 := fun q j => [some (.obj 7 [] []), some (tabD z z t), some (.int b), some (linesD z t), some (.int z), none, none, some (.tup (rowL z (t q))), some (.int (t q j)), none]) (by rfl) (fun i _ => rfl) (fun i _ => by rfl) (fun i _ j _ => rfl) (fun i _ j _ => rfl) hfle) (evs_consE rfl rfl)) (by rw [hfl]; exact run_low (n := n + 2) hb hs)) rfl ?_
  refine p_setf (.int z) rfl rfl rfl ?_
  refine p_setf (.tup ((List.range z).map fun (r : Nat) => .tup (cutD (frN z t b) (some ((r : Int) * z)) (some ((r : Int) * z + z))))) (ev_biE (evs_consE (ev_lcR (k := z) (c := fun (r : Nat) => .int r) (g := fun (r : Nat) => .tup (cutD (frN z t b) (some ((r : Int) * z)) (some ((r : Int) * z + z)))) (evi_rngN rfl (by omega)) fun r hr => lcI_ok rfl ?_) rfl) (tuple_lst _)) rfl rfl ?_
  · have hm : mulOk (r : Int) (z : Int) = true := sm_mulOk (k := 14) (l := 14) (sm_14 (by omega)) (sm_14 (by omega)) (by decide)
    exact ev_slE rfl (evo_E (ev_binE rfl rfl (op_mul hm))) (evo_E (ev_binE (ev_binE rfl rfl (op_mul hm)) rfl (op_add _ _))) rfl
  refine p_setf (.int (b / gcdL b (flT z t))) rfl rfl rfl ?_
  exact p_nil (hP _ _ _ _ _ rfl rfl)
def wL (m : Nat) (W : Nat → Int) : List Int := (List.range m).map W
def lwW (m : Nat) (W : Nat → Int) (b : Int) (k : Nat) : Int := W k / gcdL b (wL m W)
def lwB (m : Nat) (W : Nat → Int) (b : Int) : Int := b / gcdL b (wL m W)
theorem lwB_pos {m : Nat} {W : Nat → Int} {b : Int} (hb : 0 < b) : 0 < lwB m W b := by
  have h1 := gcdL_pos (ns := wL m W) hb
  obtain ⟨c, hc⟩ := (gcdL_dvd (wL m W) b).1
  unfold lwB
  have e : b / gcdL b (wL m W) = c := by
    have := Int.mul_ediv_cancel_left c (show gcdL b (wL m W) ≠ 0 by omega)
    rw [← hc] at this; exact this
  rw [e]
  exact Int.pos_of_mul_pos_right (by rw [← hc]; exact hb) (by omega)
theorem div_abs_le {a g : Int} (h : 0 < g) (hd : g ∣ a) : (a / g).natAbs ≤ a.natAbs := by
  obtain ⟨c, hc⟩ := hd
  have e : a / g = c := by
    have := Int.mul_ediv_cancel_left c (show g ≠ 0 by omega)
    rw [← hc] at this; exact this
  rw [e, hc, Int.natAbs_mul]
  have : 1 * c.natAbs ≤ g.natAbs * c.natAbs := Nat.mul_le_mul_right _ (by omega)
  omega
theorem lwB_sm {m : Nat} {W : Nat → Int} {b : Int} {e : Nat} (hb : 0 < b) (hs : Sm b.natAbs e) : Sm (lwB m W b).natAbs e :=
  sm_le (div_abs_le (gcdL_pos hb) (gcdL_dvd (wL m W) b).1) hs
theorem lw_dvd {m : Nat} {W : Nat → Int} {b : Int} {k : Nat} (hk : k < m) : gcdL b (wL m W) ∣ W k := (gcdL_dvd (wL m W) b).2 _ (List.mem_map.mpr ⟨k, List.mem_range.mpr hk, rfl⟩)
theorem lwW_sm {m : Nat} {W : Nat → Int} {b : Int} {e k : Nat} (hb : 0 < b) (hk : k < m) (hs : Sm (W k).natAbs e) : Sm (lwW m W b k).natAbs e :=
  sm_le (div_abs_le (gcdL_pos hb) (lw_dvd hk)) hs
theorem lwW_pos {m : Nat} {W : Nat → Int} {b : Int} {k : Nat} (hb : 0 < b) (hk : k < m) (hW : 1 ≤ W k) : 1 ≤ lwW m W b k := by
  have h1 := gcdL_pos (ns := wL m W) hb
  obtain ⟨c, hc⟩ := lw_dvd (b := b) (W := W) hk
  have e : lwW m W b k = c := by
    have := Int.mul_ediv_cancel_left c (show gcdL b (wL m W) ≠ 0 by omega)
    rw [← hc] at this; exact this
  rw [e]
  have := Int.pos_of_mul_pos_right (by rw [← hc]; omega) h1
  omega
/-- the list that is made of rows and weights -/
def mkR (z m : Nat) (Rw : Nat → Nat → Int) (W : Nat → Int) (b : Int) : D := rlD z m Rw (lwW m W b) (lwB m W b) (frD z (wm m Rw (lwW m W b)) (lwB m W b))
theorem run_rowinit {n z m B : Nat} {Rw : Nat → Nat → Int} {W : Nat → Int} {b : Int} (b0 b1 b2 : Bool) (hz : z ≤ 100) (hB : ∀ k i, (Rw k i).natAbs ≤ B) (hs : Sm B 1000) (hW : ∀ k, k < m → 1 ≤ W k) (hW2 : ∀ k, k < m → Sm (W k).natAbs 8000) (hb : 0 < b) (hbs : Sm b.natAbs 8000) :
    call T (n + 5) 31 [.obj 8 [] [], .int z, cD b0 ((List.range m).map fun k => cD b1 [cD b2 (rowL z (Rw k)), .int (W k)]), .int b] = .ok (mkR z m Rw W b) := by
  refine call_PI (Q := fun x => x = .ok (mkR z m Rw W b)) (d := d_RowList_init) rfl rfl rfl fun P hP => ?_
  generalize hxs : cD b0 ((List.range m).map fun k => cD b1 [cD b2 (rowL z (Rw k)), .int (W k)]) = xs
  have hfz := run_fzpairs (n := n + 1) (z := z) (m := m) (Rw := Rw) (W := W) b0 b1 b2
  rw [hxs] at hfz
  refine p_set (prD z m Rw W) (ev_callE (d := d_frozen) rfl (by rfl) hfz) ?_
  refine p_exp .non (ev_callE (d := d_check_pairs) rfl (by rfl) (run_checkpairs (n := n + 3) hW)) ?_
  have hlow := run_low (n := n + 3) (ns := wL m W) hb hbs
  have e1 : (wL m W).map (fun x => D.int (x / gcdL b (wL m W))) = rowL m (lwW m W b) := by unfold wL; rw [List.map_map]; rfl
  have e2 : lI (wL m W) = rowL m W := by unfold wL lI; rw [List.map_map]; rfl
  rw [e1, e2] at hlow
  refine p_unp (.tup [.tup (rowL m (lwW m W b)), .int (lwB m W b)]) [some (.obj 8 [] []), some (.int z), some xs, some (.int b), some (prD z m Rw W), some (.tup (rowL m (lwW m W b))), some (.int (lwB m W b)), none, none] (ev_callE (d := d_lowered) rfl (evs_consE (ev_lcR (k := m) (c := fun k => .tup [.tup (rowL z (Rw k)), .int (W k)]) (g := fun k => .int (W k)) (by rfl) fun k hk => lcI_ok rfl (ev_ixE rfl rfl (ix_tup (i := 1) rfl))) (evs_consE rfl rfl)) hlow) rfl ?_
  refine p_setf (.int z) rfl rfl rfl ?_
  refine p_setf (prD z m Rw (lwW m W b)) (ev_biE (evs_consE (ev_lcR (k := m) (c := fun k => .tup [.tup [.tup (rowL z (Rw k)), .int (W k)], .int (lwW m W b k)]) (g := fun k => .tup [.tup (rowL z (Rw k)), .int (lwW m W b k)]) ?_ fun k hk => lcI_ok rfl (ev_tupE (evs_consE (ev_ixE rfl rfl (ix_tup (i := 0) rfl)) (evs_consE rfl rfl)))) rfl) (tuple_lst _)) rfl rfl ?_
  · show zipR (prD z m Rw W) (.tup (rowL m (lwW m W b))) = _
    rw [zipR_tt, rng_zip, List.map_map]; rfl
  refine p_setf (.int (lwB m W b)) rfl rfl rfl ?_
  have hfi := run_forminit (n := n) (z := z) (t := wm m Rw (lwW m W b)) hz (fun i j => wm_sym ..) (lwB_pos (m := m) (W := W) hb) (lwB_sm hb hbs)
  have hwm := run_wmat (n := n + 2) (z := z) (W := lwW m W b) hz hB hs fun k hk => lwW_sm hb hk (hW2 k hk)
  have hfree : ∀ (e : E) (s : Env), fzO T [0] e (frD z (wm m Rw (lwW m W b)) (lwB m W b)) (some (.obj 8 [5, 8, 7] [.int z, prD z m Rw (lwW m W b), .int (lwB m W b)]) :: s) [(0, 1)] = [(0, 1)] := fun e s => by
    unfold fzO fre
    have : selfC (some (.obj 8 [5, 8, 7] [.int z, prD z m Rw (lwW m W b), .int (lwB m W b)]) :: s) [(0, 1)] = some 8 := rfl
    rw [this, fr_noL]; rfl
  refine p_setfz (frD z (wm m Rw (lwW m W b)) (lwB m W b)) (ev_mkE (f := 17) (d := .int 1) (k := .int (lwB m W b)) rfl (evs_consE (ev_callE (d := d_weighted_matrix) rfl (by rfl) hwm) rfl) rfl hfi) ?_ rfl ?_
  · exact (congrArg (fun o : Ow => (o.lookup 0).isSome) (hfree _ _)).trans rfl
  · refine p_nil ?_
    refine hP _ _ _ _ _ ?_ rfl
    exact (congrArg (fun o : Ow => (o.lookup 0).isSome) (hfree _ _)).trans rfl
end Fc

namespace Fc
theorem eqvA (x : PySem.PyData) (xs : List PySem.PyData) (h : PySem.PyData.eqv x x = true) (hs : PySem.PyData.eqvAll xs xs = true) : PySem.PyData.eqvAll (x :: xs) (x :: xs) = true := by
  rw [PySem.PyData.eqvAll, h, hs]; rfl
mutual
theorem toP_refl : ∀ (n : Nat) (d : D) (p : PySem.PyData), toP n d = some p → PySem.PyData.eqv p p = true
  | n, .non, p, h => by
    have : p = .none := by cases n <;> (cases h; rfl)
    subst this; rfl
  | n, .bl b, p, h => by
    have : p = .bool b := by cases n <;> (cases h; rfl)
    subst this; simp [PySem.PyData.eqv]
  | n, .int i, p, h => by
    have : p = .int i := by cases n <;> (cases h; rfl)
    subst this; simp [PySem.PyData.eqv]
  | n + 1, .tup ds, p, h => by
    have h : (toPs n ds).map PySem.PyData.tuple = some p := h
    cases e : toPs n ds with
    | none => rw [e] at h; cases h
    | some ps =>
      rw [e] at h; cases h
      rw [PySem.PyData.eqv]; exact toPs_refl n ds ps e
  | n + 1, .lst ds, p, h => by
    have h : (toPs n ds).map PySem.PyData.list = some p := h
    cases e : toPs n ds with
    | none => rw [e] at h; cases h
    | some ps =>
      rw [e] at h; cases h
      rw [PySem.PyData.eqv]; exact toPs_refl n ds ps e
  | 0, .tup ds, p, h => by cases h
  | 0, .lst ds, p, h => by cases h
  | n, .str s, p, h => by cases n <;> cases h
  | n, .scr s, p, h => by cases n <;> cases h
  | n, .obj .., p, h => by cases n <;> cases h
theorem toPs_refl : ∀ (n : Nat) (ds : List D) (ps : List PySem.PyData), toPs n ds = some ps → PySem.PyData.eqvAll ps ps = true
  | n, [], ps, h => by
    have : ps = [] := by cases n <;> (cases h; rfl)
    subst this; rfl
  | n, d :: ds, ps, h => by
    have h : (match toP n d with
      | some p => (match toPs n ds with
        | some ps => some (p :: ps)
        | none => none)
      | none => none) = some ps := by
      unfold toPs at h
      exact h
    cases e : toP n d with
    | none => rw [e] at h; cases h
    | some p =>
      rw [e] at h
      cases e' : toPs n ds with
      | none => rw [e'] at h; cases h
      | some qs =>
        rw [e'] at h; cases h
        exact eqvA p qs (toP_refl n d p e) (toPs_refl n ds qs e')
end
theorem toPs_some {n : Nat} : ∀ {ds : List D}, (∀ x ∈ ds, ∃ p, toP n x = some p) → ∃ ps, toPs n ds = some ps
  | [], _ => ⟨[], by cases n <;> rfl⟩
  | x :: xs, h => by
    obtain ⟨p, hp⟩ := h x (by simp)
    obtain ⟨ps, hps⟩ := toPs_some fun y hy => h y (List.mem_cons_of_mem _ hy)
    exact ⟨p :: ps, by unfold toPs; rw [hp, hps]⟩
theorem toP_tup {n : Nat} {ds : List D} (h : ∀ x ∈ ds, ∃ p, toP n x = some p) : ∃ p, toP (n + 1) (.tup ds) = some p := by
  obtain ⟨ps, hps⟩ := toPs_some h
  exact ⟨.tuple ps, by show (toPs n ds).map PySem.PyData.tuple = _; rw [hps]; rfl⟩
theorem toP_int (n : Nat) (i : Int) : ∃ p, toP n (.int i) = some p := ⟨.int i, by cases n <;> rfl⟩
theorem toP_row {n m : Nat} (f : Nat → Int) : ∃ p, toP (n + 1) (.tup (rowL m f)) = some p := toP_tup fun x hx => by
  obtain ⟨j, _, rfl⟩ := List.mem_map.mp hx
  exact toP_int ..
theorem toP_pr {n z m : Nat} (Rw : Nat → Nat → Int) (W : Nat → Int) : ∃ p, toP (n + 3) (prD z m Rw W) = some p := toP_tup fun x hx => by
  obtain ⟨j, _, rfl⟩ := List.mem_map.mp hx
  exact toP_tup fun y hy => by
    rcases List.mem_cons.mp hy with rfl | hy
    · exact toP_row _
    · rcases List.mem_cons.mp hy with rfl | hy
      · exact toP_int ..
      · cases hy
theorem eqD_refl {x : D} (h : ∃ p, toP 8 x = some p) : eqD x x = .ok true := by
  obtain ⟨p, hp⟩ := h
  unfold eqD
  rw [hp]
  show R.ok (PySem.PyData.eqv p p) = _
  rw [toP_refl 8 x p hp]
section
variable {T : Tab} {F : Nat → List D → R D}
theorem cmp_eq_tup {ds : List D} (h : ∃ p, toP 8 (.tup ds) = some p) : cmpD T F .eq (.tup ds) (.tup ds) = .ok (.bl true) := by
  show (match eqD (.tup ds) (.tup ds) with
    | .ok b => R.ok (D.bl b)
    | _ => .no) = _
  rw [eqD_refl h]
theorem ev_methE {a : E} {m f : Nat} {es : Es} {s : Env} {c : Nat} {ks : List Nat} {ds xs : List D} {r : R D} (ha : evE T F a s = .ok (.obj c ks ds)) (hm : T.mt c m = some f) (hx : evEs T F es s = .ok xs) (hr : F f (.obj c ks ds :: xs) = r) : evE T F (.meth a m es) s = r := by
  show (evE T F a s >>= fun x => mtD T m x >>= fun f => evEs T F es s >>= fun xs => F f (x :: xs)) = r
  rw [ha, bind_ok]
  show (ofO (T.mt c m) >>= fun f => evEs T F es s >>= fun xs => F f (.obj c ks ds :: xs)) = r
  rw [hm, hx]
  exact hr
theorem cmp_eq_obj {c f : Nat} {ks ks' : List Nat} {ds ds' : List D} {r : R D} (hm : T.mt c 0 = some f) (hr : F f [.obj c ks ds, .obj c ks' ds'] = r) : cmpD T F .eq (.obj c ks ds) (.obj c ks' ds') = r := by
  show (if c = c then (match T.mt c 0 with
    | some f => F f [.obj c ks ds, .obj c ks' ds']
    | none => .no) else .no) = r
  rw [if_pos rfl, hm]
  exact hr
end
theorem run_rowseq {n z m : Nat} {Rw : Nat → Nat → Int} {W : Nat → Int} {b : Int} {fm : D} : call T (n + 1) 35 [rlD z m Rw W b fm, rlD z m Rw W b fm] = .ok (.bl true) := by
  refine call_P (Q := fun x => x = .ok (.bl true)) (d := d_RowList_eq) rfl rfl rfl fun P hP _ => ?_
  refine p_ret (.bl true) (ev_andT (by rfl) (ev_andT (ev_cmpE (x := .int z) (y := .int z) rfl rfl (by rw [cmp_eq_int, decide_eq_true rfl])) (ev_andT (ev_cmpE (x := prD z m Rw W) (y := prD z m Rw W) rfl rfl (cmp_eq_tup (toP_pr (n := 5) Rw W))) (ev_cmpE (x := .int b) (y := .int b) rfl rfl (by rw [cmp_eq_int, decide_eq_true rfl]))))) (hP _ rfl)
theorem run_picked {n z m B q : Nat} {Rw : Nat → Nat → Int} {W : Nat → Int} {b : Int} {fm : D} (hz : z ≤ 100) (hB : ∀ k i, (Rw k i).natAbs ≤ B) (hs : Sm B 1000) (hW : ∀ k, k < m → 1 ≤ W k) (hW2 : ∀ k, k < m → Sm (W k).natAbs 8000) (hb : 0 < b) (hbs : Sm b.natAbs 8000) (hq : q ≤ m) :
    call T (n + 6) 37 [rlD z m Rw W b fm, .lst ((List.range q).map fun (i : Nat) => .int i)] = .ok (mkR z q Rw W b) := by
  refine call_P (Q := fun x => x = .ok (mkR z q Rw W b)) (d := d_RowList_picked) rfl rfl rfl fun P hP _ => ?_
  have hi := run_rowinit (n := n) (z := z) (m := q) true false false hz hB hs (fun k hk => hW k (by omega)) (fun k hk => hW2 k (by omega)) hb hbs
  refine p_ret (mkR z q Rw W b) (ev_mkE (f := 31) (d := .int 1) (k := .int b) rfl (evs_consE rfl (evs_consE (ev_lcR (k := q) (c := fun (i : Nat) => .int i) (g := fun k => .tup [.tup (rowL z (Rw k)), .int (W k)]) (by rfl) fun k hk => lcI_ok rfl (ev_ixE rfl rfl (ix_rngT _ (by omega)))) rfl)) rfl hi) (hP _ rfl)
end Fc

namespace Fc
theorem pow18 {F : Nat → List D → R D} : opD T F .pow (.int 10) (.int 18) = .ok (.int 1000000000000000000) := by
  show binD .pow (.int 10) (.int 18) = _
  simp [binD]
theorem lit_mul {a b : Int} (ha : a.natAbs < 2 ^ 100) (hb : b.natAbs < 2 ^ 100) : mulOk a b = true := sm_mulOk (k := 100) (l := 100) ha hb (by decide)
theorem lit_div {b : Int} (hb : b.natAbs < 2 ^ 100) : divOk b = true := sm_div (k := 100) hb (by decide)
theorem run_cell {n k : Nat} {ns : List Int} (hk : k < 1000) : ∃ c : Int, call T (n + 1) 46 [.scr ns, .int k] = .ok (.int c) := by
  refine call_P (Q := fun x => ∃ c : Int, x = .ok (.int c)) (d := d__law_cell) rfl rfl rfl fun P hP _ => ?_
  refine p_if (decide ((k : Int) < ns.length)) (ev_cmpE rfl (ev_biE rfl (len_scr _)) rfl) (fun e => ?_) fun e => ?_
  · have e : k < ns.length := by have := of_decide_eq_true e; omega
    refine p_ret (.int (ns[k])) (ev_ixE rfl rfl ?_) (hP _ ⟨_, rfl⟩)
    show ofO (L2.atI (ns.map D.int) (k : Int)) = _
    rw [atI_nat, List.getElem?_map, List.getElem?_eq_getElem e]; rfl
  · refine p_set (.int 17) rfl ?_
    refine p_for (α := Int) ns.length (fun i => .int (ns.getD i 0)) (fun a => [some (.scr ns), some (.int k), some (.int a), none]) (fun _ => []) (fun _ a => 0 ≤ a ∧ a < 1000003) (fun _ => False) (fun _ _ => False) 17
      (fun i a => [some (.scr ns), some (.int k), some (.int a), some (.int (ns.getD i 0))]) ?_ rfl rfl ⟨by decide, by decide⟩ (fun i hi a ha => rfl) (fun i hi a ha P' hn _ _ => ?_) (fun a ha => ?_) (fun _ z => z.elim) (fun _ _ z => z.elim)
    · show R.ok (lI ns) = _
      rw [lI_row]
    · obtain ⟨h0, h1⟩ := ha
      refine p_set (.int ((a * 31 + ns.getD i 0 % 1000003) % 1000003)) (ev_binE (ev_biE (evs_consE (ev_binE (ev_binE rfl rfl (op_mul (lit_mul (by omega) (by decide)))) (ev_binE (ev_biE rfl (int_int _)) rfl (op_mod (by decide))) (op_add _ _)) rfl) (int_int _)) rfl (op_mod (by decide))) ?_
      exact p_nil (hn _ _ ((a * 31 + ns.getD i 0 % 1000003) % 1000003) rfl rfl ⟨by omega, by omega⟩)
    · obtain ⟨h0, h1⟩ := ha
      have h2 : (a + 7).natAbs * (k + 3) ≤ 1000010 * 1003 := Nat.mul_le_mul (by omega) (by omega)
      have h3 : ((a + 7) * ((k : Int) + 3)).natAbs < 2 ^ 100 := by
        rw [Int.natAbs_mul]
        have : ((k : Int) + 3).natAbs = k + 3 := by omega
        rw [this]; omega
      exact p_ret _ (ev_binE (ev_biE (evs_consE (ev_binE (ev_binE (ev_binE rfl rfl (op_add _ _)) (ev_binE rfl rfl (op_add _ _)) (op_mul (lit_mul (by omega) (by omega)))) rfl (op_mul (lit_mul h3 (by decide)))) rfl) (int_int _)) rfl (op_mod (by decide))) (hP _ ⟨_, rfl⟩)
/-- numbers below given sizes -/
def Dig (k : Nat) (zf f : Nat → Int) : Prop := ∀ i, i < k → 0 ≤ f i ∧ f i < zf i
theorem dig_snoc {i : Nat} {zf f : Nat → Int} {x : Int} (h : Dig i zf f) (h0 : 0 ≤ x) (h1 : x < zf i) : Dig (i + 1) zf (upd f i x) := fun j hj => by
  by_cases e : j = i
  · subst e; rw [upd_self]; exact ⟨h0, h1⟩
  · rw [upd_ne e]; exact h j (by omega)
theorem row_snoc (i : Nat) (f : Nat → Int) (x : Int) : rowL i f ++ [D.int x] = rowL (i + 1) (upd f i x) := by
  show _ = (List.range (i + 1)).map fun c => D.int (upd f i x c)
  rw [rng_snoc, upd_self]
  congr 1
  exact rng_congr fun j hj => by rw [upd_ne (by omega)]
theorem run_digits {n k : Nat} {c : Int} {zf : Nat → Int} (hk : k < 10000) (hz : ∀ i, i < k → 0 < zf i ∧ divOk (zf i) = true) : ∃ f : Nat → Int, Dig k zf f ∧ call T (n + 1) 47 [.int c, rowD k zf] = .ok (rowD k f) := by
  refine call_P (Q := fun x => ∃ f : Nat → Int, Dig k zf f ∧ x = .ok (rowD k f)) (d := d__law_digits) rfl rfl rfl fun P hP _ => ?_
  refine p_set1 (.lst []) (frk_nil _ _) rfl ?_
  refine p_set (.int c) rfl ?_
  refine p_if (decide (1000000000000000000 ≤ c)) (ev_cmpE rfl (ev_binE rfl rfl pow18) rfl) (fun e => ?_) fun e => ?_
  · refine p_set (.int (c - 1000000000000000000)) (ev_binE rfl (ev_binE rfl rfl pow18) rfl) ?_
    refine p_for (α := Nat × (Nat → Int) × Int) k (fun i => .int (zf i)) (fun a => [some (.int c), some (rowD k zf), some (rowD a.1 a.2.1), some (.int a.2.2), none, none, none, none]) (fun _ => [(2, 1)]) (fun i a => a.1 = i ∧ Dig i zf a.2.1) (fun _ => False) (fun _ _ => False) (0, fun _ => 0, c - 1000000000000000000)
      (fun i a => [some (.int c), some (rowD k zf), some (rowD a.1 a.2.1), some (.int a.2.2), none, none, some (.int (zf i)), none]) (by rfl) rfl rfl ⟨rfl, fun j hj => by omega⟩ (fun i hi a ha => rfl) (fun i hi a ha P' hn _ _ => ?_) (fun a ha => ?_) (fun _ z => z.elim) (fun _ _ z => z.elim)
    · obtain ⟨i', f, rest⟩ := a
      obtain ⟨ha, hd⟩ := ha
      have ha : i' = i := ha
      subst ha
      obtain ⟨z0, zd⟩ := hz i' hi
      refine p_app (rowL i' f) (.int (rest % zf i')) rfl rfl (ev_binE (ev_biE rfl (int_int _)) rfl (op_mod z0)) (by rw [rng_len]; omega) ?_
      rw [row_snoc]
      refine p_set (.int (rest / zf i')) (ev_binE (ev_biE rfl (int_int _)) rfl (op_fdiv z0 zd)) ?_
      exact p_nil (hn _ _ (i' + 1, upd f i' (rest % zf i'), rest / zf i') rfl rfl ⟨rfl, dig_snoc hd (Int.emod_nonneg _ (by omega)) (Int.emod_lt_of_pos _ z0)⟩)
    · obtain ⟨i', f, rest⟩ := a
      obtain ⟨ha, hd⟩ := ha
      have ha : i' = k := ha
      subst ha
      exact p_ret (rowD i' f) rfl (hP _ ⟨f, hd, rfl⟩)
  · refine p_set (.int (c % 2147483629)) (ev_binE (ev_biE rfl (int_int _)) rfl (op_mod (by decide))) ?_
    have hc0 : 0 ≤ c % 2147483629 ∧ c % 2147483629 < 2147483647 := by omega
    generalize c % 2147483629 = s0 at hc0
    refine p_for (α := Nat × (Nat → Int) × Int) k (fun (i : Nat) => .int i) (fun a => [some (.int c), some (rowD k zf), some (rowD a.1 a.2.1), some (.int c), some (.int a.2.2), none, none, none]) (fun _ => [(2, 1)]) (fun i a => a.1 = i ∧ Dig i zf a.2.1 ∧ 0 ≤ a.2.2 ∧ a.2.2 < 2147483647) (fun _ => False) (fun _ _ => False) (0, fun _ => 0, s0)
      (fun i a => [some (.int c), some (rowD k zf), some (rowD a.1 a.2.1), some (.int c), some (.int a.2.2), some (.int i), none, none]) (evi_rngN (ev_biE rfl (by rw [len_lst, rng_len])) (by omega)) rfl rfl ⟨rfl, fun j hj => by omega, hc0⟩ (fun i hi a ha => rfl) (fun i hi a ha P' hn _ _ => ?_) (fun a ha => ?_) (fun _ z => z.elim) (fun _ _ z => z.elim)
    · obtain ⟨i', f, sd⟩ := a
      obtain ⟨ha, hd, hs⟩ := ha
      have ha : i' = i := ha
      subst ha
      have hs : 0 ≤ sd ∧ sd < 2147483647 := hs
      obtain ⟨z0, zd⟩ := hz i' hi
      refine p_set (.int ((sd * 48271 + 974711 * (i' : Int) + 12345) % 2147483647)) (ev_binE (ev_biE (evs_consE (ev_binE (ev_binE (ev_binE rfl rfl (op_mul (lit_mul (by omega) (by decide)))) (ev_binE rfl rfl (op_mul (lit_mul (by decide) (by omega)))) (op_add _ _)) rfl (op_add _ _)) rfl) (int_int _)) rfl (op_mod (by decide))) ?_
      have hs' : 0 ≤ (sd * 48271 + 974711 * (i' : Int) + 12345) % 2147483647 ∧ (sd * 48271 + 974711 * (i' : Int) + 12345) % 2147483647 < 2147483647 := by omega
      generalize (sd * 48271 + 974711 * (i' : Int) + 12345) % 2147483647 = sd' at hs'
      refine p_set (.int ((sd' * (sd' / 65537 + 3)) % 2147483629)) (ev_binE (ev_biE (evs_consE (ev_binE rfl (ev_binE (ev_binE rfl rfl (op_fdiv (by decide) (lit_div (by decide)))) rfl (op_add _ _)) (op_mul (lit_mul (by omega) (by omega)))) rfl) (int_int _)) rfl (op_mod (by decide))) ?_
      refine p_app (rowL i' f) (.int ((sd' * (sd' / 65537 + 3)) % 2147483629 / 19 % zf i')) rfl rfl (ev_binE (ev_binE rfl rfl (op_fdiv (by decide) (lit_div (by decide)))) (ev_ixE rfl rfl (ix_rngL _ hi)) (op_mod z0)) (by rw [rng_len]; omega) ?_
      rw [row_snoc]
      exact p_nil (hn _ _ (i' + 1, upd f i' _, sd') rfl rfl ⟨rfl, dig_snoc hd (Int.emod_nonneg _ (by omega)) (Int.emod_lt_of_pos _ z0), hs'⟩)
    · obtain ⟨i', f, rest⟩ := a
      obtain ⟨ha, hd, _⟩ := ha
      have ha : i' = k := ha
      subst ha
      exact p_ret (rowD i' f) rfl (hP _ ⟨f, hd, rfl⟩)
end Fc

namespace Fc
section
variable {T : Tab} {F : Nat → List D → R D} {P : R Fl → Prop} {r : Ss} {s : Env} {o : Ow}
theorem p_ifJ {α : Type} {t : E} {a b : Ss} (S : α → Env) (O : Ow) (J : α → Prop) (v : Bool) (h : evE T F t s = .ok (.bl v)) (ht : v = true → ∃ x, J x ∧ exSs T F a s o = .ok (.nx (S x) O)) (hf : v = false → ∃ x, J x ∧ exSs T F b s o = .ok (.nx (S x) O)) (hp : ∀ x, J x → P (exSs T F r (S x) O)) : P (exSs T F (.cons (.if_ t a b) r) s o) := by
  rw [exs_cons, ex_if, h, bind_ok]
  cases v with
  | true =>
    obtain ⟨x, hx, e⟩ := ht rfl
    rw [ifR_true, e]; exact hp x hx
  | false =>
    obtain ⟨x, hx, e⟩ := hf rfl
    rw [ifR_false, e]; exact hp x hx
theorem exs_set {i : Nat} {e : E} (d : D) (h : evE T F e s = .ok d) : exSs T F (.cons (.set i 0 [] e) .nil) s o = .ok (.nx (s.set i (some d)) (setO i 0 o)) :=
  p_set (P := fun x => x = .ok (.nx (s.set i (some d)) (setO i 0 o))) d h rfl
theorem ev_negE {a : E} {i : Int} (h : evE T F a s = .ok (.int i)) : evE T F (.neg a) s = .ok (.int (-i)) := by rw [ev_neg, h]; rfl
theorem op_addL {a b : List D} (h : a.length + b.length ≤ 16777216) : opD T F .add (.lst a) (.lst b) = .ok (.lst (a ++ b)) := if_pos h
end
theorem ix_rngI {k j : Nat} {i : Int} (g : Nat → D) (e : i = (j : Int)) (h : j < k) : ixD (.lst ((List.range k).map g)) (.int i) = .ok (g j) := by
  subst e; exact ix_rngL g h
/-- a row of numbers of at most B -/
def RB (z B : Nat) (x : D) : Prop := ∃ g : Nat → Int, x = rowD z g ∧ ∀ i, (g i).natAbs ≤ B
theorem rb_of {z B : Nat} {g : Nat → Int} (h : ∀ i, i < z → (g i).natAbs ≤ B) : RB z B (rowD z g) :=
  ⟨fun i => if i < z then g i else 0, congrArg D.lst (rng_congr fun i hi => by dsimp only; rw [if_pos hi]), fun i => by
    dsimp only
    by_cases hi : i < z
    · rw [if_pos hi]; exact h i hi
    · rw [if_neg hi]; exact Nat.zero_le _⟩
theorem rb_mono {z B B' : Nat} {x : D} (h : RB z B x) (hB : B ≤ B') : RB z B' x := by
  obtain ⟨g, e, hg⟩ := h
  exact ⟨g, e, fun i => Nat.le_trans (hg i) hB⟩
theorem run_wide {n K z : Nat} {f : Nat → Int} (hz : z ≤ 100) (hK : K = 15 + 2 * z) (hf : ∀ k, k < z → 0 ≤ f (15 + 2 * k) ∧ f (15 + 2 * k) < 2000001 ∧ 0 ≤ f (15 + 2 * k + 1) ∧ f (15 + 2 * k + 1) < 1000000) : ∃ x, RB z 1000000000000 x ∧ call T (n + 1) 54 [rowD K f, .int 15, .int z] = .ok x := by
  refine call_P (Q := fun y => ∃ x, RB z 1000000000000 x ∧ y = .ok x) (d := d__law_wide) rfl rfl rfl fun P hP _ => ?_
  have hpow : opD T (call T n) .pow (.int 10) (.int 12) = .ok (.int 1000000000000) := by
    show binD .pow (.int 10) (.int 12) = _
    simp [binD]
  refine p_ret (rowD z fun k => if (f (15 + 2 * k) - 1000000) * 1000000 + f (15 + 2 * k + 1) < 1000000000000 then (f (15 + 2 * k) - 1000000) * 1000000 + f (15 + 2 * k + 1) else 1000000000000) (ev_lcR (k := z) (c := fun (i : Nat) => .int i) (g := fun k => .int (if (f (15 + 2 * k) - 1000000) * 1000000 + f (15 + 2 * k + 1) < 1000000000000 then (f (15 + 2 * k) - 1000000) * 1000000 + f (15 + 2 * k + 1) else 1000000000000)) (evi_rngN rfl (by omega)) fun k hk => lcI_ok rfl ?_) (hP _ ⟨_, rb_of fun k hk => ?_, rfl⟩)
  · have h1 := hf k hk
    have i1 : ixD (rowD K f) (.int (15 + 2 * (k : Int))) = .ok (.int (f (15 + 2 * k))) := ix_rngI (j := 15 + 2 * k) _ (by omega) (by omega)
    have i2 : ixD (rowD K f) (.int (15 + 2 * (k : Int) + 1)) = .ok (.int (f (15 + 2 * k + 1))) := ix_rngI (j := 15 + 2 * k + 1) _ (by omega) (by omega)
    have m2 : opD T (call T n) .mul (.int 2) (.int (k : Int)) = .ok (.int (2 * (k : Int))) := op_mul (lit_mul (by decide) (by omega))
    refine (ev_biE (xs := [.int 1000000000000, .int ((f (15 + 2 * k) - 1000000) * 1000000 + f (15 + 2 * k + 1))]) (evs_consE (ev_binE rfl rfl hpow) (evs_consE (ev_binE (ev_binE (ev_binE (ev_ixE rfl (ev_binE rfl (ev_binE rfl rfl m2) (op_add _ _)) i1) rfl (op_sub _ _)) rfl (op_mul (lit_mul (by omega) (by decide)))) (ev_ixE rfl (ev_binE (ev_binE rfl (ev_binE rfl rfl m2) (op_add _ _)) rfl (op_add _ _)) i2) (op_add _ _)) rfl)) (min_int _ _))
  · have h1 := hf k hk
    split <;> omega
def bK (kind : Nat) : Nat := if kind = 3 then 1000000000000 else 27
end Fc

namespace Fc
def zfP (i : Nat) : Int := if i < 10 then 7 else if i = 10 then 9 else if i = 11 then 1000 else if i = 12 then 10 ^ 40 else if i = 13 then 10 ^ 40 else if i = 14 then 10 ^ 37 else if i % 2 = 1 then 2000001 else 1000000
theorem zfP_pos (i : Nat) : 0 < zfP i ∧ divOk (zfP i) = true := by
  have h : ∀ x : Int, 0 < x → x.natAbs < 2 ^ 200 → 0 < x ∧ divOk x = true := fun x h1 h2 => ⟨h1, sm_div (k := 200) h2 (by decide)⟩
  unfold zfP
  repeat' split
  all_goals exact h _ (by decide) (by decide)
theorem zfP_15 : lI [7, 7, 7, 7, 7, 7, 7, 7, 7, 7, 9, 1000, 10 ^ 40, 10 ^ 40, 10 ^ 37] = rowL 15 zfP := rfl
theorem zfP_more : ∀ n : Nat, rowL 15 zfP ++ (List.replicate n [D.int 2000001, D.int 1000000]).flatten = rowL (15 + 2 * n) zfP
  | 0 => by simp
  | n + 1 => by
    rw [List.replicate_succ', List.flatten_append, ← List.append_assoc, zfP_more n]
    have e1 : D.int 2000001 = D.int (zfP (15 + 2 * n)) := by
      unfold zfP
      rw [if_neg (by omega), if_neg (by omega), if_neg (by omega), if_neg (by omega), if_neg (by omega), if_neg (by omega), if_pos (by omega)]
    have e2 : D.int 1000000 = D.int (zfP (15 + 2 * n + 1)) := by
      unfold zfP
      rw [if_neg (by omega), if_neg (by omega), if_neg (by omega), if_neg (by omega), if_neg (by omega), if_neg (by omega), if_neg (by omega)]
    rw [show 15 + 2 * (n + 1) = 15 + 2 * n + 1 + 1 by omega]
    show _ = (List.range (15 + 2 * n + 1 + 1)).map fun c => D.int (zfP c)
    rw [rng_snoc, rng_snoc, ← e1, ← e2, List.append_assoc]
    rfl
theorem pow_ok {F : Nat → List D → R D} {a : Int} {b : Nat} (h : b ≤ 1000000) (ha : a.natAbs < 2 ^ 64) : opD T F .pow (.int a) (.int b) = .ok (.int (a ^ b)) := by
  show (if 0 ≤ (b : Int) ∧ (b : Int) ≤ 1000000 ∧ a.natAbs < 2 ^ 64 then R.ok (D.int (a ^ (b : Int).toNat)) else .no) = _
  rw [if_pos ⟨by omega, by omega, ha⟩, Int.toNat_natCast]
end Fc

namespace Fc
theorem rb_list {z B : Nat} : ∀ {ys : List D}, (∀ y ∈ ys, RB z B y) → ∃ Rw : Nat → Nat → Int, ys = (List.range ys.length).map (fun k => rowD z (Rw k)) ∧ ∀ k i, (Rw k i).natAbs ≤ B := fun {ys} h => by
  have h' : ∀ k : Nat, ∃ g : Nat → Int, (∀ y, ys[k]? = some y → y = rowD z g) ∧ ∀ i, (g i).natAbs ≤ B := fun k => by
    cases e : ys[k]? with
    | none => exact ⟨fun _ => 0, (fun y hy => by cases hy), fun i => Nat.zero_le _⟩
    | some y =>
      obtain ⟨g, e1, e2⟩ := h y (List.mem_of_getElem? e)
      exact ⟨g, (fun y' hy => by cases hy; exact e1), e2⟩
  refine ⟨fun k => Classical.choose (h' k), ?_, fun k => (Classical.choose_spec (h' k)).2⟩
  apply List.ext_getElem?
  intro k
  by_cases hk : k < ys.length
  · rw [rng_get _ hk, List.getElem?_eq_getElem hk, (Classical.choose_spec (h' k)).1 _ (List.getElem?_eq_getElem hk)]
  · rw [List.getElem?_eq_none (by omega), List.getElem?_eq_none (by simp; omega)]
section
variable {T : Tab} {F : Nat → List D → R D}
theorem ev_or2 {s : Env} {a b : E} {p q : Prop} [Decidable p] [Decidable q] (ha : evE T F a s = .ok (.bl (decide p))) (hb : evE T F b s = .ok (.bl (decide q))) : evE T F (.or_ a b) s = .ok (.bl (decide (p ∨ q))) := by
  by_cases hp : p
  · rw [decide_eq_true hp] at ha
    rw [ev_orT ha, decide_eq_true (.inl hp)]
  · rw [decide_eq_false hp] at ha
    rw [ev_orF ha hb]
    by_cases hq : q
    · rw [decide_eq_true hq, decide_eq_true (.inr hq)]
    · rw [decide_eq_false hq, decide_eq_false fun z => z.elim hp hq]
theorem ev_and2 {s : Env} {a b : E} {p q : Prop} [Decidable p] [Decidable q] (ha : evE T F a s = .ok (.bl (decide p))) (hb : evE T F b s = .ok (.bl (decide q))) : evE T F (.and_ a b) s = .ok (.bl (decide (p ∧ q))) := by
  by_cases hp : p
  · rw [decide_eq_true hp] at ha
    rw [ev_andT ha hb]
    by_cases hq : q
    · rw [decide_eq_true hq, decide_eq_true ⟨hp, hq⟩]
    · rw [decide_eq_false hq, decide_eq_false fun z => hq z.2]
  · rw [decide_eq_false hp] at ha
    rw [ev_andF ha, decide_eq_false fun z => hp z.1]
end
theorem quarter (x : Int) : (x / 4).natAbs ≤ x.natAbs := by omega
theorem run_planted {n z B B2 : Nat} {xs : List D} {p : Nat → Int} {wide : Bool} (hz : z ≤ 10) (hx : ∀ x ∈ xs, RB z B x) (hl : xs.length ≤ 60) (hp0 : 0 ≤ p 0 ∧ p 0 < 12) (hp1 : 0 ≤ p 1 ∧ p 1 < 60) (hB : Sm B 100) (h2 : B2 = 2 * B) :
    ∃ ys : List D, ys.length = xs.length ∧ (∀ y ∈ ys, RB z B2 y) ∧ call T (n + 1) 57 [.int z, .lst xs, rowD 3 p, .bl wide] = .ok (.lst ys) := by
  refine call_P (Q := fun x => ∃ ys : List D, ys.length = xs.length ∧ (∀ y ∈ ys, RB z B2 y) ∧ x = .ok (.lst ys)) (d := d__law_planted) rfl rfl rfl fun P hP _ => ?_
  have hx2 : ∀ x ∈ xs, RB z B2 x := fun x h => rb_mono (hx x h) (by omega)
  have ip : ∀ i : Nat, i < 3 → ixD (rowD 3 p) (.int i) = .ok (.int (p i)) := fun i hi => ix_rngL _ hi
  refine p_set (.int xs.length) (ev_biE rfl (len_lst _)) ?_
  refine p_if (decide ((xs.length : Int) < 2 ∨ p 0 < 7)) (ev_or2 rfl (ev_cmpE (ev_ixE rfl rfl (ip 0 (by decide))) rfl rfl)) (fun _ => p_ret (.lst xs) rfl (hP _ ⟨xs, rfl, hx2, rfl⟩)) fun e => ?_
  have e := of_decide_eq_false e
  have e1 : 2 ≤ xs.length := by omega
  have e2 : 7 ≤ p 0 := by omega
  obtain ⟨Rw, hxs, hR⟩ := rb_list hx
  generalize xs.length = m at *
  subst hxs
  have part : ∀ (i : Nat) (s : Env), i < m → s[1]? = some (some (.lst ((List.range m).map fun k => rowD z (Rw k)))) → s[3]? = some (some (.bl wide)) → s.length = 14 → ∃ g : Nat → Int, (∀ j, (g j).natAbs ≤ B) ∧ evE T (call T n) (.ite (.var 3) (.lc [13] (.nm 13) (.seq (.ix (.var 1) (.int i))) .none (.bin .fdiv (.var 13) (.int 4))) (.ix (.var 1) (.int i))) s = .ok (rowD z g) := fun i s hi h1 h3 hs => by
    have a1 : evE T (call T n) (.ix (.var 1) (.int i)) s = .ok (rowD z (Rw i)) := ev_ixE (by rw [ev_var, h1]; rfl) rfl (ix_rngL _ hi)
    have a3 : evE T (call T n) (.var 3) s = .ok (.bl wide) := by rw [ev_var, h3]; rfl
    cases wide with
    | true =>
      refine ⟨fun j => Rw i j / 4, fun j => Nat.le_trans (quarter _) (hR i j), ev_iteT a3 (ev_lcR (k := z) (c := fun j => .int (Rw i j)) (by rw [evi_seq, a1]; rfl) fun j hj => lcI_ok (s' := s.set 13 (some (.int (Rw i j)))) (by simp) (ev_binE (x := .int (Rw i j)) (by rw [ev_var, List.getElem?_set_self (by omega)]; rfl) rfl (op_fdiv (by decide) (lit_div (by decide)))))⟩
    | false => exact ⟨Rw i, hR i, ev_iteF a3 a1⟩
  obtain ⟨one, hone, ev1⟩ := part 0 [some (.int z), some (.lst ((List.range m).map fun k => rowD z (Rw k))), some (rowD 3 p), some (.bl wide), some (.int m), none, none, none, none, none, none, none, none, none] (by omega) rfl rfl rfl
  refine p_set (rowD z one) ev1 ?_
  obtain ⟨two, htwo, ev2⟩ := part 1 [some (.int z), some (.lst ((List.range m).map fun k => rowD z (Rw k))), some (rowD 3 p), some (.bl wide), some (.int m), some (rowD z one), none, none, none, none, none, none, none, none] (by omega) rfl rfl rfl
  refine p_set (rowD z two) ev2 ?_
  refine p_set (rowD z fun k => one k + two k) (ev_lcR (k := z) (c := fun (i : Nat) => .int i) (g := fun k => .int (one k + two k)) (evi_rngN rfl (by omega)) fun k hk => lcI_ok rfl (ev_binE (ev_ixE rfl rfl (ix_rngL _ hk)) (ev_ixE rfl rfl (ix_rngL _ hk)) (op_add _ _))) ?_
  refine p_set (rowD z fun k => one k - two k) (ev_lcR (k := z) (c := fun (i : Nat) => .int i) (g := fun k => .int (one k - two k)) (evi_rngN rfl (by omega)) fun k hk => lcI_ok rfl (ev_binE (ev_ixE rfl rfl (ix_rngL _ hk)) (ev_ixE rfl rfl (ix_rngL _ hk)) (op_sub _ _))) ?_
  have rb1 : RB z B2 (rowD z one) := ⟨one, rfl, fun i => by have := hone i; omega⟩
  have rb2 : RB z B2 (rowD z two) := ⟨two, rfl, fun i => by have := htwo i; omega⟩
  have rb3 : RB z B2 (rowD z fun k => one k + two k) := ⟨_, rfl, fun i => by have := hone i; have := htwo i; omega⟩
  have rb4 : RB z B2 (rowD z fun k => one k - two k) := ⟨_, rfl, fun i => by have := hone i; have := htwo i; omega⟩
  have rb5 : RB z B2 (rowD z fun k => -2 * one k) := ⟨_, rfl, fun i => by have := hone i; omega⟩
  have rb6 : RB z B2 (rowD z fun k => 0) := ⟨_, rfl, fun i => Nat.zero_le _⟩
  refine p_set (.lst [.lst [rowD z one, rowD z one], .lst [rowD z one, rowD z fun k => -2 * one k], .lst [rowD z one, rowD z fun _ => 0]]) (ev_lstE (evs_consE rfl (evs_consE (ev_lstE (evs_consE rfl (evs_consE (ev_lcR (k := z) (c := fun k => .int (one k)) (g := fun k => .int (-2 * one k)) (by rfl) fun k hk => lcI_ok rfl (ev_binE (ev_negE rfl) rfl (op_mul (sm_mulOk (k := 14) (l := 100) (by unfold Sm; decide) (sm_le (hone k) hB) (by decide))))) rfl))) (evs_consE (ev_lstE (evs_consE rfl (evs_consE (ev_lcR (k := z) (c := fun (i : Nat) => .int i) (g := fun _ => .int 0) (evi_rngN rfl (by omega)) fun k hk => lcI_ok rfl rfl) rfl))) rfl)))) ?_
  let FF : List (List D) := [[rowD z one, rowD z one], [rowD z one, rowD z fun k => -2 * one k], [rowD z one, rowD z fun _ => 0], [rowD z one, rowD z two, rowD z fun k => one k + two k], [rowD z one, rowD z two, rowD z fun k => one k + two k, rowD z fun k => one k - two k]]
  have hFF : ∀ l ∈ FF, ∀ x ∈ l, RB z B2 x := by
    intro l hl x hx
    simp only [FF, List.mem_cons, List.not_mem_nil, or_false] at hl
    rcases hl with rfl | rfl | rfl | rfl | rfl <;> simp only [List.mem_cons, List.not_mem_nil, or_false] at hx
    · rcases hx with rfl | rfl <;> exact rb1
    · rcases hx with rfl | rfl
      · exact rb1
      · exact rb5
    · rcases hx with rfl | rfl
      · exact rb1
      · exact rb6
    · rcases hx with rfl | rfl | rfl
      · exact rb1
      · exact rb2
      · exact rb3
    · rcases hx with rfl | rfl | rfl | rfl
      · exact rb1
      · exact rb2
      · exact rb3
      · exact rb4
  refine p_set (.lst (FF.map .lst)) (ev_binE rfl rfl (op_addL (show 3 + 2 ≤ 16777216 by decide))) ?_
  have hi5 : (p 0 - 7).toNat < FF.length := by show _ < 5; omega
  have hfl := hFF _ (List.getElem_mem hi5)
  have hge : (FF.map D.lst)[(p 0 - 7).toNat]? = some (.lst FF[(p 0 - 7).toNat]) := by rw [List.getElem?_map, List.getElem?_eq_getElem hi5]; rfl
  generalize FF[(p 0 - 7).toNat] = fl at hfl hge
  have hgi : ixD (.lst (FF.map D.lst)) (.int (p 0 - 7)) = .ok (.lst fl) := by
    have : p 0 - 7 = (((p 0 - 7).toNat : Nat) : Int) := by omega
    rw [this]; exact ix_lst hge
  generalize FF = FF' at hgi
  refine p_set (.lst (fl.take m)) (ev_slE (ev_ixE rfl (ev_binE (ev_ixE rfl rfl (ip 0 (by decide))) rfl (op_sub _ _)) hgi) rfl (evo_E rfl) (by show R.ok (D.lst (cutD fl none (some (m : Int)))) = _; rw [cut_take])) ?_
  have hall : ∀ y ∈ fl.take m ++ ((List.range m).map fun k => rowD z (Rw k)).drop (fl.take m).length, RB z B2 y := fun y hy => by
    rcases List.mem_append.mp hy with h | h
    · exact hfl y (List.mem_of_mem_take h)
    · exact hx2 y (List.mem_of_mem_drop h)
  have hlen : (fl.take m ++ ((List.range m).map fun k => rowD z (Rw k)).drop (fl.take m).length).length = m := by
    rw [List.length_append, List.length_drop, rng_len, List.length_take]; omega
  refine p_set (.lst (fl.take m ++ ((List.range m).map fun k => rowD z (Rw k)).drop (fl.take m).length)) (ev_binE rfl (ev_slE rfl (evo_E (ev_biE rfl (len_lst _))) rfl (by show R.ok (D.lst (cutD _ (some ((fl.take m).length : Int)) none)) = _; rw [cut_drop])) (op_addL (by rw [← List.length_append, hlen]; omega))) ?_
  generalize fl.take m ++ ((List.range m).map fun k => rowD z (Rw k)).drop (fl.take m).length = fd at hall hlen
  refine p_ifJ (α := List D) (fun fd => [some (.int z), some (.lst ((List.range m).map fun k => rowD z (Rw k))), some (rowD 3 p), some (.bl wide), some (.int m), some (rowD z one), some (rowD z two), some (rowD z fun k => one k + two k), some (rowD z fun k => one k - two k), some (.lst (FF'.map D.lst)), some (.lst fd), none, none, none]) [] (fun fd => (∀ y ∈ fd, RB z B2 y) ∧ fd.length = m) (decide (p 2 = 1)) (ev_cmpE (ev_ixE rfl rfl (ip 2 (by decide))) rfl rfl) (fun _ => ?_) (fun _ => ⟨fd, ⟨hall, hlen⟩, rfl⟩) fun fd hfd => ?_
  · obtain ⟨Rf, hfe, hRf⟩ := rb_list hall
    rw [hlen] at hfe
    refine ⟨(List.range m).map fun k => rowD z (Rf (m - 1 - k)), ⟨fun y hy => ?_, rng_len ..⟩, ?_⟩
    · obtain ⟨k, _, rfl⟩ := List.mem_map.mp hy
      exact ⟨_, rfl, hRf _⟩
    · rw [exs_set (.lst ((List.range m).map fun k => rowD z (Rf (m - 1 - k)))) (ev_lcR (k := m) (c := fun (i : Nat) => .int i) (evi_rngN rfl (by omega)) fun k hk => lcI_ok rfl (ev_ixE (x := .lst fd) rfl (ev_binE (ev_binE rfl rfl (op_sub _ _)) rfl (op_sub _ _)) (by rw [hfe]; exact ix_rngI (j := m - 1 - k) (fun k => rowD z (Rf k)) (by omega) (by omega))))]
      rfl
  · obtain ⟨hall, hlen⟩ := hfd
    refine p_set (.int (p 1 % m)) (ev_binE (ev_biE (evs_consE (ev_ixE rfl rfl (ip 1 (by decide))) rfl) (int_int _)) rfl (op_mod (by omega))) ?_
    have hat : p 1 % (m : Int) = (((p 1 % (m : Int)).toNat : Nat) : Int) := by
      have := Int.emod_nonneg (p 1) (show (m : Int) ≠ 0 by omega)
      omega
    rw [hat]
    generalize (p 1 % (m : Int)).toNat = at0
    refine p_ret (.lst (fd.drop at0 ++ fd.take at0)) (ev_binE (x := .lst (fd.drop at0)) (y := .lst (fd.take at0)) (ev_slE rfl (evo_E rfl) rfl (by show R.ok (D.lst (cutD _ (some (at0 : Int)) none)) = _; rw [cut_drop])) (ev_slE rfl rfl (evo_E rfl) (by show R.ok (D.lst (cutD _ none (some (at0 : Int)))) = _; rw [cut_take])) (op_addL (by rw [List.length_drop, List.length_take]; omega))) (hP _ ⟨_, ?_, fun y hy => ?_, rfl⟩)
    · rw [List.length_append, List.length_drop, List.length_take, hlen]; omega
    · rcases List.mem_append.mp hy with h | h
      · exact hall y (List.mem_of_mem_drop h)
      · exact hall y (List.mem_of_mem_take h)
end Fc

namespace Fc
theorem ints_ix {LL : List Int} {lo hi : Int} (h : ∀ x ∈ LL, lo ≤ x ∧ x ≤ hi) {s : Int} (h0 : 0 ≤ s) (h1 : s < LL.length) : ∃ x, lo ≤ x ∧ x ≤ hi ∧ ixD (.lst (lI LL)) (.int s) = .ok (.int x) := by
  obtain ⟨j, rfl⟩ : ∃ j : Nat, s = (j : Int) := ⟨s.toNat, by omega⟩
  have hl : j < LL.length := by omega
  have := h _ (List.getElem_mem hl)
  exact ⟨LL[j], this.1, this.2, ix_lst (by rw [List.getElem?_map, List.getElem?_eq_getElem hl]; rfl)⟩
def zfA (i : Nat) : Int := if i = 0 then 8 else if i = 1 then 11 else if i = 2 then 61 else if i = 3 then 6 else if i = 4 then 5 else if i = 5 then 7 else 10 ^ 60
def zfB (i : Nat) : Int := if i = 0 then 12 else if i = 1 then 60 else 2
theorem zfA_pos (i : Nat) : 0 < zfA i ∧ divOk (zfA i) = true := by
  have h : ∀ x : Int, 0 < x → x.natAbs < 2 ^ 250 → 0 < x ∧ divOk x = true := fun x h1 h2 => ⟨h1, sm_div (k := 250) h2 (by decide)⟩
  unfold zfA
  repeat' split
  all_goals exact h _ (by decide) (by decide)
theorem zfB_pos (i : Nat) : 0 < zfB i ∧ divOk (zfB i) = true := by
  have h : ∀ x : Int, 0 < x → x.natAbs < 2 ^ 250 → 0 < x ∧ divOk x = true := fun x h1 h2 => ⟨h1, sm_div (k := 250) h2 (by decide)⟩
  unfold zfB
  repeat' split
  all_goals exact h _ (by decide) (by decide)
end Fc


set_option Elab.async false
set_option linter.all false
set_option maxRecDepth 100000
set_option maxHeartbeats 4000000
namespace Fc
/-- an exchange gains much -/
def Gains (W : Nat → Int) (b : Nat → Nat) (t : Nat → Nat → Int) (D0 : Int) (i p : Nat) : Prop := 2 * W (b p) * D0 * D0 < W i * t p i * t p i
theorem run_gainful {n m r : Nat} {W : Nat → Int} {b : Nat → Nat} {t : Nat → Nat → Int} {D0 : Int} (hm : m < 10000) (hr : r < 10000) (hW : ∀ k, k < m → Sm (W k).natAbs 8000) (hb : ∀ p, p < r → b p < m) (ht : ∀ p, p < r → ∀ j, Sm (t p j).natAbs 8000) (hD : Sm D0.natAbs 8000) :
    (∃ i p, i < m ∧ p < r ∧ Gains W b t D0 i p ∧ call T (n + 1) 92 [rowD m W, .lst ((List.range r).map fun q => .int (b q)), tabD r m t, .int D0] = .ok (.tup [.int i, .int p])) ∨ (∀ i p, i < m → p < r → ¬ Gains W b t D0 i p) ∧ call T (n + 1) 92 [rowD m W, .lst ((List.range r).map fun q => .int (b q)), tabD r m t, .int D0] = .ok .non := by
  refine call_P (Q := fun x => (∃ i p, i < m ∧ p < r ∧ Gains W b t D0 i p ∧ x = .ok (.tup [.int i, .int p])) ∨ (∀ i p, i < m → p < r → ¬ Gains W b t D0 i p) ∧ x = .ok .non) (d := d_gainful) rfl rfl rfl fun P hP _ => ?_
  generalize hbl : D.lst ((List.range r).map fun q => D.int (b q)) = bl
  have ixb : ∀ p, p < r → ixD bl (.int p) = .ok (.int (b p)) := fun p hp => by rw [← hbl]; exact ix_rngL _ hp
  refine p_for (α := Unit) m (fun i => .tup [.int i, .int (W i)]) (fun _ => [some (rowD m W), some bl, some (tabD r m t), some (.int D0), none, none, none, none]) (fun _ => []) (fun i _ => ∀ i' p, i' < i → p < r → ¬ Gains W b t D0 i' p) (fun d => ∃ i p : Nat, i < m ∧ p < r ∧ Gains W b t D0 i p ∧ d = .tup [.int i, .int p]) (fun _ _ => False) ()
    (fun i _ => [some (rowD m W), some bl, some (tabD r m t), some (.int D0), some (.int i), some (.int (W i)), none, none]) ?_ rfl rfl (fun i' p h => by omega) (fun i hi a ha => rfl) (fun i hi a ha P' hn hz _ => ?_) (fun a ha => ?_) (fun d ⟨i, p, h1, h2, h3, e⟩ => hP _ (.inl ⟨i, p, h1, h2, h3, by rw [e]⟩)) (fun _ _ z => z.elim)
  · show enumR (rowD m W) = _
    rw [enumR_lst, rng_enum, List.map_map]; rfl
  · refine p_for (α := Unit) r (fun p => .tup [.int p, rowD m (t p)]) (fun _ => [some (rowD m W), some bl, some (tabD r m t), some (.int D0), some (.int i), some (.int (W i)), none, none]) (fun _ => []) (fun p _ => ∀ p', p' < p → ¬ Gains W b t D0 i p') (fun d => ∃ i p : Nat, i < m ∧ p < r ∧ Gains W b t D0 i p ∧ d = .tup [.int i, .int p]) (fun _ _ => False) ()
      (fun p _ => [some (rowD m W), some bl, some (tabD r m t), some (.int D0), some (.int i), some (.int (W i)), some (.int p), some (rowD m (t p))]) ?_ rfl rfl (fun p' h => by omega) (fun p hp a ha => rfl) (fun p hp a' ha' P'' hn' hz' _ => ?_) (fun a' ha' => ?_) (fun d hd => hz d hd) (fun _ _ z => z.elim)
    · show enumR (tabD r m t) = _
      rw [enumR_lst, rng_enum, List.map_map]; rfl
    · have s1 := hW i hi
      have s2 := ht p hp i
      have s3 := hW (b p) (hb p hp)
      have s4 : Sm (W i * t p i).natAbs 16000 := by rw [Int.natAbs_mul]; exact sm_mul s1 s2
      have s5 : Sm (2 * W (b p)).natAbs 8003 := by rw [Int.natAbs_mul]; exact sm_mono (sm_mul (show Sm (2 : Int).natAbs 3 by unfold Sm; decide) s3) (by decide)
      have s6 : Sm (2 * W (b p) * D0).natAbs 16003 := by rw [Int.natAbs_mul]; exact sm_mul s5 hD
      have hix : ixD (rowD m (t p)) (.int i) = .ok (.int (t p i)) := ix_rngL _ hi
      refine p_if (decide (2 * W (b p) * D0 * D0 < W i * t p i * t p i)) (ev_cmpE (ev_binE (ev_binE rfl (ev_ixE rfl rfl hix) (op_mul (sm_mulOk s1 s2 (by decide)))) (ev_ixE rfl rfl hix) (op_mul (sm_mulOk s4 s2 (by decide)))) (ev_binE (ev_binE (ev_binE rfl (ev_ixE rfl (ev_ixE rfl rfl (ixb p hp)) (ix_rngL _ (hb p hp))) (op_mul (sm_mulOk (show Sm (2 : Int).natAbs 3 by unfold Sm; decide) s3 (by decide)))) rfl (op_mul (sm_mulOk s5 hD (by decide)))) rfl (op_mul (sm_mulOk s6 hD (by decide)))) (cmp_gt_int _ _)) (fun e => ?_) fun e => ?_
      · exact p_ret (.tup [.int i, .int p]) rfl (hz' _ ⟨i, p, hi, hp, (by unfold Gains; exact of_decide_eq_true e), rfl⟩)
      · have e := of_decide_eq_false e
        refine p_nil (hn' _ _ () rfl rfl fun p' hp' => ?_)
        rcases Nat.lt_or_ge p' p with y | y
        · exact ha' p' y
        · have : p' = p := by omega
          rw [this]; exact e
    · refine p_nil (hn _ _ () rfl rfl fun i' p' hi' hp' => ?_)
      rcases Nat.lt_or_ge i' i with y | y
      · exact ha i' p' y hp'
      · have : i' = i := by omega
        rw [this]; exact ha' p' hp'
  · exact p_ret .non rfl (hP _ (.inr ⟨fun i p h1 h2 => ha i p h1 h2, rfl⟩))
/-! what holds no list holds not this one -/
mutual
theorem noL_sub {T : Tab} {x : D} {cs : Option Nat} : ∀ d : D, noL T cs d = true → subB x d = false
  | .non, _ => rfl
  | .bl _, _ => rfl
  | .int _, _ => rfl
  | .str _, _ => rfl
  | .scr _, h => by cases h
  | .tup ds, h => noLs_sub ds h
  | .obj c ks ds, h => by
    exact noLs_sub ds (bA h).2
  | .lst _, h => by cases h
theorem noLs_sub {T : Tab} {x : D} {cs : Option Nat} : ∀ ds : List D, noL.noLs T cs ds = true → subBs x ds = false
  | [], _ => rfl
  | d :: ds, h => by
    have h : (noL T cs d && noL.noLs T cs ds) = true := h
    rw [Bool.and_eq_true] at h
    show (subB x d || subBs x ds) = false
    rw [noL_sub d h.1, noLs_sub ds h.2]; rfl
end
theorem eqPs_len : ∀ {xs ys : List D}, eqPs xs ys = true → xs.length = ys.length
  | [], [], _ => rfl
  | x :: xs, y :: ys, h => by
    have h : (eqP x y && eqPs xs ys) = true := h
    rw [Bool.and_eq_true] at h
    rw [List.length_cons, List.length_cons, eqPs_len h.2]
  | [], _ :: _, h => by cases h
  | _ :: _, [], h => by cases h
theorem eqP_len {xs ys : List D} (h : xs.length ≠ ys.length) : eqP (.lst xs) (.lst ys) = false := by
  cases e : eqP (.lst xs) (.lst ys) with
  | false => rfl
  | true => exact absurd (eqPs_len e) h
theorem subBs_all {x : D} : ∀ {ds : List D}, (∀ d ∈ ds, subB x d = false) → subBs x ds = false
  | [], _ => rfl
  | d :: ds, h => by
    show (subB x d || subBs x ds) = false
    rw [h d (by simp), subBs_all fun y hy => h y (List.mem_cons_of_mem _ hy)]; rfl
theorem subBs_ints {x : D} (k : Nat) (f : Nat → Int) : subBs x (rowL k f) = false := subBs_all fun d hd => by
  obtain ⟨j, _, rfl⟩ := List.mem_map.mp hd
  rfl
theorem plBs_ints (k : Nat) (f : Nat → Int) : plBs (rowL k f) = true := by
  have : ∀ l : List Nat, plBs (l.map fun c => D.int (f c)) = true := by
    intro l
    induction l with
    | nil => rfl
    | cons x l ih => show (true && plBs (l.map fun c => D.int (f c))) = true; rw [ih]; rfl
  exact this _
/-- what stands in the slots of basis_of, unpacked -/
theorem newT_ok {z m r : Nat} {Rw : Nat → Nat → Int} {W W2 : Nat → Int} {b0 : Int} {fm : D} {b : Nat → Nat} {t : Nat → Nat → Int} {D0 : Int} (hf : noL T (some 8) fm = true) (h0 : 0 < r) (hr : r < m) :
    newT [0, 10] 3 [some (rlD z m Rw W b0 fm), some (rowD m W2), none, none, none, none, none, none, none, none, none] [some (rlD z m Rw W b0 fm), some (rowD m W2), none, some (.lst ((List.range r).map fun q => .int (b q))), some (tabD r m t), some (.int D0), none, none, none, none, none] = true := by
  have hx : ((List.range r).map fun q => D.int (b q)) = rowL r fun q => (b q : Int) := rfl
  rw [hx]
  have hobj : ∀ x : D, subB x (rlD z m Rw W b0 fm) = false := fun x => by
    show (subB x (.int z) || (subB x (prD z m Rw W) || (subB x (.int b0) || (subB x fm || false)))) = false
    rw [noL_sub fm hf]
    have : subB x (prD z m Rw W) = false := subBs_all fun d hd => by
      obtain ⟨j, _, rfl⟩ := List.mem_map.mp hd
      show (subBs x (rowL z (Rw j)) || (subB x (.int (W j)) || false)) = false
      rw [subBs_ints]; rfl
    rw [this]; rfl
  have hw : subB (.lst (rowL r fun q => (b q : Int))) (rowD m W2) = false := by
    show (eqP _ _ || subBs _ _) = false
    rw [eqP_len (by rw [rng_len, rng_len]; omega), subBs_ints]; rfl
  have ht : subB (.lst (rowL r fun q => (b q : Int))) (tabD r m t) = false := by
    show (eqP _ (.lst (tabL r m t)) || subBs _ (tabL r m t)) = false
    have h1 : eqP (.lst (rowL r fun q => (b q : Int))) (.lst (tabL r m t)) = false := by
      obtain ⟨r', rfl⟩ : ∃ r', r = r' + 1 := ⟨r - 1, by omega⟩
      show eqPs (rowL (r' + 1) _) (tabL (r' + 1) m t) = false
      unfold rowL tabL
      rw [List.range_succ_eq_map]
      rfl
    have h2 : subBs (.lst (rowL r fun q => (b q : Int))) (tabL r m t) = false := subBs_all fun d hd => by
      obtain ⟨j, _, rfl⟩ := List.mem_map.mp hd
      show (eqP _ _ || subBs _ _) = false
      rw [eqP_len (by rw [rng_len, rng_len]; omega), subBs_ints]; rfl
    rw [h1, h2]; rfl
  have hp : plB (.lst (rowL r fun q => (b q : Int))) = true := plBs_ints _ _
  have hs : subBs (.lst (rowL r fun q => (b q : Int))) (rowL r fun q => (b q : Int)) = false := subBs_ints _ _
  show (plB (.lst (rowL r fun q => (b q : Int))) && !subBs (.lst (rowL r fun q => (b q : Int))) (rowL r fun q => (b q : Int)) && (!subB (.lst (rowL r fun q => (b q : Int))) (rlD z m Rw W b0 fm) && (true && true)) && (!subB (.lst (rowL r fun q => (b q : Int))) (rlD z m Rw W b0 fm) && (!subB (.lst (rowL r fun q => (b q : Int))) (rowD m W2) && (true && (true && (!subB (.lst (rowL r fun q => (b q : Int))) (tabD r m t) && (!subB (.lst (rowL r fun q => (b q : Int))) (.int D0) && true))))))) = true
  rw [hp, hs, hobj, hw, ht]
  rfl
end Fc

set_option Elab.async false
set_option linter.all false
set_option maxRecDepth 100000
set_option maxHeartbeats 4000000
namespace Fc
theorem perm_sum {l l' : List Int} (h : l.Perm l') : l.sum = l'.sum := by
  induction h with
  | nil => rfl
  | cons x _ ih => rw [List.sum_cons, List.sum_cons, ih]
  | swap x y l => rw [List.sum_cons, List.sum_cons, List.sum_cons, List.sum_cons]; omega
  | trans _ _ h1 h2 => exact h1.trans h2
theorem sumN_single {n p : Nat} (hp : p < n) (e : Nat → Int) (d : Int) : sumN n (fun i => e i * (if i = p then d else 0)) = e p * d := by
  have := sumN_upd (m := n) (q := p) (v := fun _ => 0) (w := e) (x := d) hp
  have h1 : sumN n (fun i => e i * (if i = p then d else 0)) = sumN n fun j => (if j = p then d else 0) * e j := sumN_congr fun i _ => Int.mul_comm ..
  rw [h1, this, sumN_zero fun i _ => Int.zero_mul _, Int.mul_comm, Int.sub_zero]; omega
/-- the indexes, sorted -/
theorem sort_spec {r : Nat} {b : Nat → Nat} (inj : ∀ p q, p < r → q < r → b p = b q → p = q) :
    ∃ s : Nat → Nat, sortI ((List.range r).map fun q => (b q : Int)) = ((List.range r).map fun j => (s j : Int)) ∧ (∀ j, j < r → ∃ p, p < r ∧ s j = b p) ∧ (∀ i j, i < j → j < r → s i < s j) ∧ ∀ F : Nat → Int, sumN r (fun j => F (s j)) = sumN r fun q => F (b q) := by
  have hp := sortI_perm ((List.range r).map fun q => (b q : Int))
  have hs := sortI_sorted ((List.range r).map fun q => (b q : Int))
  generalize sortI ((List.range r).map fun q => (b q : Int)) = S at hp hs
  have hlen : S.length = r := by rw [hp.length_eq]; simp
  have hmem : ∀ x ∈ S, ∃ p, p < r ∧ x = (b p : Int) := fun x hx => by
    obtain ⟨p, h1, h2⟩ := List.mem_map.mp (hp.mem_iff.mp hx)
    exact ⟨p, List.mem_range.mp h1, h2.symm⟩
  have hnd : S.Nodup := by
    rw [hp.nodup_iff]
    refine List.Pairwise.map _ (fun x y h => ?_) (List.Pairwise.and_mem.mp (List.nodup_range (n := r)))
    intro e
    have := inj x y (List.mem_range.mp h.1) (List.mem_range.mp h.2.1) (by omega)
    exact h.2.2 this
  have hge : ∀ j, j < r → S[j]? = some (S.getD j 0) := fun j hj => by
    rw [List.getD_eq_getElem?_getD, List.getElem?_eq_getElem (by omega)]; rfl
  have hval : ∀ j, j < r → ∃ p, p < r ∧ S.getD j 0 = (b p : Int) := fun j hj => hmem _ (List.mem_of_getElem? (hge j hj))
  have hS : S = (List.range r).map fun j => (((S.getD j 0).toNat : Nat) : Int) := by
    apply List.ext_getElem?
    intro j
    by_cases hj : j < r
    · rw [rng_get _ hj, hge j hj]
      obtain ⟨p, _, e⟩ := hval j hj
      rw [e]; simp
    · rw [List.getElem?_eq_none (by omega), List.getElem?_eq_none (by simp; omega)]
  refine ⟨fun j => (S.getD j 0).toNat, hS, fun j hj => ?_, fun i j hij hj => ?_, fun F => ?_⟩
  · obtain ⟨p, h1, h2⟩ := hval j hj
    exact ⟨p, h1, by dsimp only; omega⟩
  · have h1 := List.pairwise_iff_getElem.mp hs i j (by omega) (by omega) hij
    have h2 := List.pairwise_iff_getElem.mp hnd i j (by omega) (by omega) hij
    have e1 := hge i (by omega)
    have e2 := hge j hj
    rw [List.getElem?_eq_getElem (by omega)] at e1 e2
    have e1 := Option.some.inj e1
    have e2 := Option.some.inj e2
    obtain ⟨p, _, e3⟩ := hval i (by omega)
    obtain ⟨q, _, e4⟩ := hval j hj
    rw [e1, e2] at h1 h2
    dsimp only
    omega
  · have h1 := perm_sum (hp.map fun x => F x.toNat)
    rw [List.map_map] at h1
    have h2 : (S.map fun x => F x.toNat) = (List.range r).map fun j => F (S.getD j 0).toNat := by
      apply List.ext_getElem?
      intro j
      by_cases hj : j < r
      · rw [rng_get _ hj, List.getElem?_map, hge j hj]; rfl
      · rw [List.getElem?_eq_none (by simp; omega), List.getElem?_eq_none (by simp; omega)]
    rw [h2, sum_rng] at h1
    rw [h1]
    have h3 : ((fun x : Int => F x.toNat) ∘ fun q => (b q : Int)) = fun q => F (b q) := rfl
    rw [h3, sum_rng]
def prodN (n : Nat) (f : Nat → Int) : Int := match n with
  | 0 => 1
  | n + 1 => prodN n f * f n
theorem prodN_pos {n : Nat} {f : Nat → Int} (h : ∀ i, i < n → 1 ≤ f i) : 1 ≤ prodN n f := by
  induction n with
  | zero => exact Int.le_refl 1
  | succ n ih =>
    show 1 ≤ prodN n f * f n
    have h1 := ih fun i hi => h i (by omega)
    have h2 := h n (by omega)
    have : 1 * 1 ≤ prodN n f * f n := Int.mul_le_mul h1 h2 (by decide) (by omega)
    omega
theorem prodN_sm {n e : Nat} {f : Nat → Int} (h : ∀ i, i < n → Sm (f i).natAbs e) : Sm (prodN n f).natAbs (n * e + 1) := by
  induction n with
  | zero => show (1 : Int).natAbs < 2 ^ (0 * e + 1); rw [Nat.zero_mul]; decide
  | succ n ih =>
    show Sm (prodN n f * f n).natAbs _
    rw [Int.natAbs_mul]
    exact sm_mono (sm_mul (ih fun i hi => h i (by omega)) (h n (by omega))) (by rw [Nat.add_mul]; omega)
theorem prodN_upd {n p : Nat} {f g : Nat → Int} (hp : p < n) (h : ∀ i, i < n → i ≠ p → g i = f i) : f p * prodN n g = g p * prodN n f := by
  induction n with
  | zero => omega
  | succ n ih =>
    show f p * (prodN n g * g n) = g p * (prodN n f * f n)
    by_cases e : p = n
    · subst e
      have : prodN p g = prodN p f := by
        clear ih hp
        have : ∀ k, k ≤ p → prodN k g = prodN k f := by
          intro k
          induction k with
          | zero => intro _; rfl
          | succ k ih =>
            intro hk
            show prodN k g * g k = prodN k f * f k
            rw [ih (by omega), h k (by omega) (by omega)]
        exact this p (Nat.le_refl _)
      rw [this, Int.mul_comm (prodN p f) (g p), Int.mul_left_comm, Int.mul_comm (f p)]
    · rw [h n (by omega) (fun z => e z.symm), ← Int.mul_assoc, ih (by omega) fun i hi => h i (by omega), Int.mul_assoc]
structure BA where
  b : Nat → Nat
  t : Nat → Nat → Int
  dv : Int
  f : D
def pot (W : Nat → Int) (r : Nat) (a : BA) : Int := prodN r (fun p => W (a.b p)) * (a.dv * a.dv)
structure BJ (C : Nat → Nat → Int) (W : Nat → Int) (z m r : Nat) (M : Nat → Nat → Int) (i : Nat) (a : BA) : Prop where
  inv : TInv r M a.t a.b a.dv
  inj : ∀ p q, p < r → q < r → a.b p = a.b q → p = q
  lt : ∀ p, p < r → a.b p < m
  rel : ∀ j, j < m → ∀ l, l < z → a.dv * C j l = sumN r fun q => a.t q j * C (a.b q) l
  pw : 2 ^ i ≤ pot W r a
  fd : (a.f = .non ∧ ∀ i p, i < m → p < r → ¬ Gains W a.b a.t a.dv i p) ∨ ∃ i p : Nat, i < m ∧ p < r ∧ Gains W a.b a.t a.dv i p ∧ a.f = .tup [.int i, .int p]
theorem gains_new {r m i p : Nat} {W : Nat → Int} {M t : Nat → Nat → Int} {b : Nat → Nat} {D : Int} (I : TInv r M t b D) (hW : ∀ k, k < m → 1 ≤ W k) (hlt : ∀ p, p < r → b p < m) (hp : p < r) (hg : Gains W b t D i p) : t p i ≠ 0 ∧ ∀ q, q < r → b q ≠ i := by
  unfold Gains at hg
  have hD2 : 0 < D * D := by
    rcases Int.lt_or_gt_of_ne I.nz with z | z
    · exact Int.mul_pos_of_neg_of_neg z z
    · exact Int.mul_pos z z
  have hWp := hW (b p) (hlt p hp)
  have hpos : 0 ≤ 2 * W (b p) * D * D := by
    rw [Int.mul_assoc]
    exact Int.mul_nonneg (by omega) (by omega)
  have hnz : t p i ≠ 0 := fun z => by rw [z, Int.mul_zero] at hg; omega
  refine ⟨hnz, fun q hq e => ?_⟩
  obtain ⟨x, _, hx⟩ := I.top p hp
  have := hx q hq
  rw [e] at this
  by_cases c : q = p
  · rw [if_pos c] at this
    subst c
    rw [this, e] at hg
    have h3 := Int.mul_assoc (W i) D D
    have h5 : 2 * W i * D * D = 2 * (W i * (D * D)) := by rw [Int.mul_assoc (2 * W i), Int.mul_assoc 2]
    have h4 : 0 ≤ W i * (D * D) := Int.mul_nonneg (by rw [← e]; omega) (by omega)
    omega
  · rw [if_neg c] at this
    exact hnz this
theorem pot_grows {r m i p k : Nat} {W : Nat → Int} {a : BA} {t' : Nat → Nat → Int} {f : D} (hW : ∀ k, k < m → 1 ≤ W k) (hlt : ∀ p, p < r → a.b p < m) (hi : i < m) (hp : p < r) (hg : Gains W a.b a.t a.dv i p) (h : 2 ^ k ≤ pot W r a) : 2 ^ (k + 1) ≤ pot W r ⟨bSet a.b p i, t', a.t p i, f⟩ := by
  unfold Gains at hg
  unfold pot at h ⊢
  have h1 := prodN_upd (n := r) (p := p) (f := fun q => W (a.b q)) (g := fun q => W (bSet a.b p i q)) hp fun q hq hqp => by
    have : bSet a.b p i q = a.b q := if_neg hqp
    rw [this]
  have e1 : bSet a.b p i p = i := if_pos rfl
  dsimp only at h1 ⊢
  rw [e1] at h1
  have hP := prodN_pos (n := r) (f := fun q => W (a.b q)) fun q hq => hW _ (hlt q hq)
  generalize prodN r (fun q => W (bSet a.b p i q)) = P' at *
  generalize prodN r (fun q => W (a.b q)) = P0 at *
  have hw := hW (a.b p) (hlt p hp)
  generalize W (a.b p) = w at *
  generalize W i = wi at *
  generalize a.t p i = t0 at *
  generalize a.dv = D at *
  -- w * P' * t0² = wi * P0 * t0² > 2 w D² P0
  have h2 : w * (P' * (t0 * t0)) = P0 * (wi * t0 * t0) := by
    rw [← Int.mul_assoc, h1, Int.mul_comm wi P0, Int.mul_assoc, Int.mul_assoc wi]
  have h3 : P0 * (2 * w * D * D) < P0 * (wi * t0 * t0) := Int.mul_lt_mul_of_pos_left hg (by omega)
  have h4 : P0 * (2 * w * D * D) = w * (2 * (P0 * (D * D))) := by
    rw [Int.mul_assoc (2 * w), Int.mul_left_comm P0, Int.mul_comm 2 w, Int.mul_assoc]
  rw [h4, ← h2] at h3
  have h5 := Int.lt_of_mul_lt_mul_left h3 (by omega)
  rw [Int.pow_succ]
  omega
end Fc

set_option Elab.async false
set_option linter.all false
set_option maxRecDepth 100000
set_option maxHeartbeats 4000000
namespace Fc
/-- a basis in which no exchange gains much -/
structure Bas (C : Nat → Nat → Int) (W : Nat → Int) (z m r : Nat) (s : Nat → Nat) (X : Nat → Nat → Int) (dv : Int) : Prop where
  asc : ∀ i j, i < j → j < r → s i < s j
  lt : ∀ j, j < r → s j < m
  nz : dv ≠ 0
  rel : ∀ i, i < m → ∀ l, l < z → dv * C i l = sumN r fun j => X j i * C (s j) l
  ind : Indep (fun j => C (s j)) r z
  gain : ∀ i, i < m → ∀ j, j < r → W i * X j i * X j i ≤ 2 * W (s j) * dv * dv
def baS (rl w : D) (r m : Nat) (a : BA) : Env := [some rl, some w, some a.f, some (.lst ((List.range r).map fun q => .int (a.b q))), some (tabD r m a.t), some (.int a.dv), none, none, none, none, none]
theorem run_basisof {n z m B : Nat} {Rw : Nat → Nat → Int} {W : Nat → Int} {b0 : Int} {fm : D} (hf : noL T (some 8) fm = true) (hz : z ≤ 10) (hm : m < 10000) (hB : ∀ k i, (Rw k i).natAbs ≤ B) (h1 : 1 ≤ B) (hN : ∀ r, r ≤ z → r ≤ m → Sm (fac r * B ^ r) 2000) (hBs : Sm B 1000) (hW : ∀ k, k < m → 1 ≤ W k) (hW2 : ∀ k, k < m → Sm (W k).natAbs 500) :
    ∃ (r : Nat) (s : Nat → Nat) (X : Nat → Nat → Int) (dv : Int), r ≤ z ∧ Bas Rw W z m r s X dv ∧ call T (n + 3) 93 [rlD z m Rw W b0 fm] = .ok (.tup ((List.range r).map fun j => .int (s j))) := by
  have hcc : ∀ k, k < m → ∀ l, l < z → ixD (.tup (rowL z (Rw k))) (.int l) = .ok (.int (Rw k l)) := fun k _ l hl => ix_rngT _ hl
  have hex : ∃ (a : EA) (h : Nat), EI Rw h m a ∧ (0 < m → h = z) ∧ h ≤ z ∧ call T (n + 2) 40 [.lst ((List.range m).map fun k => .tup (rowL z (Rw k)))] = .ok (.tup [.lst ((List.range a.r).map fun i => .int (a.b i)), tabD a.r m a.t, .int a.D]) := by
    by_cases hmp : 0 < m
    · obtain ⟨a, I, e⟩ := run_expressedG (n := n) (h := z) (m := m) (B := B) (C := Rw) (cc := fun k => .tup (rowL z (Rw k))) hcc (fun _ => by rw [len_tup, rng_len]) hm (by omega) (.inl hmp) hB h1 hN
      exact ⟨a, z, I, fun _ => rfl, Nat.le_refl _, e⟩
    · have : m = 0 := by omega
      subst this
      obtain ⟨a, I, e⟩ := run_expressedG (n := n) (h := 0) (m := 0) (B := B) (C := Rw) (cc := fun k => .tup (rowL z (Rw k))) (fun k h => by omega) (fun h => by omega) hm (by omega) (.inr rfl) hB h1 fun r h1 h2 => hN r (by omega) h2
      exact ⟨a, 0, I, fun h => by omega, Nat.zero_le _, e⟩
  obtain ⟨⟨r, b, t, M, D0⟩, h, I, hh, hhz, ecall⟩ := hex
  have hrz : r ≤ z := Nat.le_trans I.rh hhz
  have hrm : r ≤ m := I.ri
  have hM : ∀ q j, q < r → (M q j).natAbs ≤ B := fun q j hq => by
    obtain ⟨l, _, e⟩ := I.src q (by have := I.rh; dsimp only at this; omega)
    have e : M q j = _ := e j
    rw [e]; exact hB _ _
  have hsrc : ∀ q, q < r → ∃ l, l < z ∧ ∀ j, M q j = Rw j l := fun q hq => by
    obtain ⟨l, hl, e⟩ := I.src q (by have := I.rh; dsimp only at this; omega)
    exact ⟨l, by omega, e⟩
  have bdt : ∀ (t : Nat → Nat → Int) (b : Nat → Nat) (D0 : Int), TInv r M t b D0 → (∀ p, p < r → ∀ j, Sm (t p j).natAbs 8000) ∧ Sm D0.natAbs 2000 := fun t b D0 I => by
    have h2 := hN r hrz hrm
    refine ⟨fun p hp j => sm_le (tinv_bd I hp h1 hM j) (sm_mono (sm_mul (sm_14 (by omega)) (sm_mul h2 hBs)) (by decide)), sm_le (tinv_bdD I hM) h2⟩
  have hW8 : ∀ k, k < m → Sm (W k).natAbs 8000 := fun k hk => sm_mono (hW2 k hk) (by decide)
  -- what gainful says of a state
  have gf : ∀ (t : Nat → Nat → Int) (b : Nat → Nat) (D0 : Int), TInv r M t b D0 → (∀ p, p < r → b p < m) → ∃ f : D, ((f = .non ∧ ∀ i p, i < m → p < r → ¬ Gains W b t D0 i p) ∨ ∃ i p : Nat, i < m ∧ p < r ∧ Gains W b t D0 i p ∧ f = .tup [.int i, .int p]) ∧ call T (n + 2) 92 [rowD m W, .lst ((List.range r).map fun q => .int (b q)), tabD r m t, .int D0] = .ok f ∧ ∀ fz e s o, fzO T fz e f s o = o := fun t b D0 I hb => by
    obtain ⟨h3, h4⟩ := bdt t b D0 I
    rcases run_gainful (n := n + 1) (W := W) hm (by omega) hW8 hb h3 (sm_mono h4 (by decide)) with ⟨i, p, q1, q2, q3, q4⟩ | ⟨q1, q2⟩
    · refine ⟨_, .inr ⟨i, p, q1, q2, q3, rfl⟩, q4, fun fz e s o => ?_⟩
      unfold fzO fre
      rfl
    · exact ⟨_, .inl ⟨rfl, q1⟩, q2, fun fz e s o => fzO_non ..⟩
  refine call_P (Q := fun x => ∃ (r : Nat) (s : Nat → Nat) (X : Nat → Nat → Int) (dv : Int), r ≤ z ∧ Bas Rw W z m r s X dv ∧ x = .ok (.tup ((List.range r).map fun j => .int (s j)))) (d := d_basis_of) rfl rfl rfl fun P hP _ => ?_
  refine p_set (rowD m W) (ev_lcR (k := m) (c := fun k => .tup [.tup (rowL z (Rw k)), .int (W k)]) (by rfl) fun k hk => lcI_ok rfl rfl) ?_
  have ho0 : ∃ o0 : Ow, (if newT [0, 10] 3 [some (rlD z m Rw W b0 fm), some (rowD m W), none, none, none, none, none, none, none, none, none] [some (rlD z m Rw W b0 fm), some (rowD m W), none, some (.lst ((List.range r).map fun q => .int (b q))), some (tabD r m t), some (.int D0), none, none, none, none, none] then [(3, 1)] else []) = o0 ∧ (0 < r → r < m → o0 = [(3, 1)]) ∧ (o0 = [(3, 1)] ∨ o0 = []) := by
    refine ⟨_, rfl, fun a1 a2 => by rw [newT_ok hf a1 a2]; rfl, ?_⟩
    split
    · exact .inl rfl
    · exact .inr rfl
  obtain ⟨o0, ho0, ho1, ho2⟩ := ho0
  refine p_unpT (.tup [.lst ((List.range r).map fun q => .int (b q)), tabD r m t, .int D0]) [some (rlD z m Rw W b0 fm), some (rowD m W), none, some (.lst ((List.range r).map fun q => .int (b q))), some (tabD r m t), some (.int D0), none, none, none, none, none] o0 (ev_callE (d := d_expressed) rfl (evs_consE (ev_lcR (k := m) (c := fun k => .tup [.tup (rowL z (Rw k)), .int (W k)]) (g := fun k => .tup (rowL z (Rw k))) (by rfl) fun k hk => lcI_ok rfl rfl) rfl) ecall) rfl ho0 ?_
  have hlt0 : ∀ p, p < r → b p < m := fun p hp => I.bi p hp
  obtain ⟨f0, hf0, hc0, hz0⟩ := gf t b D0 I.inv.toT hlt0
  refine p_setz f0 (ev_callE (d := d_gainful) rfl (by rfl) hc0) ?_
  rw [hz0]
  have inj0 : ∀ p q, p < r → q < r → b p = b q → p = q := fun p q hp hq e => by
    rcases Nat.lt_or_ge p q with y | y
    · have : b p < b q := I.asc p q y hq
      omega
    · rcases Nat.lt_or_ge q p with y' | y'
      · have : b q < b p := I.asc q p y' hp
        omega
      · omega
  have rel0 : ∀ j, j < m → ∀ l, l < z → D0 * Rw j l = sumN r fun q => t q j * Rw (b q) l := fun j hj l hl => ei_rel I hj l (by rw [hh (by omega)]; exact hl)
  have posD : ∀ D0 : Int, D0 ≠ 0 → 1 ≤ D0 * D0 := fun D0 h => by
    rcases Int.lt_or_gt_of_ne h with y | y
    · have := Int.mul_pos_of_neg_of_neg y y; omega
    · have := Int.mul_pos y y; omega
  have hoD : dropO [6, 7] (setO 2 0 o0) = o0 := by rcases ho2 with e | e <;> (rw [e]; rfl)
  refine p_whl (α := BA) (baS (rlD z m Rw W b0 fm) (rowD m W) r m) (fun _ => o0) (BJ Rw W z m r M) 20000 ⟨b, t, D0, f0⟩ (by unfold WF; decide) rfl hoD ⟨I.inv.toT, inj0, hlt0, rel0, ?_, hf0⟩ fun k a hk hj => ?_
  · have e1 := prodN_pos (n := r) (f := fun p => W (b p)) fun p hp => hW _ (hlt0 p hp)
    have e2 := posD D0 I.inv.nz
    have : 1 * 1 ≤ prodN r (fun p => W (b p)) * (D0 * D0) := Int.mul_le_mul e1 e2 (by decide) (by omega)
    show (2 : Int) ^ 0 ≤ prodN r (fun p => W (b p)) * (D0 * D0)
    rw [Int.pow_zero]; omega
  · obtain ⟨b, t, dv, f⟩ := a
    have hI : TInv r M t b dv := hj.inv
    have hlt : ∀ p, p < r → b p < m := hj.lt
    have inj : ∀ p q, p < r → q < r → b p = b q → p = q := hj.inj
    have hrel : ∀ j, j < m → ∀ l, l < z → dv * Rw j l = sumN r fun q => t q j * Rw (b q) l := hj.rel
    have hfd : (f = .non ∧ ∀ i p, i < m → p < r → ¬ Gains W b t dv i p) ∨ ∃ i p : Nat, i < m ∧ p < r ∧ Gains W b t dv i p ∧ f = .tup [.int i, .int p] := hj.fd
    obtain ⟨hbt, hbd⟩ := bdt t b dv hI
    rcases hfd with ⟨rfl, hno⟩ | ⟨i, p, hi, hp, hg, rfl⟩
    · refine ⟨false, rfl, fun _ => ?_, fun z => nomatch z⟩
      obtain ⟨s, hs1, hs2, hs3, hs4⟩ := sort_spec inj
      -- the place of an index
      have idx : ∀ v : Nat, ∃ q, (∃ p, p < r ∧ b p = v) → q < r ∧ b q = v := fun v => by
        by_cases hv : ∃ p, p < r ∧ b p = v
        · obtain ⟨q, hq⟩ := hv
          exact ⟨q, fun _ => hq⟩
        · exact ⟨0, fun h => absurd h hv⟩
      let ix := fun v => Classical.choose (idx v)
      have hix : ∀ v, (∃ p, p < r ∧ b p = v) → ix v < r ∧ b (ix v) = v := fun v => Classical.choose_spec (idx v)
      have hixb : ∀ q, q < r → ix (b q) = q := fun q hq => by
        have := hix (b q) ⟨q, hq, rfl⟩
        exact inj _ _ this.1 hq this.2
      have hsx : ∀ j, j < r → ix (s j) < r ∧ b (ix (s j)) = s j := fun j hj => by
        obtain ⟨p, h1, h2⟩ := hs2 j hj
        exact hix _ ⟨p, h1, h2.symm⟩
      have sinj : ∀ i j, i < r → j < r → s i = s j → i = j := fun i j hi hj e => by
        rcases Nat.lt_or_ge i j with y | y
        · have := hs3 i j y hj; omega
        · rcases Nat.lt_or_ge j i with y' | y'
          · have := hs3 j i y' hi; omega
          · omega
      refine p_ret (.tup ((List.range r).map fun j => .int (s j))) (ev_biE (evs_consE (ev_biE (xs := [.lst ((List.range r).map fun q => .int (b q))]) rfl (r := .ok (.lst ((List.range r).map fun j => .int (s j)))) ?_) rfl) (tuple_lst _)) (hP _ ⟨r, s, fun j i => t (ix (s j)) i, dv, hrz, ⟨hs3, fun j hj => ?_, hI.nz, fun i hi l hl => ?_, fun e he j0 hj0 => ?_, fun i hi j hj => ?_⟩, rfl⟩)
      · show (match intsD ((List.range r).map fun q => D.int (b q)) with
          | some ns => R.ok (D.lst ((sortI ns).map .int))
          | none => .no) = _
        rw [intsD_map (fun q => (b q : Int))]
        show R.ok (D.lst ((sortI ((List.range r).map fun q => (b q : Int))).map .int)) = _
        rw [hs1, List.map_map]; rfl
      · have := hsx j hj
        rw [← this.2]; exact hlt _ this.1
      · rw [hrel i hi l hl]
        have := hs4 fun v => t (ix v) i * Rw v l
        rw [this]
        exact sumN_congr fun q hq => by rw [hixb q hq]
      · -- independent
        obtain ⟨p0, hb0⟩ := hsx j0 hj0
        obtain ⟨x, hx, ht⟩ := hI.top _ p0
        have z1 : sumN r (fun j => e j * t (ix (s j0)) (s j)) = 0 := by
          have e1 : sumN r (fun j => e j * t (ix (s j0)) (s j)) = sumN r fun i => x i * sumN r fun j => e j * M i (s j) := by
            have : sumN r (fun j => e j * t (ix (s j0)) (s j)) = sumN r fun j => sumN r fun i => x i * (e j * M i (s j)) := sumN_congr fun j _ => by
              rw [hx (s j), ← sumN_mul]
              exact sumN_congr fun i _ => Int.mul_left_comm ..
            rw [this, sumN_swap]
            exact sumN_congr fun i _ => sumN_mul ..
          rw [e1]
          refine sumN_zero fun i hi => ?_
          obtain ⟨l, hl, eM⟩ := hsrc i hi
          have : sumN r (fun j => e j * M i (s j)) = 0 := by
            rw [← he l hl]
            exact sumN_congr fun j _ => by rw [eM]
          rw [this, Int.mul_zero]
        have z2 : sumN r (fun j => e j * t (ix (s j0)) (s j)) = sumN r fun j => e j * (if j = j0 then dv else 0) := sumN_congr fun j hj => by
          have h5 := hsx j hj
          have h6 := ht _ h5.1
          rw [h5.2] at h6
          rw [h6]
          by_cases c : j = j0
          · rw [if_pos c, c, if_pos rfl]
          · rw [if_neg c, if_neg fun h => c (sinj j j0 hj hj0 (by rw [← h5.2, h, hb0]))]
        rw [z2, sumN_single hj0] at z1
        rcases Int.mul_eq_zero.mp z1 with y | y
        · exact y
        · exact absurd y hI.nz
      · have h5 := hsx j hj
        have := hno i (ix (s j)) hi h5.1
        unfold Gains at this
        rw [h5.2] at this
        omega
    · obtain ⟨hnz, hnew⟩ := gains_new hI hW hlt hp hg
      have hr0 : 0 < r := by omega
      have hrm2 : r < m := by
        have := pigeon (L := m) (r := r + 1) (fun k => if k < r then b k else i) (fun k hk => by
          split
          · rename_i h; exact hlt k h
          · exact hi) fun k k' hkk hk' => by
          rw [if_pos (by omega)]
          by_cases c : k' < r
          · rw [if_pos c]
            intro e
            have := inj k k' (by omega) c e
            omega
          · rw [if_neg c]; exact hnew k (by omega)
        omega
      have eo := ho1 hr0 hrm2
      refine ⟨true, rfl, (fun z => nomatch z), fun _ => ⟨?_, fun P' hn => ?_⟩⟩
      · -- the potential is bounded
        have s1 := prodN_sm (n := r) (e := 500) (f := fun p => W (b p)) fun p hp => hW2 _ (hlt p hp)
        have s2 : Sm (pot W r ⟨b, t, dv, .tup [.int i, .int p]⟩).natAbs 20000 := by
          unfold pot
          rw [Int.natAbs_mul, Int.natAbs_mul]
          exact sm_mono (sm_mul s1 (sm_mul hbd hbd)) (by omega)
        have s3 := hj.pw
        have s4 : (2 : Int) ^ k = ((2 ^ k : Nat) : Int) := by rw [Int.natCast_pow]; rfl
        rw [s4] at s3
        have s5 : 2 ^ k < 2 ^ 20000 := Nat.lt_of_le_of_lt (by omega) s2
        exact (Nat.pow_lt_pow_iff_right (by decide)).mp s5
      · obtain ⟨t', ht1, ht2, I'⟩ := tinv_exch (c := i) hI hp hnz
        have hlt' : ∀ q, q < r → bSet b p i q < m := fun q hq => by
          unfold bSet; split
          · exact hi
          · exact hlt q hq
        have inj' : ∀ q q', q < r → q' < r → bSet b p i q = bSet b p i q' → q = q' := fun q q' hq hq' e => by
          unfold bSet at e
          by_cases c : q = p
          · by_cases c' : q' = p
            · omega
            · rw [if_pos c, if_neg c'] at e
              exact absurd e.symm (hnew q' hq')
          · by_cases c' : q' = p
            · rw [if_neg c, if_pos c'] at e
              exact absurd e (hnew q hq)
            · rw [if_neg c, if_neg c'] at e
              exact inj q q' hq hq' e
        have hpv := run_pivoted (n := n + 1) (h := r) (m := m) (r := p) (c := i) (t := t) (t' := t') (D0 := dv) hp hi (by omega) hI.nz (sm_div (k := 2000) hbd (by decide))
          (fun j _ q hq => sm_mulOk (hbt p hp i) (hbt q hq j) (by decide)) (fun j _ q hq => sm_mulOk (hbt q hq i) (hbt p hp j) (by decide)) (fun q hq hqp j _ => ht2 q hq hqp j) ht1
        obtain ⟨f', hf', hc', hz'⟩ := gf t' (bSet b p i) (t p i) I' hlt'
        rw [eo] at hn ⊢
        refine p_unp (.tup [.int i, .int p]) _ rfl rfl ?_
        refine p_set (tabD r m t') (ev_callE (d := d_pivoted) rfl (by rfl) hpv) ?_
        have hxx : ixD (rowD m (t' p)) (.int i) = .ok (.int (t p i)) := (ix_rngL (fun j => D.int (t' p j)) hi).trans (by rw [ht1])
        refine p_set (.int (t p i)) (ev_ixE (ev_ixE rfl rfl (ix_rngL _ hp)) rfl hxx) ?_
        refine p_setix ((List.range r).map fun q => .int (b q)) (.int i) p rfl rfl rfl rfl (by rw [rng_len]; exact hp) ?_
        rw [rng_set]
        have eb : ((List.range r).map fun j => if j = p then D.int (i : Int) else D.int (b j)) = (List.range r).map fun q => D.int (bSet b p i q) := rng_congr fun q _ => by
          unfold bSet; split <;> rfl
        rw [eb]
        refine p_setz f' (ev_callE (d := d_gainful) rfl (by rfl) hc') ?_
        rw [hz']
        refine p_nil (hn _ _ ⟨bSet b p i, t', t p i, f'⟩ rfl rfl ⟨I', inj', hlt', rel_exch hI.nz hp hi ht1 ht2 hrel, pot_grows (a := ⟨b, t, dv, .tup [.int i, .int p]⟩) hW hlt hi hp hg hj.pw, hf'⟩)
end Fc

set_option Elab.async false
set_option linter.all false
set_option maxRecDepth 100000
set_option maxHeartbeats 4000000
namespace Fc
theorem row_append (r m : Nat) (f g : Nat → Int) : rowL r f ++ rowL m g = rowL (r + m) fun c => if c < r then f c else g (c - r) := by
  induction m with
  | zero =>
    show rowL r f ++ [] = _
    rw [List.append_nil]
    exact rng_congr fun c hc => by dsimp only; rw [if_pos (by omega)]
  | succ m ih =>
    have e : rowL (m + 1) g = rowL m g ++ [D.int (g m)] := rng_snoc m fun c => D.int (g c)
    have e2 : (rowL (r + m + 1) fun c => if c < r then f c else g (c - r)) = (rowL (r + m) fun c => if c < r then f c else g (c - r)) ++ [D.int (if r + m < r then f (r + m) else g (r + m - r))] := rng_snoc (r + m) fun c => D.int (if c < r then f c else g (c - r))
    rw [if_neg (by omega), show r + m - r = m by omega] at e2
    rw [e, ← List.append_assoc, ih]
    exact e2.symm
theorem fzO_ints {T : Tab} {fz : List Nat} {e : E} {ns : List Int} {s : Env} {o : Ow} (h : frk T 1 e = 1) : fzO T fz e (.lst (ns.map D.int)) s o = o := by
  unfold fzO fre
  rw [h]
  have e1 : (noL T (selfC s o) (.lst (ns.map D.int)) || (Nat.ble 1 1 && noL.noLs T (selfC s o) (ns.map D.int))) = true := by
    rw [noLs_ints]; simp [Nat.ble]
  show (if ((noL T (selfC s o) (.lst (ns.map D.int)) || (Nat.ble 1 1 && noL.noLs T (selfC s o) (ns.map D.int))) || _) = true then o else _) = o
  rw [e1]; rfl
theorem plBs_tab (h m : Nat) (t : Nat → Nat → Int) : plBs (tabL h m t) = true := by
  have : ∀ l : List Nat, plBs (l.map fun q => rowD m (t q)) = true := by
    intro l
    induction l with
    | nil => rfl
    | cons x l ih =>
      show (plBs (rowL m (t x)) && plBs (l.map fun q => rowD m (t q))) = true
      rw [ih, plBs_ints]; rfl
  exact this _
theorem tab_not_row {h m : Nat} {t : Nat → Nat → Int} (hh : 0 < h) (k : Nat) (f : Nat → Int) : subB (tabD h m t) (rowD k f) = false := by
  obtain ⟨h', rfl⟩ : ∃ h', h = h' + 1 := ⟨h - 1, by omega⟩
  show (eqP (tabD (h' + 1) m t) (rowD k f) || subBs _ (rowL k f)) = false
  rw [subBs_ints]
  have : eqP (tabD (h' + 1) m t) (rowD k f) = false := by
    show eqPs (tabL (h' + 1) m t) (rowL k f) = false
    unfold tabL rowL
    rw [List.range_succ_eq_map]
    cases k with
    | zero => rfl
    | succ k => rw [List.range_succ_eq_map]; rfl
  rw [this]; rfl
/-- a row of an own table is taken: the table stays own -/
theorem off_tab {h m w : Nat} {t : Nat → Nat → Int} {f : Nat → Int} {s : Env} {o : Ow} {e : E} {x : Nat} (hh : 0 < h) (hs : s[x]? = some (some (tabD h m t))) (ho : o.lookup x = some 1) : fzO T [x] e (rowD w f) s o = o := by
  unfold fzO
  have : offO [x] (rowD w f) s o = true := by
    show ((match o.lookup x with
      | none => true
      | some 1 => (match s[x]? with
        | some (some (.lst ds)) => plB (.lst ds) && !subB (.lst ds) (rowD w f)
        | _ => false)
      | some _ => false) && true) = true
    rw [ho, hs]
    show ((plBs (tabL h m t) && !subB (tabD h m t) (rowD w f)) && true) = true
    rw [plBs_tab, tab_not_row hh]; rfl
  rw [this, Bool.or_true]; rfl
theorem off_tab2 {h m w q : Nat} {t : Nat → Nat → Int} {f g : Nat → Int} {s : Env} {o : Ow} {e : E} {x y : Nat} (hh : 0 < h) (hq : q ≠ w) (hs : s[x]? = some (some (tabD h m t))) (ho : o.lookup x = some 1) (hs2 : s[y]? = some (some (rowD q g))) (ho2 : o.lookup y = some 1) : fzO T [x, y] e (rowD w f) s o = o := by
  unfold fzO
  have : offO [x, y] (rowD w f) s o = true := by
    show ((match o.lookup x with
      | none => true
      | some 1 => (match s[x]? with
        | some (some (.lst ds)) => plB (.lst ds) && !subB (.lst ds) (rowD w f)
        | _ => false)
      | some _ => false) && ((match o.lookup y with
      | none => true
      | some 1 => (match s[y]? with
        | some (some (.lst ds)) => plB (.lst ds) && !subB (.lst ds) (rowD w f)
        | _ => false)
      | some _ => false) && true)) = true
    rw [ho, hs, ho2, hs2]
    have h3 : subB (rowD q g) (rowD w f) = false := by
      show (eqP (rowD q g) (rowD w f) || subBs _ (rowL w f)) = false
      rw [subBs_ints, eqP_len (by rw [rng_len, rng_len]; exact hq)]; rfl
    show ((plBs (tabL h m t) && !subB (tabD h m t) (rowD w f)) && ((plBs (rowL q g) && !subB (rowD q g) (rowD w f)) && true)) = true
    rw [plBs_tab, tab_not_row hh, plBs_ints, h3]; rfl
  rw [this, Bool.or_true]; rfl
def lsS (rw oth : D) (r zz w : Nat) (t : Nat → Nat → Int) (j : Nat) (u : Nat → Nat) : Env := [some rw, some oth, some (.int r), some (.int zz), some (tabD zz w t), some (.lst ((List.range j).map fun p => .int (u p))), none, none, none, none, none, none, none, none, none, none, none]
structure LA where
  n : Nat
  u : Nat → Nat
  t : Nat → Nat → Int
theorem ev_andB {T : Tab} {F : Nat → List D → R D} {s : Env} {a b : E} {p q : Bool} (ha : evE T F a s = .ok (.bl p)) (hb : evE T F b s = .ok (.bl q)) : evE T F (.and_ a b) s = .ok (.bl (p && q)) := by
  cases p with
  | true => rw [ev_andT ha hb, Bool.true_and]
  | false => rw [ev_andF ha, Bool.false_and]
theorem sum_split (r : Nat) (G : Nat → Int) : ∀ m : Nat, sumN (r + m) G = sumN r G + sumN m fun i => G (r + i)
  | 0 => by show sumN r G = sumN r G + 0; omega
  | m + 1 => by
    show sumN (r + m) G + G (r + m) = sumN r G + (sumN m _ + G (r + m))
    rw [sum_split r G m]; omega
/-- what becomes of a line when a pivot line is cleared from it -/
def Clr (w j f : Nat) (t : Nat → Nat → Int) (k : Nat) (v : Nat → Int) : Prop := (k = f → v = t f) ∧ (k ≠ f → t k j = 0 → v = t k) ∧ (k ≠ f → t k j ≠ 0 → ∃ g : Int, g ≠ 0 ∧ (∀ c, c < w → t f j * t k c - t k j * t f c = g * v c) ∧ (Prim w v ∨ ∀ c, c < w → v c = 0))
theorem run_lsolved {n z m r B : Nat} {Q C : Nat → Nat → Int} {X : Nat → Nat → Int} {dv : Int} (hz : z ≤ 10) (hm : m < 1000) (hmr : r ≤ m) (hrz : r ≤ z) (hB : ∀ k i, (C k i).natAbs ≤ B) (hBQ : ∀ k i, (Q k i).natAbs ≤ B) (h1 : 1 ≤ B) (hN : ∀ i, i ≤ r + 1 → Sm (fac i * B ^ i) 1500) (hind : Indep Q r z) (hdv : dv ≠ 0) (hrel : ∀ i, i < m → ∀ l, l < z → dv * C i l = sumN r fun p => X p i * Q p l) :
    ∃ (NN : Nat → Nat → Int) (un : Int), 1 ≤ un ∧ Sm un.natAbs 30000 ∧ (∀ j, j < r → ∀ i, i < m → NN j i * dv = un * X j i ∧ Sm (NN j i).natAbs 40000) ∧ call T (n + 4) 97 [.lst ((List.range r).map fun p => .tup (rowL z (Q p))), .lst ((List.range m).map fun i => .tup (rowL z (C i)))] = .ok (.lst [tabD r m NN, .int un]) := by
  refine call_P (Q := fun x => ∃ (NN : Nat → Nat → Int) (un : Int), 1 ≤ un ∧ Sm un.natAbs 30000 ∧ (∀ j, j < r → ∀ i, i < m → NN j i * dv = un * X j i ∧ Sm (NN j i).natAbs 40000) ∧ x = .ok (.lst [tabD r m NN, .int un])) (d := d__law_solved) rfl rfl rfl fun P hP _ => ?_
  obtain ⟨zz, hzz, hzz0, hzzz⟩ : ∃ zz : Nat, (0 < r → zz = z) ∧ (r = 0 → zz = 0) ∧ zz ≤ z := by
    by_cases h : r = 0
    · exact ⟨0, fun h' => by omega, fun _ => rfl, Nat.zero_le _⟩
    · exact ⟨z, fun _ => rfl, fun h' => absurd h' h, Nat.le_refl _⟩
  generalize hrw : D.lst ((List.range r).map fun p => .tup (rowL z (Q p))) = rw0
  generalize hot : D.lst ((List.range m).map fun i => .tup (rowL z (C i))) = ot0
  refine p_set (.int r) (ev_biE rfl (by rw [← hrw, len_lst, rng_len])) ?_
  refine p_set (.int zz) ?_ ?_
  · by_cases h : 0 < r
    · refine ev_iteT (ev_cmpE rfl rfl (by rw [cmp_gt_int, decide_eq_true (by omega)])) (ev_biE (evs_consE (ev_ixE (x := rw0) rfl rfl (by rw [← hrw]; exact ix_rngL (i := 0) _ h)) rfl) (by rw [len_tup, rng_len, hzz h]))
    · have e1 : r = 0 := by omega
      refine ev_iteF (ev_cmpE rfl rfl (by rw [cmp_gt_int, decide_eq_false (by omega)])) ?_
      rw [hzz0 e1]; rfl
  let A : Nat → Nat → Int := fun k c => if c < r then Q c k else C (c - r) k
  have hA : ∀ k c, (A k c).natAbs ≤ B := fun k c => by
    show (if c < r then Q c k else C (c - r) k).natAbs ≤ B
    split
    · exact hBQ _ _
    · exact hB _ _
  refine p_set1 (tabD zz (r + m) A) (frk_lc ..) (ev_lcR (k := zz) (c := fun (k : Nat) => .int k) (g := fun k => rowD (r + m) (A k)) (evi_rngN rfl (by omega)) fun k hk => lcI_ok rfl (ev_binE (ev_lcR (k := r) (c := fun p => .tup (rowL z (Q p))) (g := fun p => .int (Q p k)) (by rw [← hrw]; rfl) fun p hp => lcI_ok rfl (ev_ixE rfl rfl (ix_rngT _ (by omega)))) (ev_lcR (k := m) (c := fun i => .tup (rowL z (C i))) (g := fun i => .int (C i k)) (by rw [← hot]; rfl) fun i hi => lcI_ok rfl (ev_ixE rfl rfl (ix_rngT _ (by omega)))) (by rw [op_addL (by rw [rng_len, rng_len]; omega), row_append]))) ?_
  refine p_set1 (.lst []) (frk_nil _ _) rfl ?_
  have hNN : ∀ i, i ≤ r + 1 → fac i * B ^ i ≤ 2 ^ 1500 := fun i hi => Nat.le_of_lt (hN i hi)
  have hBN : B ≤ 2 ^ 1500 := by
    have := hNN 1 (by omega)
    have e : fac 1 * B ^ 1 = B := by show 1 * 1 * B ^ 1 = B; rw [Nat.pow_one]; omega
    rwa [e] at this
  have hSm : Sm (2 ^ 1500) 2000 := Nat.pow_lt_pow_right (by decide) (by decide)
  have hindA : ∀ e : Nat → Int, 0 < r → (∀ k, k < zz → sumN r (fun c => e c * A k c) = 0) → ∀ c, c < r → e c = 0 := fun e h0 h c hc => hind e (fun l hl => by
    rw [← h l (by rw [hzz h0]; exact hl)]
    exact sumN_congr fun c hc => by show e c * Q c l = e c * (if c < r then Q c l else C (c - r) l); rw [if_pos hc]) c hc
  let w := r + m
  have hfz4 : ∀ (e : E) (k : Nat) (t : Nat → Nat → Int) (f : Nat → Int) (s : Env) (o : Ow), 0 < zz → s[4]? = some (some (tabD zz w t)) → o.lookup 4 = some 1 → fzO T [4] e (rowD w f) s o = o := fun e k t f s o h1 h2 h3 => off_tab h1 h2 h3
  refine p_for (α := LA) r (fun (j : Nat) => .int j) (fun a => lsS rw0 ot0 r zz w a.t a.n a.u) (fun _ => [(5, 1), (4, 1)]) (fun j a => a.n = j ∧ LS A zz w (2 ^ 1500) j a.u a.t) (fun _ => False) (fun _ _ => False) ⟨0, fun _ => 0, A⟩
    (fun j a => (lsS rw0 ot0 r zz w a.t a.n a.u).set 6 (some (.int j))) (evi_rngN rfl (by omega)) rfl rfl ⟨rfl, ls_zero _ hA hBN⟩ (fun j hj a ha => rfl) (fun j hj a ha P' hn _ _ => ?_) (fun a ha => ?_) (fun _ z => z.elim) (fun _ _ z => z.elim)
  · obtain ⟨n0, u, t⟩ := a
    obtain ⟨hn0, I⟩ := ha
    have hn0 : n0 = j := hn0
    subst hn0
    have I : LS A zz w (2 ^ 1500) n0 u t := I
    have hr0 : 0 < r := by omega
    have hz0 : 0 < zz := by have := hzz hr0; omega
    have hus : D.lst ((List.range n0).map fun p => D.int (u p)) = .lst (lI ((List.range n0).map fun p => (u p : Int))) := congrArg D.lst (List.map_map ..).symm
    -- the lines that may give the pivot
    refine p_setz (.lst (((List.range zz).filter fun (k : Nat) => (!(((List.range n0).map fun p => (u p : Int)).any fun y => decide (y = (k : Int)))) && !decide (t k n0 = 0)).map fun (k : Nat) => .int k)) (ev_lcF (k := zz) (c := fun (k : Nat) => .int k) (g := fun (k : Nat) => .int k) (p := fun (k : Nat) => (!(((List.range n0).map fun p => (u p : Int)).any fun y => decide (y = (k : Int)))) && !decide (t k n0 = 0)) (evi_rngN rfl (by omega)) fun k hk => lcI_cond rfl (ev_andB (ev_cmpE (x := .int k) (y := .lst ((List.range n0).map fun p => .int (u p))) rfl rfl (by rw [hus]; exact nin_ints _ _)) (ev_cmpE (ev_ixE (ev_ixE rfl rfl (ix_rngL _ hk)) rfl (ix_rngL _ (show n0 < w by show n0 < r + m; omega))) rfl (cmp_ne_int _ _))) rfl) ?_
    have hmem : ∀ k, k ∈ (List.range zz).filter (fun (k : Nat) => (!(((List.range n0).map fun p => (u p : Int)).any fun y => decide (y = (k : Int)))) && !decide (t k n0 = 0)) ↔ k < zz ∧ (∀ p, p < n0 → u p ≠ k) ∧ t k n0 ≠ 0 := fun k => by
      rw [List.mem_filter, List.mem_range, Bool.and_eq_true]
      have e1 : (!(((List.range n0).map fun p => (u p : Int)).any fun y => decide (y = (k : Int)))) = true ↔ ∀ p, p < n0 → u p ≠ k := by
        rw [Bool.not_eq_true', List.any_eq_false]
        constructor
        · intro h p hp e
          exact h (u p : Int) (List.mem_map.mpr ⟨p, List.mem_range.mpr hp, rfl⟩) (by rw [e]; simp)
        · intro h x hx hd
          obtain ⟨p, hp, rfl⟩ := List.mem_map.mp hx
          exact h p (List.mem_range.mp hp) (by have := of_decide_eq_true hd; omega)
      rw [e1]
      simp
    have hz1 : ∀ (fl : List Nat) (e : E) (s : Env) (o : Ow), frk T 1 e = 1 → fzO T [4, 5] e (.lst (fl.map fun (k : Nat) => .int k)) s o = o := fun fl e s o h => by
      have : (fl.map fun (k : Nat) => D.int k) = (fl.map fun (k : Nat) => (k : Int)).map D.int := by rw [List.map_map]; rfl
      rw [this]; exact fzO_ints h
    rw [hz1 _ _ _ _ (frk_lc ..)]
    obtain ⟨f0, hf1, hf2, hf3⟩ := I.pivot (r := r) hj (by omega) (fun e h => hindA e hr0 h)
    have hne := (hmem f0).mpr ⟨hf1, hf2, hf3⟩
    generalize (List.range zz).filter (fun (k : Nat) => (!(((List.range n0).map fun p => (u p : Int)).any fun y => decide (y = (k : Int)))) && !decide (t k n0 = 0)) = fl at hmem hne
    cases fl with
    | nil => cases hne
    | cons f fl =>
      obtain ⟨hfz, hfu, hfn⟩ := (hmem f).mp (by simp)
      clear hne hf1 hf2 hf3 f0
      generalize hfl : D.lst ((f :: fl).map fun (k : Nat) => D.int k) = fld
      have ixf : ixD fld (.int 0) = .ok (.int f) := by rw [← hfl]; exact ix0 _ _
      have hlenf : bfD T (call T (n + 3)) .len [fld] = .ok (.int ((f :: fl).length : Nat)) := by rw [← hfl, len_lst, List.length_map]
      refine p_if false (ev_cmpE (ev_biE rfl hlenf) rfl (by rw [cmp_eq_int, decide_eq_false (by rw [List.length_cons]; omega)])) (fun z => nomatch z) fun _ => ?_
      refine p_setz (rowD w (t f)) (ev_ixE rfl (ev_ixE rfl rfl ixf) (ix_rngL _ hfz)) ?_
      rw [hfz4 _ 0 t (t f) _ _ hz0 rfl rfl]
      refine p_app ((List.range n0).map fun p => .int (u p)) (.int f) rfl rfl (ev_ixE rfl rfl ixf) (by rw [rng_len]; omega) ?_
      have eu : ((List.range n0).map fun p => D.int (u p)) ++ [D.int f] = (List.range (n0 + 1)).map fun p => D.int ((upd u n0 f p : Nat) : Int) := by
        rw [rng_snoc, upd_self]
        congr 1
        exact rng_congr fun p hp => by rw [upd_ne (by omega)]
      rw [eu]
      let S2 := fun t2 : Nat → Nat → Int => ([some rw0, some ot0, some (.int r), some (.int zz), some (tabD zz w t2), some (.lst ((List.range (n0 + 1)).map fun p => .int ((upd u n0 f p : Nat) : Int))), some (.int n0), none, none, some fld, some (rowD w (t f)), none, none, none, none, none, none] : Env)
      refine p_for (α := Nat → Nat → Int) zz (fun (k : Nat) => .int k) S2 (fun _ => [(5, 1), (4, 1)]) (fun k t2 => (∀ k', k' < k → Clr w n0 f t k' (t2 k')) ∧ ∀ k', k ≤ k' → t2 k' = t k') (fun _ => False) (fun _ _ => False) t
        (fun k t2 => (S2 t2).set 11 (some (.int k))) (evi_rngN rfl (by omega)) rfl rfl ⟨fun k' h => by omega, fun _ _ => rfl⟩ (fun k hk t2 ht2 => rfl) (fun k hk t2 ht2 P'' hn' _ _ => ?_) (fun t2 ht2 => ?_) (fun _ z => z.elim) (fun _ _ z => z.elim)
      · obtain ⟨hc, hs⟩ := ht2
        have hsk : t2 k = t k := hs k (Nat.le_refl _)
        have hjw : n0 < w := by show n0 < r + m; omega
        have i1 : ixD (rowD w (t2 k)) (.int n0) = .ok (.int (t k n0)) := by rw [hsk]; exact ix_rngL _ hjw
        refine p_seti (t k n0) (ev_ixE (ev_ixE rfl rfl (ix_rngL _ hk)) rfl i1) ?_
        refine p_if ((!decide ((k : Int) = (f : Int))) && !decide (t k n0 = 0)) (ev_andB (ev_cmpE rfl (ev_ixE rfl rfl ixf) (cmp_ne_int _ _)) (ev_cmpE rfl rfl (cmp_ne_int _ _))) (fun e => ?_) fun e => ?_
        · rw [Bool.and_eq_true] at e
          have e1 : k ≠ f := by have := e.1; simp at this; omega
          have e2 : t k n0 ≠ 0 := by have := e.2; simp at this; exact this
          have bk := I.bd k hk
          have bf := I.bd f hfz
          have hsm : ∀ x : Int, x.natAbs ≤ 2 ^ 1500 → Sm x.natAbs 2000 := fun x hx => sm_le hx hSm
          have hzb : ∀ c, c < w → Sm (t f n0 * t k c - t k n0 * t f c).natAbs 8000 := fun c hc => by
            have h1 : (t f n0 * t k c - t k n0 * t f c).natAbs ≤ (t f n0 * t k c).natAbs + (t k n0 * t f c).natAbs := Int.natAbs_sub_le ..
            rw [Int.natAbs_mul, Int.natAbs_mul] at h1
            exact sm_le h1 (sm_mono (sm_add (sm_mul (hsm _ (bf _ hjw)) (hsm _ (bk c hc))) (sm_mul (hsm _ (bk _ hjw)) (hsm _ (bf c hc)))) (by decide))
          obtain ⟨v, g, hg, hgv, hpr, hcall⟩ := run_lprim (n := n + 1) (m := w) (v := fun c => t f n0 * t k c - t k n0 * t f c) (by show r + m < 10000; omega) hzb
          refine p_setixz (tabL zz w t2) (rowD w v) k rfl (ev_callE (d := d__law_primitive) rfl (evs_consE (ev_lcR (k := w) (c := fun (c : Nat) => .int c) (g := fun c => .int (t f n0 * t k c - t k n0 * t f c)) (evi_rngN (ev_biE rfl (by rw [len_lst, rng_len])) (by show r + m ≤ 16777216; omega)) fun c hc => lcI_ok rfl ?_) rfl) hcall) rfl (by rw [fzO_row rfl]; rfl) (by rw [rng_len]; exact hk) ?_
          · have j1 : ixD (rowD w (t2 k)) (.int c) = .ok (.int (t k c)) := by rw [hsk]; exact ix_rngL _ hc
            exact ev_binE (ev_binE (ev_ixE rfl rfl (ix_rngL _ hjw)) (ev_ixE (ev_ixE rfl rfl (ix_rngL _ hk)) rfl j1) (op_mul (sm_mulOk (hsm _ (bf _ hjw)) (hsm _ (bk c hc)) (by decide)))) (ev_binE rfl (ev_ixE rfl rfl (ix_rngL _ hc)) (op_mul (sm_mulOk (hsm _ (bk _ hjw)) (hsm _ (bf c hc)) (by decide)))) (op_sub _ _)
          · rw [fzO_row rfl, rng_set]
            have et : ((List.range zz).map fun q => if q = k then rowD w v else rowD w (t2 q)) = tabL zz w (upd t2 k v) := rng_congr fun q _ => by
              by_cases h : q = k
              · rw [if_pos h, h, upd_self]
              · rw [if_neg h, upd_ne h]
            rw [et]
            refine p_nil (hn' _ _ (upd t2 k v) rfl rfl ⟨fun k' hk' => ?_, fun k' hk' => by rw [upd_ne (by omega)]; exact hs k' (by omega)⟩)
            by_cases h : k' = k
            · subst h
              rw [upd_self]
              exact ⟨fun h => absurd h e1, fun _ h => absurd h e2, fun _ _ => ⟨g, hg, hgv, hpr⟩⟩
            · rw [upd_ne h]; exact hc k' (by omega)
        · refine p_nil (hn' _ _ t2 rfl rfl ⟨fun k' hk' => ?_, fun k' hk' => hs k' (by omega)⟩)
          by_cases h : k' = k
          · subst h
            rw [hsk]
            refine ⟨fun h => by rw [h], fun _ _ => rfl, fun h1 h2 => ?_⟩
            exfalso
            have : ((!decide ((k' : Int) = (f : Int))) && !decide (t k' n0 = 0)) = true := by
              rw [Bool.and_eq_true]
              constructor
              · simp; omega
              · simp; exact h2
            rw [this] at e; cases e
          · exact hc k' (by omega)
      · obtain ⟨hc, hs⟩ := ht2
        have hfN : fac (n0 + 2) * B ^ (n0 + 2) ≤ 2 ^ 1500 := hNN _ (by omega)
        have I' := I.step (r := r) (t' := t2) hA h1 (by show n0 + 1 ≤ r + m; omega) hfN hfz hfu hfn (fun c _ => by rw [(hc f hfz).1 rfl]) (fun k hk hkf h0 c _ => by rw [(hc k hk).2.1 hkf h0]) (fun k hk hkf h0 => (hc k hk).2.2 hkf h0)
        exact p_nil (hn _ _ ⟨n0 + 1, upd u n0 f, t2⟩ rfl rfl ⟨rfl, I'⟩)
  · obtain ⟨n0, u, t⟩ := a
    obtain ⟨hn0, I⟩ := ha
    have hn0 : n0 = r := hn0
    subst hn0
    have I : LS A zz w (2 ^ 1500) n0 u t := I
    have hrw2 : ∀ p, p < n0 → p < w := fun p hp => by show p < n0 + m; omega
    have hsm : ∀ k, k < zz → ∀ c, c < w → Sm (t k c).natAbs 2000 := fun k hk c hc => sm_le (I.bd k hk c hc) hSm
    have htd : ∀ p, p < n0 → t (u p) p ≠ 0 := fun p hp => (I.us p hp).2.1
    -- the common bottom
    refine p_set (.int 1) rfl ?_
    let S7 := fun un : Int => ([some rw0, some ot0, some (.int n0), some (.int zz), some (tabD zz w t), some (.lst ((List.range n0).map fun p => .int (u p))), none, some (.int un), none, none, none, none, none, none, none, none, none] : Env)
    refine p_for (α := Int) n0 (fun (j : Nat) => .int j) S7 (fun _ => [(5, 1), (4, 1)]) (fun j un => 1 ≤ un ∧ (∀ p, p < j → t (u p) p ∣ un) ∧ Sm un.natAbs (2000 * j + 1)) (fun _ => False) (fun _ _ => False) 1
      (fun j un => (S7 un).set 6 (some (.int j))) (evi_rngN rfl (by omega)) rfl rfl ⟨Int.le_refl 1, fun p h => by omega, by unfold Sm; decide⟩ (fun j hj a ha => rfl) (fun j hj un hun P' hn _ _ => ?_) (fun un hun => ?_) (fun _ z => z.elim) (fun _ _ z => z.elim)
    · obtain ⟨h0, hd, hs⟩ := hun
      have huz := I.ud j hj
      have hpv := hsm _ huz j (hrw2 j hj)
      have habs : (if t (u j) j < 0 then - t (u j) j else t (u j) j) = ((t (u j) j).natAbs : Int) := by split <;> omega
      have hpos : 0 < (t (u j) j).natAbs := by have := htd j hj; omega
      refine p_seti ((t (u j) j).natAbs : Int) (ev_biE (evs_consE (ev_ixE (ev_ixE rfl (ev_ixE rfl rfl (ix_rngL _ hj)) (ix_rngL _ huz)) rfl (ix_rngL _ (hrw2 j hj))) rfl) (by rw [abs_int, habs])) ?_
      have hgc := run_lgcd (n := n + 2) (a := un) (b := ((t (u j) j).natAbs : Int)) (by rw [Int.natAbs_natCast]; exact sm_mono hpv (by decide))
      generalize hpe : t (u j) j = tj at *
      have g1 : gcdI un (tj.natAbs : Int) ∣ un := Int.natAbs_dvd_natAbs.mp (by unfold gcdI; rw [Int.natAbs_natCast]; exact Nat.gcd_dvd_left ..)
      have g2 : gcdI un (tj.natAbs : Int) ∣ (tj.natAbs : Int) := Int.natAbs_dvd_natAbs.mp (by unfold gcdI; rw [Int.natAbs_natCast]; exact Nat.gcd_dvd_right ..)
      have g3 : 0 < gcdI un (tj.natAbs : Int) := by
        have : 0 ≤ gcdI un (tj.natAbs : Int) := by unfold gcdI; omega
        rcases Int.lt_or_eq_of_le this with y | y
        · exact y
        · rw [← y] at g2
          have := Int.zero_dvd.mp g2
          omega
      generalize gcdI un (tj.natAbs : Int) = g at *
      obtain ⟨a, ha⟩ := g1
      obtain ⟨b, hb⟩ := g2
      have hdg : divOk g = true := sm_div (k := 2000) (sm_le (Nat.le_of_dvd (by omega) (by have := Int.natAbs_dvd_natAbs.mpr (⟨b, hb⟩ : g ∣ (tj.natAbs : Int)); rwa [Int.natAbs_natCast] at this)) hpv) (by decide)
      have ea : un / g = a := by rw [ha]; exact Int.mul_ediv_cancel_left _ (by omega)
      have hapos : 0 < a := Int.pos_of_mul_pos_right (by rw [← ha]; omega) g3
      have hale : a.natAbs ≤ un.natAbs := by
        rw [ha, Int.natAbs_mul]
        have : 1 * a.natAbs ≤ g.natAbs * a.natAbs := Nat.mul_le_mul_right _ (by omega)
        omega
      have hsa : Sm a.natAbs (2000 * j + 1) := sm_le hale hs
      have hst : Sm ((tj.natAbs : Int)).natAbs 2000 := by rw [Int.natAbs_natCast]; exact hpv
      refine p_set (.int (a * (tj.natAbs : Int))) (ev_binE (ev_binE rfl (ev_callE (d := d__law_gcd) rfl (by rfl) hgc) (by rw [op_fdiv g3 hdg, ea])) rfl (op_mul (sm_mulOk hsa hst (by omega)))) ?_
      refine p_nil (hn _ _ (a * (tj.natAbs : Int)) rfl rfl ⟨?_, fun p hp => ?_, by rw [Int.natAbs_mul]; exact sm_mono (sm_mul hsa hst) (by omega)⟩)
      · have : 1 * 1 ≤ a * (tj.natAbs : Int) := Int.mul_le_mul (by omega) (by omega) (by decide) (by omega)
        omega
      · rcases Nat.lt_or_ge p j with y | y
        · have h3 := hd p y
          have : un ∣ a * (tj.natAbs : Int) := ⟨b, by rw [hb, ha]; ac_rfl⟩
          exact Int.dvd_trans h3 this
        · have : p = j := by omega
          subst this
          rw [hpe]
          have : tj ∣ (tj.natAbs : Int) := Int.dvd_natAbs.mpr (Int.dvd_refl _)
          exact Int.dvd_trans this ⟨a, by ac_rfl⟩
    · obtain ⟨h0, hd, hs⟩ := hun
      have hs3 : Sm un.natAbs 30000 := sm_mono hs (by omega)
      let NN : Nat → Nat → Int := fun j i => t (u j) (n0 + i) * (un / t (u j) j)
      have hq : ∀ j, j < n0 → un = t (u j) j * (un / t (u j) j) := fun j hj => (Int.mul_ediv_cancel' (hd j hj)).symm
      have hqs : ∀ j, j < n0 → Sm (un / t (u j) j).natAbs 30000 := fun j hj => by
        refine sm_le ?_ hs3
        have := hq j hj
        have h5 : un.natAbs = (t (u j) j).natAbs * (un / t (u j) j).natAbs := by rw [← Int.natAbs_mul, ← this]
        have : 1 * (un / t (u j) j).natAbs ≤ (t (u j) j).natAbs * (un / t (u j) j).natAbs := Nat.mul_le_mul_right _ (by have := htd j hj; omega)
        omega
      refine p_set1 (.lst []) (frk_nil _ _) rfl ?_
      let S8 := fun j : Nat => ([some rw0, some ot0, some (.int n0), some (.int zz), some (tabD zz w t), some (.lst ((List.range n0).map fun p => .int (u p))), none, some (.int un), some (tabD j m NN), none, none, none, none, none, none, none, none] : Env)
      refine p_for (α := Nat) n0 (fun (j : Nat) => .int j) S8 (fun _ => [(8, 1), (5, 1), (4, 1)]) (fun j a => a = j) (fun _ => False) (fun _ _ => False) 0
        (fun j a => (S8 a).set 6 (some (.int j))) (evi_rngN rfl (by omega)) rfl rfl rfl (fun j hj a ha => rfl) (fun j hj a ha P' hn _ _ => ?_) (fun a ha => ?_) (fun _ z => z.elim) (fun _ _ z => z.elim)
      · subst ha
        have huz := I.ud a hj
        have hz0 : 0 < zz := by omega
        refine p_setz (rowD w (t (u a))) (ev_ixE rfl (ev_ixE rfl rfl (ix_rngL _ hj)) (ix_rngL _ huz)) ?_
        have hof : ∀ (e : E) (s : Env) (o : Ow), s[4]? = some (some (tabD zz w t)) → o.lookup 4 = some 1 → s[5]? = some (some (rowD n0 fun p => (u p : Int))) → o.lookup 5 = some 1 → fzO T [4, 5] e (rowD w (t (u a))) s o = o := fun e s o q1 q2 q3 q4 => off_tab2 hz0 (show n0 ≠ n0 + m by omega) q1 q2 q3 q4
        rw [hof _ _ _ rfl rfl rfl rfl]
        refine p_app (tabL a m NN) (rowD m (NN a)) rfl rfl (ev_lcR (k := m) (c := fun (i : Nat) => .int i) (g := fun i => .int (NN a i)) (evi_rngN (ev_biE rfl (by rw [← hot, len_lst, rng_len])) (by omega)) fun i hi => lcI_ok rfl (ev_binE (ev_ixE (x := rowD w (t (u a))) rfl (ev_binE rfl rfl (op_add _ _)) (ix_rngI (j := n0 + i) _ (by omega) (by show n0 + i < n0 + m; omega))) (ev_binE rfl (ev_ixE rfl rfl (ix_rngL _ (hrw2 a hj))) (op_fdiv_ex (q := un / t (u a) a) (htd a hj) (sm_div (k := 2000) (hsm _ huz a (hrw2 a hj)) (by decide)) (hq a hj))) (op_mul (sm_mulOk (hsm _ huz (n0 + i) (by show n0 + i < n0 + m; omega)) (hqs a hj) (by decide))))) (by rw [rng_len]; omega) ?_
        have : tabL a m NN ++ [rowD m (NN a)] = tabL (a + 1) m NN := (rng_snoc a fun q => rowD m (NN q)).symm
        rw [this]
        exact p_nil (hn _ _ (a + 1) rfl rfl rfl)
      · subst ha
        refine p_ret (.lst [tabD a m NN, .int un]) rfl (hP _ ⟨NN, un, h0, hs3, fun j hj i hi => ⟨?_, ?_⟩, rfl⟩)
        · have hr0 : 0 < a := by omega
          have hz := hzz hr0
          have huz := I.ud j hj
          obtain ⟨_, _, hzero⟩ := I.us j hj
          -- the solution of the lines
          let y : Nat → Int := fun c => if c < a then X c i else if c = a + i then - dv else 0
          have split : ∀ F : Nat → Int, sumN w (fun c => y c * F c) = sumN a (fun c => X c i * F c) + - dv * F (a + i) := fun F => by
            have h5 := sum_split a (fun c => y c * F c) m
            have h6 : sumN a (fun c => y c * F c) = sumN a fun c => X c i * F c := sumN_congr fun c hc => by
              show (if c < a then X c i else if c = a + i then - dv else 0) * F c = _
              rw [if_pos hc]
            have h7 : sumN m (fun i' => y (a + i') * F (a + i')) = - dv * F (a + i) := by
              have : sumN m (fun i' => y (a + i') * F (a + i')) = sumN m fun i' => F (a + i') * (if i' = i then - dv else 0) := sumN_congr fun c hc => by
                show (if a + c < a then X (a + c) i else if a + c = a + i then - dv else 0) * F (a + c) = _
                rw [if_neg (by omega), Int.mul_comm]
                congr 1
                by_cases e : c = i
                · rw [if_pos (by omega), if_pos e]
                · rw [if_neg (by omega), if_neg e]
              rw [this, sumN_single hi (fun i' => F (a + i')) (- dv), Int.mul_comm]
            rw [h6, h7] at h5
            exact h5
          have h8 := I.sol y (fun k hk => by
            rw [split]
            have h9 := hrel i hi k (by omega)
            have e1 : sumN a (fun c => X c i * A k c) = sumN a fun p => X p i * Q p k := sumN_congr fun c hc => by
              show X c i * (if c < a then Q c k else C (c - a) k) = _
              rw [if_pos hc]
            have e2 : A k (a + i) = C i k := by
              show (if a + i < a then Q (a + i) k else C (a + i - a) k) = _
              rw [if_neg (by omega), show a + i - a = i by omega]
            rw [e1, e2, ← h9, Int.neg_mul]; omega) (u j) huz
          rw [split] at h8
          have e3 : sumN a (fun c => X c i * t (u j) c) = X j i * t (u j) j := by
            have : sumN a (fun c => X c i * t (u j) c) = sumN a fun c => X c i * (if c = j then t (u j) j else 0) := sumN_congr fun c hc => by
              by_cases e : c = j
              · rw [if_pos e, e]
              · rw [if_neg e, hzero c hc e]
            rw [this, sumN_single hj]
          rw [e3, Int.neg_mul] at h8
          show t (u j) (a + i) * (un / t (u j) j) * dv = un * X j i
          have e4 : dv * t (u j) (a + i) = X j i * t (u j) j := by omega
          have e5 : t (u j) (a + i) * (un / t (u j) j) * dv = (dv * t (u j) (a + i)) * (un / t (u j) j) := by ac_rfl
          have e6 : X j i * t (u j) j * (un / t (u j) j) = (t (u j) j * (un / t (u j) j)) * X j i := by ac_rfl
          rw [e5, e4, e6, ← hq j hj]
        · show Sm (t (u j) (a + i) * (un / t (u j) j)).natAbs 40000
          rw [Int.natAbs_mul]
          exact sm_mono (sm_mul (hsm _ (I.ud j hj) (a + i) (by show a + i < a + m; omega)) (hqs j hj)) (by decide)
end Fc

set_option Elab.async false
set_option linter.all false
set_option maxRecDepth 100000
set_option maxHeartbeats 4000000
namespace Fc
def bR (kind : Nat) : Nat := if kind = 3 then 1000000000000 else if kind = 6 then 1000000 else 3
theorem run_drawrow2 {n K z kind : Nat} {f : Nat → Int} (hz : z ≤ 10) (hK : 15 ≤ K) (hf : ∀ k, k < 10 → 0 ≤ f k ∧ f k < 7) (h3 : kind = 3 ∨ kind = 6 → K = 15 + 2 * z ∧ ∀ k, k < z → 0 ≤ f (15 + 2 * k) ∧ f (15 + 2 * k) < 2000001 ∧ 0 ≤ f (15 + 2 * k + 1) ∧ f (15 + 2 * k + 1) < 1000000) : ∃ x, RB z (bR kind) x ∧ call T (n + 2) 94 [.int z, .int kind, rowD K f] = .ok x := by
  refine call_P (Q := fun y => ∃ x, RB z (bR kind) x ∧ y = .ok x) (d := d__law_draw_row_v2) rfl rfl rfl fun P hP _ => ?_
  have hb3 : 3 ≤ bR kind := by unfold bR; split <;> (try split) <;> omega
  have hix : ∀ k : Nat, k < 10 → ixD (rowD K f) (.int k) = .ok (.int (f k)) := fun k hk => ix_rngL _ (by omega)
  refine p_set (rowD z fun k => f k - 3) (ev_lcR (k := z) (c := fun (i : Nat) => .int i) (g := fun k => .int (f k - 3)) (evi_rngN rfl (by omega)) fun k hk => lcI_ok rfl (ev_binE (ev_ixE rfl rfl (hix k (by omega))) rfl (op_sub _ _))) ?_
  refine p_if (decide ((2 : Int) < z ∧ (kind : Int) = 1)) (ev_and2 rfl rfl) (fun e => ?_) fun _ => ?_
  · obtain ⟨e1, e2⟩ := of_decide_eq_true e
    refine p_set (.int (f 0 % z)) (ev_binE (ev_biE (evs_consE (ev_ixE rfl rfl (hix 0 (by omega))) rfl) (int_int _)) rfl (op_mod (by omega))) ?_
    refine p_set (.int ((f 0 % z + 1 + f 1 % ((z : Int) - 1)) % z)) (ev_binE (ev_biE (evs_consE (ev_binE (ev_binE rfl rfl (op_add _ _)) (ev_binE (ev_biE (evs_consE (ev_ixE rfl rfl (hix 1 (by omega))) rfl) (int_int _)) (ev_binE rfl rfl (op_sub _ _)) (op_mod (by omega))) (op_add _ _)) rfl) (int_int _)) rfl (op_mod (by omega))) ?_
    generalize f 0 % (z : Int) = one
    generalize (one + 1 + f 1 % ((z : Int) - 1)) % z = two
    refine p_ret (rowD z fun k => (if decide ((k : Int) = one) then 1 else 0) - (if decide ((k : Int) = two) then 1 else 0)) (ev_lcR (k := z) (c := fun (i : Nat) => .int i) (g := fun (k : Nat) => .int ((if decide ((k : Int) = one) then 1 else 0) - (if decide ((k : Int) = two) then 1 else 0))) (evi_rngN rfl (by omega)) fun k hk => lcI_ok rfl (ev_binE (ev_biE (evs_consE (ev_cmpE rfl rfl (cmp_eq_int _ _)) rfl) (int_bl _)) (ev_biE (evs_consE (ev_cmpE rfl rfl (cmp_eq_int _ _)) rfl) (int_bl _)) (op_sub _ _))) (hP _ ⟨_, rb_of fun k hk => ?_, rfl⟩)
    refine Nat.le_trans ?_ hb3
    split <;> split <;> decide
  refine p_if (decide ((2 : Int) < z ∧ (kind : Int) = 2)) (ev_and2 rfl rfl) (fun e => ?_) fun _ => ?_
  · obtain ⟨e1, e2⟩ := of_decide_eq_true e
    have hcut : slD (rowD z fun k => f k - 3) none (some ((z : Int) - 1)) = .ok (rowD (z - 1) fun k => f k - 3) := by
      show R.ok (D.lst (cutD _ none (some ((z : Int) - 1)))) = _
      have : (z : Int) - 1 = ((z - 1 : Nat) : Int) := by omega
      rw [this, cut_take, rng_take _ (by omega)]
    refine p_ret (rowD (z - 1 + 1) (upd (fun k => f k - 3) (z - 1) (f 0 - 3))) ?_ (hP _ ⟨rowD z (upd (fun k => f k - 3) (z - 1) (f 0 - 3)), rb_of fun k hk => ?_, by rw [show z - 1 + 1 = z by omega]⟩)
    · refine ev_binE (ev_slE rfl rfl (evo_E (ev_binE rfl rfl (op_sub _ _))) hcut) (ev_lstE (evs_consE (ev_ixE (x := rowD z fun k => f k - 3) rfl rfl (ix_rngL (i := 0) _ (by omega))) rfl)) ?_
      rw [op_addL (by rw [rng_len]; simp; omega), row_snoc]
    · refine Nat.le_trans ?_ hb3
      by_cases e : k = z - 1
      · subst e; rw [upd_self]; have := hf 0 (by omega); omega
      · rw [upd_ne e]; have := hf k (by omega); omega
  refine p_if (decide ((kind : Int) = 3)) rfl (fun e => ?_) fun hk3 => ?_
  · have e : kind = 3 := by have := of_decide_eq_true e; omega
    obtain ⟨hK', hw⟩ := h3 (.inl e)
    obtain ⟨x, hx, hc⟩ := run_wide (n := n) (z := z) (by omega) hK' hw
    refine p_ret x (ev_callE (d := d__law_wide) rfl (by rfl) hc) (hP _ ⟨x, ?_, rfl⟩)
    unfold bR; rw [if_pos e]; exact hx
  have hk3 : kind ≠ 3 := by have := of_decide_eq_false hk3; omega
  refine p_if (decide ((kind : Int) = 6)) rfl (fun e => ?_) fun _ => ?_
  · have e : kind = 6 := by have := of_decide_eq_true e; omega
    obtain ⟨hK', hw⟩ := h3 (.inr e)
    refine p_ret (rowD z fun k => f (15 + 2 * k) - 1000000) (ev_lcR (k := z) (c := fun (i : Nat) => .int i) (g := fun (k : Nat) => .int (f (15 + 2 * k) - 1000000)) (evi_rngN rfl (by omega)) fun k hk => lcI_ok rfl (ev_binE (ev_ixE rfl (ev_binE rfl (ev_binE rfl rfl (op_mul (lit_mul (by decide) (by omega)))) (op_add _ _)) (ix_rngI (j := 15 + 2 * k) _ (by omega) (by omega))) rfl (op_sub _ _))) (hP _ ⟨_, rb_of fun k hk => ?_, rfl⟩)
    have := hw k hk
    have e5 : bR kind = 1000000 := by unfold bR; rw [if_neg hk3, if_pos e]
    rw [e5]; omega
  refine p_if (decide ((kind : Int) = 4 ∧ f 0 < 2)) (ev_and2 rfl (ev_cmpE (ev_ixE rfl rfl (hix 0 (by omega))) rfl rfl)) (fun e => ?_) fun _ => ?_
  · exact p_ret (rowD z fun _ => 0) (ev_lcR (k := z) (c := fun (i : Nat) => .int i) (g := fun (k : Nat) => .int 0) (evi_rngN rfl (by omega)) fun k hk => lcI_ok rfl rfl) (hP _ ⟨_, rb_of fun k hk => Nat.zero_le _, rfl⟩)
  · refine p_ret (rowD z fun k => f k - 3) rfl (hP _ ⟨_, rb_of fun k hk => ?_, rfl⟩)
    have := hf k (by omega)
    refine Nat.le_trans ?_ hb3
    omega
theorem run_drawpair2 {n z kind heavy : Nat} {c : Int} (hz : z ≤ 10) : ∃ (x : D) (w : Int), RB z (bR kind) x ∧ 1 ≤ w ∧ Sm w.natAbs 500 ∧ call T (n + 3) 95 [.int c, .int z, .int kind, .int heavy] = .ok (.lst [x, .int w]) := by
  refine call_P (Q := fun y => ∃ (x : D) (w : Int), RB z (bR kind) x ∧ 1 ≤ w ∧ Sm w.natAbs 500 ∧ y = .ok (.lst [x, .int w])) (d := d__law_draw_pair_v1) rfl rfl rfl fun P hP _ => ?_
  have p40 : opD T (call T (n + 2)) .pow (.int 10) (.int 40) = .ok (.int (10 ^ 40)) := pow_ok (b := 40) (by decide) (by decide)
  have p37 : opD T (call T (n + 2)) .pow (.int 10) (.int 37) = .ok (.int (10 ^ 37)) := pow_ok (b := 37) (by decide) (by decide)
  refine p_set (rowD 15 zfP) (ev_binE (x := .lst (lI [7, 7, 7, 7, 7, 7, 7, 7, 7, 7])) (y := .lst (lI [9, 1000, 10 ^ 40, 10 ^ 40, 10 ^ 37])) (ev_binE rfl rfl (by rfl)) (ev_lstE (evs_consE rfl (evs_consE rfl (evs_consE (ev_binE rfl rfl p40) (evs_consE (ev_binE rfl rfl p40) (evs_consE (ev_binE rfl rfl p37) rfl)))))) (by show _ = R.ok (D.lst (rowL 15 zfP)); rw [← zfP_15]; rfl)) ?_
  refine p_ifJ (α := Nat) (fun K => [some (.int c), some (.int z), some (.int kind), some (.int heavy), some (rowD K zfP), none, none]) [] (fun K => 15 ≤ K ∧ K < 10000 ∧ (kind = 3 ∨ kind = 6 → K = 15 + 2 * z)) (decide ((kind : Int) = 3 ∨ (kind : Int) = 6)) (ev_or2 rfl rfl) (fun e => ?_) (fun e => ?_) fun K hK => ?_
  · refine ⟨15 + 2 * z, ⟨by omega, by omega, fun _ => rfl⟩, ?_⟩
    rw [exs_set (rowD (15 + 2 * z) zfP)]
    · rfl
    · have hm : opD T (call T (n + 2)) .mul (.lst [.int 2000001, .int 1000000]) (.int z) = .ok (.lst (List.replicate z [D.int 2000001, D.int 1000000]).flatten) := by
        show (if 2 * (z : Int).toNat ≤ LIM ∧ -(2 ^ 62) ≤ (z : Int) ∧ (z : Int) < 2 ^ 62 then R.ok (D.lst (List.replicate (z : Int).toNat [D.int 2000001, D.int 1000000]).flatten) else .no) = _
        have : LIM = 16777216 := rfl
        rw [if_pos ⟨by omega, by omega, by omega⟩, Int.toNat_natCast]
      refine ev_binE (x := rowD 15 zfP) rfl (ev_binE rfl rfl hm) ?_
      rw [op_addL, zfP_more]
      have e := congrArg List.length (zfP_more z)
      rw [List.length_append, rng_len, rng_len] at e
      rw [rng_len]; omega
  · have e := of_decide_eq_false e
    exact ⟨15, ⟨by omega, by omega, fun h => by omega⟩, rfl⟩
  obtain ⟨hK1, hK2, hK3⟩ := hK
  obtain ⟨f, hf, hcall⟩ := run_digits (n := n + 1) (c := c) (zf := zfP) hK2 fun i _ => zfP_pos i
  refine p_set (rowD K f) (ev_callE (d := d__law_digits) rfl (by rfl) hcall) ?_
  have z10 : zfP 10 = 9 := rfl
  have z11 : zfP 11 = 1000 := rfl
  have z12 : zfP 12 = 10 ^ 40 := rfl
  have z13 : zfP 13 = 10 ^ 40 := rfl
  have z14 : zfP 14 = 10 ^ 37 := rfl
  have h10 := hf 10 (by omega)
  have h11 := hf 11 (by omega)
  have h12 := hf 12 (by omega)
  have h13 := hf 13 (by omega)
  have h14 := hf 14 (by omega)
  rw [z10] at h10
  rw [z11] at h11
  rw [z12] at h12
  rw [z13] at h13
  rw [z14] at h14
  have hix : ∀ k : Nat, k < 15 → ixD (rowD K f) (.int k) = .ok (.int (f k)) := fun k hk => ix_rngL _ (by omega)
  refine p_set (.int (1 + f 10)) (ev_binE rfl (ev_ixE rfl rfl (hix 10 (by omega))) (op_add _ _)) ?_
  have smL : ∀ x : Int, 0 ≤ x → x ≤ 2000000000 → Sm x.natAbs 500 := fun x h1 h2 => sm_mono (show Sm x.natAbs 40 by unfold Sm; omega) (by decide)
  let S := fun w : Int => ([some (.int c), some (.int z), some (.int kind), some (.int heavy), some (rowD K zfP), some (rowD K f), some (.int w)] : Env)
  obtain ⟨v1, hv0, hv1, hv2⟩ := ints_ix (LL := [1, 1000000]) (lo := 1) (hi := 1000000) (by decide) (show 0 ≤ f 11 % 2 by omega) (by show f 11 % 2 < 2; omega)
  refine p_ifJ (α := Int) S [] (fun w => 1 ≤ w ∧ Sm w.natAbs 500) (decide ((heavy : Int) = 1)) rfl (fun _ => ⟨v1, ⟨hv0, smL _ (by omega) (by omega)⟩, ?_⟩) (fun _ => ⟨1 + f 10, ⟨by omega, smL _ (by omega) (by omega)⟩, rfl⟩) fun w hw => ?_
  · rw [exs_set (.int v1) (ev_ixE (x := .lst (lI [1, 1000000])) rfl (ev_binE (ev_biE (evs_consE (ev_ixE rfl rfl (hix 11 (by omega))) rfl) (int_int _)) rfl (op_mod (by decide))) hv2)]; rfl
  refine p_ifJ (α := Int) S [] (fun w => 1 ≤ w ∧ Sm w.natAbs 500) (decide ((heavy : Int) = 2)) rfl (fun _ => ⟨1 + f 11, ⟨by omega, smL _ (by omega) (by omega)⟩, ?_⟩) (fun _ => ⟨w, hw, rfl⟩) fun w hw => ?_
  · rw [exs_set (.int (1 + f 11)) (ev_binE rfl (ev_ixE rfl rfl (hix 11 (by omega))) (op_add _ _))]; rfl
  have b40 : Sm ((10 : Int) ^ 40).natAbs 150 := by unfold Sm; decide
  have s12 : Sm (f 12).natAbs 150 := sm_le (by omega) b40
  have s13 : Sm (f 13).natAbs 150 := sm_le (by omega) b40
  have s14 : Sm (f 14).natAbs 150 := sm_le (show (f 14).natAbs ≤ ((10 : Int) ^ 40).natAbs by omega) b40
  have s13' : Sm (f 13 * 10 ^ 40).natAbs 300 := by rw [Int.natAbs_mul]; exact sm_mul s13 b40
  have s14' : Sm (f 14 * 10 ^ 40).natAbs 300 := by rw [Int.natAbs_mul]; exact sm_mul s14 b40
  have s14'' : Sm (f 14 * 10 ^ 40 * 10 ^ 40).natAbs 450 := by rw [Int.natAbs_mul]; exact sm_mul s14' b40
  refine p_ifJ (α := Int) S [] (fun w => 1 ≤ w ∧ Sm w.natAbs 500) (decide ((heavy : Int) = 3)) rfl (fun _ => ⟨1 + f 12 + f 13 * 10 ^ 40 + f 14 * 10 ^ 40 * 10 ^ 40, ⟨?_, ?_⟩, ?_⟩) (fun _ => ⟨w, hw, rfl⟩) fun w hw => ?_
  · have a1 : 0 ≤ f 13 * 10 ^ 40 := Int.mul_nonneg h13.1 (by decide)
    have a2 : 0 ≤ f 14 * 10 ^ 40 * 10 ^ 40 := Int.mul_nonneg (Int.mul_nonneg h14.1 (by decide)) (by decide)
    omega
  · have t1 : (1 + f 12 + f 13 * 10 ^ 40 + f 14 * 10 ^ 40 * 10 ^ 40).natAbs ≤ ((1 + (f 12).natAbs) + (f 13 * 10 ^ 40).natAbs) + (f 14 * 10 ^ 40 * 10 ^ 40).natAbs := by omega
    refine sm_le t1 (sm_mono (sm_add (sm_add (sm_add (sm_mono (sm_14 (show 1 < 10000 by decide)) (show 14 ≤ 450 by decide)) (sm_mono s12 (by decide))) (sm_mono s13' (by decide))) (sm_mono s14'' (by decide))) (show 450 + 1 + 1 + 1 ≤ 500 by decide))
  · rw [exs_set (.int (1 + f 12 + f 13 * 10 ^ 40 + f 14 * 10 ^ 40 * 10 ^ 40)) (ev_binE (ev_binE (ev_binE rfl (ev_ixE rfl rfl (hix 12 (by omega))) (op_add _ _)) (ev_binE (ev_ixE rfl rfl (hix 13 (by omega))) (ev_binE rfl rfl p40) (op_mul (sm_mulOk s13 b40 (by decide)))) (op_add _ _)) (ev_binE (ev_binE (ev_ixE rfl rfl (hix 14 (by omega))) (ev_binE rfl rfl p40) (op_mul (sm_mulOk s14 b40 (by decide)))) (ev_binE rfl rfl p40) (op_mul (sm_mulOk s14' b40 (by decide)))) (op_add _ _))]; rfl
  refine p_ifJ (α := Int) S [] (fun w => 1 ≤ w ∧ Sm w.natAbs 500) (decide ((heavy : Int) = 4)) rfl (fun _ => ⟨1 + f 11 * 1000003, ⟨by omega, smL _ (by omega) (by omega)⟩, ?_⟩) (fun _ => ⟨w, hw, rfl⟩) fun w hw => ?_
  · rw [exs_set (.int (1 + f 11 * 1000003)) (ev_binE rfl (ev_binE (ev_ixE rfl rfl (hix 11 (by omega))) rfl (op_mul (lit_mul (by omega) (by decide)))) (op_add _ _))]; rfl
  have hf7 : ∀ k, k < 10 → 0 ≤ f k ∧ f k < 7 := fun k hk => by
    have := hf k (by omega)
    have e : zfP k = 7 := if_pos hk
    rw [e] at this; exact this
  have hf3 : kind = 3 ∨ kind = 6 → K = 15 + 2 * z ∧ ∀ k, k < z → 0 ≤ f (15 + 2 * k) ∧ f (15 + 2 * k) < 2000001 ∧ 0 ≤ f (15 + 2 * k + 1) ∧ f (15 + 2 * k + 1) < 1000000 := fun h => ⟨hK3 h, fun k hk => by
    have e1 := hf (15 + 2 * k) (by have := hK3 h; omega)
    have e2 := hf (15 + 2 * k + 1) (by have := hK3 h; omega)
    have e3 : zfP (15 + 2 * k) = 2000001 := by
      unfold zfP
      rw [if_neg (by omega), if_neg (by omega), if_neg (by omega), if_neg (by omega), if_neg (by omega), if_neg (by omega), if_pos (by omega)]
    have e4 : zfP (15 + 2 * k + 1) = 1000000 := by
      unfold zfP
      rw [if_neg (by omega), if_neg (by omega), if_neg (by omega), if_neg (by omega), if_neg (by omega), if_neg (by omega), if_neg (by omega)]
    rw [e3] at e1
    rw [e4] at e2
    exact ⟨e1.1, e1.2, e2.1, e2.2⟩⟩
  obtain ⟨x, hx, hxc⟩ := run_drawrow2 (n := n) (K := K) (z := z) (kind := kind) (f := f) hz hK1 hf7 hf3
  exact p_ret (.lst [x, .int w]) (ev_lstE (evs_consE (ev_callE (d := d__law_draw_row_v2) rfl (by rfl) hxc) (evs_consE rfl rfl))) (hP _ ⟨x, w, hx, hw.1, hw.2, rfl⟩)
end Fc

set_option Elab.async false
set_option linter.all false
set_option maxRecDepth 100000
set_option maxHeartbeats 4000000
namespace Fc
theorem setO_fzO0 {T : Tab} (i : Nat) (e : E) (d : D) (s : Env) (o : Ow) : setO i 0 (fzO T [i] e d s o) = setO i 0 o := by
  unfold fzO
  split
  · rfl
  · show dropO [i] (dropO [i] o) = dropO [i] o
    unfold dropO
    rw [List.filter_filter]
    congr 1
    funext p
    simp
def bM : Nat := 2000000000000
theorem run_drawlist2 {n : Nat} {ns : List Int} : ∃ (z m : Nat) (Rw : Nat → Nat → Int) (W : Nat → Int) (b : Int), z ≤ 10 ∧ m ≤ 60 ∧ (∀ k i, (Rw k i).natAbs ≤ bM) ∧ (∀ k, k < m → 1 ≤ W k ∧ Sm (W k).natAbs 500) ∧ 1 ≤ b ∧ Sm b.natAbs 500 ∧
    call T (n + 4) 96 [.scr ns] = .ok (.lst [.int z, .lst ((List.range m).map fun k => .tup [.tup (rowL z (Rw k)), .int (W k)]), .int b]) := by
  refine call_P (Q := fun x => ∃ (z m : Nat) (Rw : Nat → Nat → Int) (W : Nat → Int) (b : Int), z ≤ 10 ∧ m ≤ 60 ∧ (∀ k i, (Rw k i).natAbs ≤ bM) ∧ (∀ k, k < m → 1 ≤ W k ∧ Sm (W k).natAbs 500) ∧ 1 ≤ b ∧ Sm b.natAbs 500 ∧
    x = .ok (.lst [.int z, .lst ((List.range m).map fun k => .tup [.tup (rowL z (Rw k)), .int (W k)]), .int b])) (d := d__law_draw_list_v2) rfl rfl rfl fun P hP _ => ?_
  have p60 : opD T (call T (n + 3)) .pow (.int 10) (.int 60) = .ok (.int (10 ^ 60)) := pow_ok (b := 60) (by decide) (by decide)
  have p20 : opD T (call T (n + 3)) .pow (.int 10) (.int 20) = .ok (.int (10 ^ 20)) := pow_ok (b := 20) (by decide) (by decide)
  obtain ⟨c0, hc0⟩ := run_cell (n := n + 2) (k := 0) (ns := ns) (by decide)
  obtain ⟨c1, hc1⟩ := run_cell (n := n + 2) (k := 1) (ns := ns) (by decide)
  obtain ⟨f, hf, hfc⟩ := run_digits (n := n + 2) (k := 7) (c := c0) (zf := zfA) (by decide) fun i _ => zfA_pos i
  obtain ⟨p, hp, hpc⟩ := run_digits (n := n + 2) (k := 3) (c := c1) (zf := zfB) (by decide) fun i _ => zfB_pos i
  have f0 : 0 ≤ f 0 ∧ f 0 < 8 := hf 0 (by decide)
  have f1 : 0 ≤ f 1 ∧ f 1 < 11 := hf 1 (by decide)
  have f2 : 0 ≤ f 2 ∧ f 2 < 61 := hf 2 (by decide)
  have f3 : 0 ≤ f 3 ∧ f 3 < 6 := hf 3 (by decide)
  have f4 : 0 ≤ f 4 ∧ f 4 < 5 := hf 4 (by decide)
  have f5 : 0 ≤ f 5 ∧ f 5 < 7 := hf 5 (by decide)
  have f6 : 0 ≤ f 6 ∧ f 6 < 10 ^ 60 := hf 6 (by decide)
  have p0 : 0 ≤ p 0 ∧ p 0 < 12 := hp 0 (by decide)
  have p1 : 0 ≤ p 1 ∧ p 1 < 60 := hp 1 (by decide)
  have ix : ∀ i : Nat, i < 7 → ixD (rowD 7 f) (.int i) = .ok (.int (f i)) := fun i hi => ix_rngL _ hi
  refine p_set (rowD 7 f) (ev_callE (d := d__law_digits) rfl (evs_consE (ev_callE (d := d__law_cell) rfl (by rfl) hc0) (evs_consE (x := rowD 7 zfA) (ev_lstE (evs_consE rfl (evs_consE rfl (evs_consE rfl (evs_consE rfl (evs_consE rfl (evs_consE rfl (evs_consE (ev_binE rfl rfl p60) rfl)))))))) rfl)) hfc) ?_
  have hsize : ∃ z : Nat, z ≤ 10 ∧ evE T (call T (n + 3)) (.ite (.cmp .eq (.ix (.var 1) (.int 0)) (.int 7)) (.ix (.var 1) (.int 1)) (.ix (.lst (.cons (.int 2) (.cons (.int 3) (.cons (.int 3) (.cons (.int 2) (.cons (.int 4) (.cons (.int 3) (.cons (.int 1) (.cons (.int 4) (.cons (.int 2) (.cons (.int 5) (.cons (.int 0) .nil)))))))))))) (.ix (.var 1) (.int 1)))) [some (.scr ns), some (rowD 7 f), none, none, none, none, none, none, none, none, none, none, none, none, none] = .ok (.int z) := by
    have ht : evE T (call T (n + 3)) (.cmp .eq (.ix (.var 1) (.int 0)) (.int 7)) [some (.scr ns), some (rowD 7 f), none, none, none, none, none, none, none, none, none, none, none, none, none] = .ok (.bl (decide (f 0 = 7))) := ev_cmpE (ev_ixE rfl rfl (ix 0 (by decide))) rfl (cmp_eq_int _ _)
    have h1 : evE T (call T (n + 3)) (.ix (.var 1) (.int 1)) [some (.scr ns), some (rowD 7 f), none, none, none, none, none, none, none, none, none, none, none, none, none] = .ok (.int (f 1)) := ev_ixE rfl rfl (ix 1 (by decide))
    by_cases e : f 0 = 7
    · rw [decide_eq_true e] at ht
      refine ⟨(f 1).toNat, by omega, ev_iteT ht (h1.trans ?_)⟩
      congr 2; omega
    · rw [decide_eq_false e] at ht
      obtain ⟨x, x0, x1, hx⟩ := ints_ix (LL := [2, 3, 3, 2, 4, 3, 1, 4, 2, 5, 0]) (lo := 0) (hi := 10) (by decide) f1.1 (by show f 1 < 11; omega)
      refine ⟨x.toNat, by omega, ev_iteF ht (ev_ixE (x := .lst (lI [2, 3, 3, 2, 4, 3, 1, 4, 2, 5, 0])) rfl h1 (hx.trans ?_))⟩
      congr 2; omega
  obtain ⟨z, hz, hzc⟩ := hsize
  refine p_set (.int z) hzc ?_
  have hmany : ∃ m : Nat, m ≤ 60 ∧ evE T (call T (n + 3)) (.ite (.cmp .ge (.ix (.var 1) (.int 0)) (.int 6)) (.ix (.var 1) (.int 2)) (.ix (.lst (.cons (.int 3) (.cons (.int 4) (.cons (.int 1) (.cons (.int 2) (.cons (.int 6) (.cons (.int 5) (.cons (.int 8) (.cons (.int 0) (.cons (.int 7) .nil)))))))))) (.bin .mod (.bi .int (.cons (.ix (.var 1) (.int 2)) .nil)) (.int 9)))) [some (.scr ns), some (rowD 7 f), some (.int z), none, none, none, none, none, none, none, none, none, none, none, none] = .ok (.int m) := by
    have ht : evE T (call T (n + 3)) (.cmp .ge (.ix (.var 1) (.int 0)) (.int 6)) [some (.scr ns), some (rowD 7 f), some (.int z), none, none, none, none, none, none, none, none, none, none, none, none] = .ok (.bl (decide (6 ≤ f 0))) := ev_cmpE (ev_ixE rfl rfl (ix 0 (by decide))) rfl (cmp_ge_int _ _)
    have h1 : evE T (call T (n + 3)) (.ix (.var 1) (.int 2)) [some (.scr ns), some (rowD 7 f), some (.int z), none, none, none, none, none, none, none, none, none, none, none, none] = .ok (.int (f 2)) := ev_ixE rfl rfl (ix 2 (by decide))
    by_cases e : 6 ≤ f 0
    · rw [decide_eq_true e] at ht
      refine ⟨(f 2).toNat, by omega, ev_iteT ht (h1.trans ?_)⟩
      congr 2; omega
    · rw [decide_eq_false e] at ht
      obtain ⟨x, x0, x1, hx⟩ := ints_ix (LL := [3, 4, 1, 2, 6, 5, 8, 0, 7]) (lo := 0) (hi := 10) (by decide) (show 0 ≤ f 2 % 9 by omega) (by show f 2 % 9 < 9; omega)
      refine ⟨x.toNat, by omega, ev_iteF ht (ev_ixE (x := .lst (lI [3, 4, 1, 2, 6, 5, 8, 0, 7])) rfl (ev_binE (ev_biE (evs_consE h1 rfl) (int_int _)) rfl (op_mod (by decide))) (hx.trans ?_))⟩
      congr 2; omega
  obtain ⟨m0, hm0, hmc⟩ := hmany
  refine p_set (.int m0) hmc ?_
  obtain ⟨kind, hkind, ekind⟩ : ∃ kind : Nat, kind < 6 ∧ f 3 = (kind : Int) := ⟨(f 3).toNat, by omega, by omega⟩
  obtain ⟨heavy, eheavy⟩ : ∃ heavy : Nat, f 4 = (heavy : Int) := ⟨(f 4).toNat, by omega⟩
  refine p_set (.int kind) (ev_ixE rfl rfl (by rw [← ekind]; exact ix 3 (by decide))) ?_
  refine p_set (.int heavy) (ev_ixE rfl rfl (by rw [← eheavy]; exact ix 4 (by decide))) ?_
  let S := fun (m kd hv : Nat) => ([some (.scr ns), some (rowD 7 f), some (.int z), some (.int m), some (.int kd), some (.int hv), none, none, none, none, none, none, none, none, none] : Env)
  refine p_ifJ (α := Nat) (fun m => S m kind heavy) [] (fun m => m ≤ 60) (decide ((kind : Int) = 3 ∧ ((5 : Int) < z ∧ f 5 < 4))) (ev_and2 rfl (ev_and2 rfl (ev_cmpE (ev_ixE rfl rfl (ix 5 (by decide))) rfl (cmp_lt_int _ _)))) (fun _ => ⟨m0 % 13, by omega, ?_⟩) (fun _ => ⟨m0, hm0, rfl⟩) fun m hm => ?_
  · rw [exs_set (.int ((m0 : Int) % 13)) (ev_binE (ev_biE rfl (int_int _)) rfl (op_mod (by decide)))]; rfl
  refine p_ifJ (α := Nat) (fun hv => S m kind hv) [] (fun _ => True) (decide ((12 : Int) < m ∧ (((heavy : Int) = 3 ∧ (3 : Int) < z) ∨ ((heavy : Int) = 4 ∧ (kind : Int) = 3)))) (ev_and2 rfl (ev_or2 (ev_and2 rfl rfl) (ev_and2 rfl rfl))) (fun _ => ⟨0, trivial, rfl⟩) (fun _ => ⟨heavy, trivial, rfl⟩) fun hv _ => ?_
  refine p_ifJ (α := Nat) (fun kd => S m kd hv) [] (fun kd => kind = 5 → kd = 5) (decide ((12 : Int) < m ∧ ((kind : Int) = 3 ∧ (5 : Int) < z))) (ev_and2 rfl (ev_and2 rfl rfl)) (fun e => ⟨6, fun h => by have := of_decide_eq_true e; omega, rfl⟩) (fun _ => ⟨kind, fun h => h, rfl⟩) fun kd hkd => ?_
  have hdr : ∀ k : Nat, ∃ (g : Nat → Int) (w : Int), (∀ i, (g i).natAbs ≤ bR kd) ∧ (k < 100 → 1 ≤ w ∧ Sm w.natAbs 500 ∧ ∃ c : Int, call T (n + 3) 46 [.scr ns, .int ((3 + k : Nat) : Int)] = .ok (.int c) ∧ call T (n + 3) 95 [.int c, .int z, .int kd, .int hv] = .ok (.lst [rowD z g, .int w])) := fun k => by
    by_cases hk : k < 100
    · obtain ⟨c, hc⟩ := run_cell (n := n + 2) (k := 3 + k) (ns := ns) (by omega)
      obtain ⟨x, w, ⟨g, hg1, hg2⟩, h2, h3, h4⟩ := run_drawpair2 (n := n) (z := z) (kind := kd) (heavy := hv) (c := c) hz
      subst hg1
      exact ⟨g, w, hg2, fun _ => ⟨h2, h3, c, hc, h4⟩⟩
    · exact ⟨fun _ => 0, 0, fun _ => Nat.zero_le _, fun h => absurd h hk⟩
  let G := fun k => Classical.choose (hdr k)
  let W := fun k => Classical.choose (Classical.choose_spec (hdr k))
  have hGW : ∀ k, (∀ i, (G k i).natAbs ≤ bR kd) ∧ (k < 100 → 1 ≤ W k ∧ Sm (W k).natAbs 500 ∧ ∃ c : Int, call T (n + 3) 46 [.scr ns, .int ((3 + k : Nat) : Int)] = .ok (.int c) ∧ call T (n + 3) 95 [.int c, .int z, .int kd, .int hv] = .ok (.lst [rowD z (G k), .int (W k)])) := fun k => Classical.choose_spec (Classical.choose_spec (hdr k))
  generalize G = G at hGW
  generalize W = W at hGW
  have hGb : ∀ k i, (G k i).natAbs ≤ 1000000000000 := fun k i => Nat.le_trans ((hGW k).1 i) (by unfold bR; split <;> (try split) <;> omega)
  refine p_set (.lst ((List.range m).map fun k => .lst [rowD z (G k), .int (W k)])) (ev_lcR (k := m) (c := fun (i : Nat) => .int i) (evi_rngN rfl (by omega)) fun k hk => lcI_ok rfl ?_) ?_
  · obtain ⟨_, _, c, hc, hd⟩ := (hGW k).2 (by omega)
    have e3 : opD T (call T (n + 3)) .add (.int 3) (.int (k : Int)) = .ok (.int ((3 + k : Nat) : Int)) := by rw [op_add]; congr 2
    exact ev_callE (d := d__law_draw_pair_v1) rfl (evs_consE (ev_callE (d := d__law_cell) rfl (evs_consE rfl (evs_consE (ev_binE rfl rfl e3) rfl)) hc) (evs_consE rfl (evs_consE rfl (evs_consE rfl rfl)))) hd
  refine p_set1 (tabD m z G) (frk_lc ..) (ev_lcR (k := m) (c := fun k => .lst [rowD z (G k), .int (W k)]) (g := fun k => rowD z (G k)) (by rfl) fun k hk => lcI_ok rfl (ev_ixE rfl rfl (ix0 _ _))) ?_
  let S3 := fun t : Nat → Nat → Int => ([some (.scr ns), some (rowD 7 f), some (.int z), some (.int m), some (.int kd), some (.int hv), some (.lst ((List.range m).map fun k => .lst [rowD z (G k), .int (W k)])), some (tabD m z t), none, none, none, none, none, none, none] : Env)
  refine p_ifJ (α := Nat → Nat → Int) S3 [(7, 1)] (fun t => ∀ k i, (t k i).natAbs ≤ 1000000000000) (decide (f 3 = 5 ∧ ((2 : Int) < z ∧ (2 : Int) < m))) (ev_and2 (ev_cmpE (ev_ixE rfl rfl (ix 3 (by decide))) rfl (cmp_eq_int _ _)) (ev_and2 rfl rfl)) (fun e => ?_) (fun _ => ⟨G, hGb, rfl⟩) fun t ht => ?_
  · obtain ⟨e1, e2, e3⟩ := of_decide_eq_true e
    have hk5 : kd = 5 := hkd (by omega)
    have hG3 : ∀ k i, (G k i).natAbs ≤ 3 := fun k i => by
      have := (hGW k).1 i
      have e : bR kd = 3 := by rw [hk5]; rfl
      rwa [e] at this
    refine p_for (P := fun x => ∃ t, (∀ k i, (t k i).natAbs ≤ 1000000000000) ∧ x = .ok (.nx (S3 t) [(7, 1)])) (α := Nat → Nat → Int) (m - 2) (fun i => .int ((2 + i : Nat) : Int)) S3 (fun _ => [(7, 1)]) (fun i t => (∀ k i, (t k i).natAbs ≤ 1000000000000) ∧ t 0 = G 0 ∧ t 1 = G 1 ∧ ∀ k, 2 + i ≤ k → t k = G k) (fun _ => False) (fun _ _ => False) G
      (fun i t => (S3 t).set 10 (some (.int ((2 + i : Nat) : Int)))) (evi_rngN2 (m := 2) rfl rfl (by omega) (by decide)) rfl rfl ⟨hGb, rfl, rfl, fun _ _ => rfl⟩ (fun i hi t ht => rfl) (fun i hi t ht P' hn _ _ => ?_) (fun t ht => ⟨t, ht.1, rfl⟩) (fun _ z => z.elim) (fun _ _ z => z.elim)
    obtain ⟨t1, t2, t3, t4⟩ := ht
    have hki : 2 + i < m := by omega
    have hti := t4 (2 + i) (Nat.le_refl _)
    have r1 : ixD (tabD m z t) (.int ((2 + i : Nat) : Int)) = .ok (rowD z (t (2 + i))) := ix_rngL _ hki
    have r0 : ∀ (q : Nat) (j : Nat), q < m → j < z → ixD (tabD m z t) (.int q) = .ok (rowD z (t q)) ∧ ixD (rowD z (t q)) (.int j) = .ok (.int (t q j)) := fun q j hq hj => ⟨ix_rngL _ hq, ix_rngL _ hj⟩
    refine p_seti (t (2 + i) 0) (ev_ixE (ev_ixE rfl rfl r1) rfl (r0 (2 + i) 0 hki (by omega)).2) ?_
    refine p_seti (t (2 + i) 1) (ev_ixE (ev_ixE rfl rfl r1) rfl (r0 (2 + i) 1 hki (by omega)).2) ?_
    have b1 : ∀ j, (t (2 + i) j).natAbs ≤ 3 := fun j => by rw [hti]; exact hG3 _ _
    have b2 : ∀ j, (t 0 j).natAbs ≤ 3 := fun j => by rw [t2]; exact hG3 _ _
    have b3 : ∀ j, (t 1 j).natAbs ≤ 3 := fun j => by rw [t3]; exact hG3 _ _
    refine p_setixz (tabL m z t) (rowD z fun j => t (2 + i) 0 * t 0 j + t (2 + i) 1 * t 1 j) (2 + i) rfl (ev_lcR (k := z) (c := fun (j : Nat) => .int j) (g := fun j => .int (t (2 + i) 0 * t 0 j + t (2 + i) 1 * t 1 j)) (evi_rngN rfl (by omega)) fun j hj => lcI_ok rfl (ev_binE (ev_binE rfl (ev_ixE (ev_ixE rfl rfl (r0 0 j (by omega) hj).1) rfl (r0 0 j (by omega) hj).2) (op_mul (lit_mul (by have := b1 0; omega) (by have := b2 j; omega)))) (ev_binE rfl (ev_ixE (ev_ixE rfl rfl (r0 1 j (by omega) hj).1) rfl (r0 1 j (by omega) hj).2) (op_mul (lit_mul (by have := b1 1; omega) (by have := b3 j; omega)))) (op_add _ _))) rfl (by rw [fzO_row (frk_lc ..)]; rfl) (by rw [rng_len]; exact hki) ?_
    rw [fzO_row (frk_lc ..), rng_set]
    have et : ((List.range m).map fun q => if q = 2 + i then rowD z (fun j => t (2 + i) 0 * t 0 j + t (2 + i) 1 * t 1 j) else rowD z (t q)) = tabL m z (upd t (2 + i) fun j => t (2 + i) 0 * t 0 j + t (2 + i) 1 * t 1 j) := rng_congr fun q _ => by
      by_cases h : q = 2 + i
      · rw [if_pos h, h, upd_self]
      · rw [if_neg h, upd_ne h]
    rw [et]
    refine p_nil (hn _ _ (upd t (2 + i) fun j => t (2 + i) 0 * t 0 j + t (2 + i) 1 * t 1 j) rfl rfl ⟨fun k j => ?_, by rw [upd_ne (by omega)]; exact t2, by rw [upd_ne (by omega)]; exact t3, fun k hk => by rw [upd_ne (by omega)]; exact t4 k (by omega)⟩)
    by_cases h : k = 2 + i
    · rw [h, upd_self]
      have a1 : (t (2 + i) 0 * t 0 j).natAbs ≤ 3 * 3 := by rw [Int.natAbs_mul]; exact Nat.mul_le_mul (b1 0) (b2 j)
      have a2 : (t (2 + i) 1 * t 1 j).natAbs ≤ 3 * 3 := by rw [Int.natAbs_mul]; exact Nat.mul_le_mul (b1 1) (b3 j)
      omega
    · rw [upd_ne h]; exact t1 k j
  refine p_set (rowD 3 p) (ev_callE (d := d__law_digits) rfl (evs_consE (ev_callE (d := d__law_cell) rfl (by rfl) hc1) (evs_consE (x := rowD 3 zfB) rfl rfl)) hpc) ?_
  obtain ⟨ys, hyl, hyR, hyc⟩ := run_planted (n := n + 2) (z := z) (B := 1000000000000) (B2 := bM) (xs := tabL m z t) (p := p) (wide := decide (f 3 = 3)) hz (fun x hx => by
    obtain ⟨k, hk, rfl⟩ := List.mem_map.mp hx
    exact ⟨t k, rfl, ht k⟩) (by rw [rng_len]; exact hm) p0 p1 (by unfold Sm; decide) rfl
  rw [rng_len] at hyl
  obtain ⟨Rw, hRw, hRb⟩ := rb_list hyR
  rw [hyl] at hRw
  subst hRw
  refine p_setz (.lst ((List.range m).map fun k => rowD z (Rw k))) (ev_callE (d := d__law_planted) rfl (evs_consE rfl (evs_consE rfl (evs_consE rfl (evs_consE (ev_cmpE (ev_ixE rfl rfl (ix 3 (by decide))) rfl (cmp_eq_int _ _)) rfl)))) hyc) ?_
  rw [setO_fzO0]
  have m7 : opD T (call T (n + 3)) .mul (.int 7) (.int (10 ^ 20)) = .ok (.int (7 * 10 ^ 20)) := op_mul (lit_mul (by decide) (by decide))
  obtain ⟨b, hb0, hb1, hbc⟩ := ints_ix (LL := [1, 1, 2, 12, 30, 7 * 10 ^ 20, 1 + f 6]) (lo := 1) (hi := 10 ^ 60) (fun x hx => by
    simp only [List.mem_cons, List.not_mem_nil, or_false] at hx
    rcases hx with rfl | rfl | rfl | rfl | rfl | rfl | rfl <;> constructor <;> first | decide | omega) f5.1 (by show f 5 < 7; omega)
  refine p_set (.int b) (ev_ixE (x := .lst (lI [1, 1, 2, 12, 30, 7 * 10 ^ 20, 1 + f 6])) (ev_lstE (evs_consE rfl (evs_consE rfl (evs_consE rfl (evs_consE rfl (evs_consE rfl (evs_consE (ev_binE rfl (ev_binE rfl rfl p20) m7) (evs_consE (ev_binE rfl (ev_ixE rfl rfl (ix 6 (by decide))) (op_add _ _)) rfl)))))))) (ev_ixE rfl rfl (ix 5 (by decide))) hbc) ?_
  refine p_ret (.lst [.int z, .lst ((List.range m).map fun k => .tup [.tup (rowL z (Rw k)), .int (W k)]), .int b]) (ev_lstE (evs_consE rfl (evs_consE (ev_lcR (k := m) (c := fun (i : Nat) => .int i) (g := fun k => .tup [.tup (rowL z (Rw k)), .int (W k)]) (evi_rngN rfl (by omega)) fun k hk => lcI_ok rfl (ev_tupE (evs_consE (ev_biE (evs_consE (ev_ixE rfl rfl (ix_rngL _ hk)) rfl) (tuple_lst _)) (evs_consE (ev_ixE (ev_ixE rfl rfl (ix_rngL _ hk)) rfl (ix1 _ _ _)) rfl)))) (evs_consE rfl rfl)))) (hP _ ⟨z, m, Rw, W, b, hz, hm, hRb, fun k hk => ⟨((hGW k).2 (by omega)).1, ((hGW k).2 (by omega)).2.1⟩, hb0, ?_, rfl⟩)
  have : Sm ((10 : Int) ^ 60).natAbs 500 := sm_mono (show Sm _ 250 by unfold Sm; decide) (by decide)
  exact sm_le (by omega) this
end Fc

set_option Elab.async false
set_option linter.all false
set_option maxRecDepth 100000
set_option maxHeartbeats 4000000
namespace Fc
theorem fac_12 (i : Nat) (h : i ≤ 12) : Sm (fac i) 100 := by
  have : ∀ i, i < 13 → fac i < 2 ^ 100 := by decide
  exact this i (by omega)
theorem sm_pow {a k i : Nat} (h : a ≤ 2 ^ k) : Sm (a ^ i) (k * i + 1) := by
  have h1 : a ^ i ≤ (2 ^ k) ^ i := Nat.pow_le_pow_left h i
  rw [← Nat.pow_mul] at h1
  exact Nat.lt_of_le_of_lt h1 (Nat.pow_lt_pow_right (by decide) (by omega))
theorem gcdI_six (a b : Int) : gcdI (6 * a) (6 * b) = 6 * gcdI a b := by
  unfold gcdI
  rw [Int.natAbs_mul, Int.natAbs_mul]
  show ((Nat.gcd (6 * a.natAbs) (6 * b.natAbs) : Nat) : Int) = _
  rw [Nat.gcd_mul_left]
  rfl
theorem gcdL_six : ∀ (ns : List Int) (b : Int), gcdL (6 * b) (ns.map fun x => 6 * x) = 6 * gcdL b ns
  | [], _ => rfl
  | x :: ns, b => by
    show gcdL (gcdI (6 * b) (6 * x)) (ns.map fun x => 6 * x) = 6 * gcdL (gcdI b x) ns
    rw [gcdI_six, gcdL_six ns]
theorem gcdL_six' (m : Nat) (W : Nat → Int) (b : Int) : gcdL (6 * b) (wL m fun k => 6 * W k) = 6 * gcdL b (wL m W) := by
  rw [← gcdL_six]
  unfold wL
  rw [List.map_map]; rfl
theorem mkR_six (z m : Nat) (Rw : Nat → Nat → Int) (W : Nat → Int) (b : Int) : mkR z m Rw (fun k => 6 * W k) (6 * b) = mkR z m Rw W b := by
  have e1 : lwW m (fun k => 6 * W k) (6 * b) = lwW m W b := by
    funext k
    unfold lwW
    rw [gcdL_six', Int.mul_ediv_mul_of_pos _ _ (by decide)]
  have e2 : lwB m (fun k => 6 * W k) (6 * b) = lwB m W b := by
    unfold lwB
    rw [gcdL_six', Int.mul_ediv_mul_of_pos _ _ (by decide)]
  unfold mkR
  rw [e1, e2]
section
variable {T : Tab} {F : Nat → List D → R D}
theorem cmp_ne_bl (a b : Bool) : cmpD T F .ne (.bl a) (.bl b) = .ok (.bl (!(a == b))) := by
  show (match eqD (.bl a) (.bl b) with
    | .ok b => R.ok (D.bl (!b))
    | _ => .no) = _
  have : eqD (.bl a) (.bl b) = .ok (a == b) := by
    unfold eqD
    show R.ok (PySem.PyData.eqv (.bool a) (.bool b)) = _
    simp [PySem.PyData.eqv]
  rw [this]
theorem cmp_eq_non : cmpD T F .eq .non .non = .ok (.bl true) := by
  show (match eqD .non .non with
    | .ok b => R.ok (D.bl b)
    | _ => .no) = _
  rw [eqD_refl ⟨.none, rfl⟩]
theorem ev_cisE {o : Cs} {a : E} {s : Env} {x : D} {r : R D} (h : evE T F a s = .ok x) (hr : cisD o x = r) : evE T F (.cis o a) s = r := by rw [ev_cis, h, bind_ok]; exact hr
end
end Fc

set_option Elab.async false
set_option linter.all false
set_option maxRecDepth 100000
set_option maxHeartbeats 4000000
namespace Fc
theorem ev_mkN {T : Tab} {F : Nat → List D → R D} {c f : Nat} {es : Es} {d : D} {xs : List D} {r : R D} {s : Env} (hf : T.init c = some (f, some d)) (hx : evEs T F es s = .ok xs) (hr : F f (.obj c [] [] :: (xs ++ [d])) = r) : evE T F (.mk c es .none) s = r := by
  show (match T.init c with
    | some (f, none) => (evEs T F es s >>= fun xs => F f (.obj c [] [] :: xs))
    | some (f, some d) => (evEs T F es s >>= fun xs => evOd T F .none s >>= fun k => F f (.obj c [] [] :: (xs ++ [k.getD d])))
    | none => .no) = r
  rw [hf]
  show (evEs T F es s >>= fun xs => (R.ok none : R (Option D)) >>= fun k => F f (.obj c [] [] :: (xs ++ [k.getD d]))) = r
  rw [hx]
  exact hr
theorem run_pickedG {n z m B q : Nat} {Rw : Nat → Nat → Int} {W : Nat → Int} {b : Int} {fm : D} (ix : Nat → Nat) (hz : z ≤ 100) (hB : ∀ k i, (Rw k i).natAbs ≤ B) (hs : Sm B 1000) (hW : ∀ k, k < m → 1 ≤ W k) (hW2 : ∀ k, k < m → Sm (W k).natAbs 8000) (hb : 0 < b) (hbs : Sm b.natAbs 8000) (hq : ∀ k, k < q → ix k < m) :
    call T (n + 6) 37 [rlD z m Rw W b fm, .lst ((List.range q).map fun k => .int (ix k))] = .ok (mkR z q (fun k => Rw (ix k)) (fun k => W (ix k)) b) := by
  refine call_P (Q := fun x => x = .ok (mkR z q (fun k => Rw (ix k)) (fun k => W (ix k)) b)) (d := d_RowList_picked) rfl rfl rfl fun P hP _ => ?_
  have hi := run_rowinit (n := n) (z := z) (m := q) (Rw := fun k => Rw (ix k)) (W := fun k => W (ix k)) true false false hz (fun k i => hB _ i) hs (fun k hk => hW _ (hq k hk)) (fun k hk => hW2 _ (hq k hk)) hb hbs
  refine p_ret (mkR z q (fun k => Rw (ix k)) (fun k => W (ix k)) b) (ev_mkE (f := 31) (d := .int 1) (k := .int b) rfl (evs_consE rfl (evs_consE (ev_lcR (k := q) (c := fun k => .int (ix k)) (g := fun k => .tup [.tup (rowL z (Rw (ix k))), .int (W (ix k))]) (by rfl) fun k hk => lcI_ok rfl (ev_ixE rfl rfl (ix_rngT _ (hq k hk)))) rfl)) rfl hi) (hP _ rfl)
abbrev lnD (z m : Nat) (C : Nat → Nat → Int) : D := .lst ((List.range m).map fun k => .tup (rowL z (C k)))
abbrev tdD (r : Nat) (s : Nat → Nat) : D := .tup ((List.range r).map fun j => .int (s j))
theorem bM_sm : Sm bM 100 := by unfold bM Sm; decide
theorem minors11 {i : Nat} (h : i ≤ 12) : Sm (fac i * bM ^ i) 1500 := sm_mono (sm_mul (fac_12 i h) (sm_pow (a := bM) (k := 41) (by unfold bM; decide))) (by omega)
theorem rank_lines {n z m : Nat} {C : Nat → Nat → Int} (hz : z ≤ 10) (hm : m < 10000) (hB : ∀ k i, (C k i).natAbs ≤ bM) : ∃ r : Nat, call T (n + 4) 52 [lnD z m C] = .ok (.int r) ∧ ((r = m → Indep C m z) ∧ (r ≠ m → Dep C m z)) ∧ ∃ K l V, KInv C z bM m r K l V := by
  have hN : Sm (2 ^ 1500) 2000 := Nat.pow_lt_pow_right (by decide) (by decide)
  have hbn : bM ≤ 2 ^ 1500 := Nat.le_of_lt (sm_mono bM_sm (show 100 ≤ 1500 by decide))
  exact run_lrankG (n := n) (cc := fun k => .tup (rowL z (C k))) (N := 2 ^ 1500) (fun k _ => ⟨rfl, list_tup _⟩) (by omega) hm hB hbn hN fun i h1 h2 => Nat.le_of_lt (minors11 (by omega))
theorem run_isbasis {n z m r : Nat} {C : Nat → Nat → Int} {s : Nat → Nat} (hz : z ≤ 10) (hr : r ≤ z) (hB : ∀ k i, (C k i).natAbs ≤ bM) (hasc : ∀ i j, i < j → j < r → s i < s j) (hlt : ∀ j, j < r → s j < m) (hind : Indep (fun j => C (s j)) r z) : call T (n + 5) 98 [lnD z m C, tdD r s, .int r] = .ok (.bl true) := by
  refine call_P (Q := fun x => x = .ok (.bl true)) (d := d__law_is_basis_v1) rfl rfl rfl fun P hP _ => ?_
  refine p_if false (ev_notE (b := true) (ev_callE (d := d__law_is_point) rfl (by rfl) (run_ispoint (n := n + 2) (m := r) fun j => (s j : Int)))) (fun z => nomatch z) fun _ => ?_
  have ixs : ∀ j, j < r → ixD (tdD r s) (.int j) = .ok (.int (s j)) := fun j hj => ix_rngT _ hj
  have hlen : bfD T (call T (n + 4)) .len [lnD z m C] = .ok (.int m) := by rw [len_lst, rng_len]
  refine p_for (α := Unit) r (fun (k : Nat) => .int k) (fun _ => [some (lnD z m C), some (tdD r s), some (.int r), none, none]) (fun _ => []) (fun _ _ => True) (fun _ => False) (fun _ _ => False) ()
    (fun k _ => [some (lnD z m C), some (tdD r s), some (.int r), some (.int k), none]) (evi_rngN rfl (by omega)) rfl rfl trivial (fun i hi a ha => rfl) (fun k hk a ha P' hn _ _ => ?_) (fun a ha => ?_) (fun _ z => z.elim) (fun _ _ z => z.elim)
  · have hsk := hlt k hk
    refine p_if false ?_ (fun z => nomatch z) fun _ => ?_
    · have h1 := ev_or2 (T := T) (F := call T (n + 4)) (s := [some (lnD z m C), some (tdD r s), some (.int r), some (.int k), none]) (a := .cmp .lt (.ix (.var 1) (.var 3)) (.int 0)) (b := .cmp .ge (.ix (.var 1) (.var 3)) (.bi .len (.cons (.var 0) .nil))) (p := (s k : Int) < 0) (q := (m : Int) ≤ (s k : Int)) (ev_cmpE (ev_ixE rfl rfl (ixs k hk)) rfl (cmp_lt_int _ _)) (ev_cmpE (ev_ixE rfl rfl (ixs k hk)) (ev_biE rfl hlen) (cmp_ge_int _ _))
      rw [decide_eq_false (by omega)] at h1
      exact h1
    refine p_if false ?_ (fun z => nomatch z) fun _ => p_nil (hn _ _ () rfl rfl trivial)
    by_cases h0 : k = 0
    · subst h0
      exact ev_andF (ev_cmpE rfl rfl (by rw [cmp_gt_int]; rfl))
    · refine ev_andT (ev_cmpE rfl rfl (by rw [cmp_gt_int, decide_eq_true (by omega)])) (ev_cmpE (ev_ixE rfl (ev_binE rfl rfl (op_sub _ _)) (show ixD (tdD r s) (.int ((k : Int) - 1)) = .ok (.int (s (k - 1))) from by
        have : (k : Int) - 1 = ((k - 1 : Nat) : Int) := by omega
        rw [this]; exact ixs _ (by omega))) (ev_ixE rfl rfl (ixs k hk)) ?_)
      have := hasc (k - 1) k (by omega) hk
      rw [cmp_ge_int, decide_eq_false (by omega)]
  · obtain ⟨r', hr', ⟨_, hdep⟩, _⟩ := rank_lines (n := n) (z := z) (m := r) (C := fun j => C (s j)) hz (by omega) (fun k i => hB _ i)
    have e : r' = r := Classical.byContradiction fun h => dep_not (hdep h) hind
    refine p_ret (.bl true) (ev_cmpE (ev_callE (d := d__law_rank) rfl (evs_consE (ev_lcR (k := r) (c := fun j => .int (s j)) (g := fun j => .tup (rowL z (C (s j)))) (by rfl) fun j hj => lcI_ok rfl (ev_ixE rfl rfl (ix_rngL _ (hlt j hj)))) rfl) hr') rfl (by rw [e, cmp_eq_int, decide_eq_true rfl])) (hP _ rfl)
theorem Bas.scale {C : Nat → Nat → Int} {W W' : Nat → Int} {z m r : Nat} {s : Nat → Nat} {X : Nat → Nat → Int} {dv g : Int} (I : Bas C W z m r s X dv) (hg : 0 < g) (hW : ∀ k, k < m → W' k = g * W k) : Bas C W' z m r s X dv where
  asc := I.asc
  lt := I.lt
  nz := I.nz
  rel := I.rel
  ind := I.ind
  gain := fun i hi j hj => by
    rw [hW i hi, hW _ (I.lt j hj)]
    have h1 := I.gain i hi j hj
    have h2 := Int.mul_le_mul_of_nonneg_left h1 (show 0 ≤ g by omega)
    have e1 : g * W i * X j i * X j i = g * (W i * X j i * X j i) := by ac_rfl
    have e2 : 2 * (g * W (s j)) * dv * dv = g * (2 * W (s j) * dv * dv) := by ac_rfl
    rw [e1, e2]; exact h2
theorem run_gainslittle {n z m r : Nat} {C : Nat → Nat → Int} {W : Nat → Int} {s : Nat → Nat} {X : Nat → Nat → Int} {dv : Int} (hz : z ≤ 10) (hm : m < 1000) (hr : r ≤ z) (hrm : r ≤ m) (hB : ∀ k i, (C k i).natAbs ≤ bM) (hW : ∀ k, k < m → Sm (W k).natAbs 500) (I : Bas C W z m r s X dv) : call T (n + 5) 99 [lnD z m C, rowD m W, tdD r s] = .ok (.bl true) := by
  refine call_P (Q := fun x => x = .ok (.bl true)) (d := d__law_gains_little) rfl rfl rfl fun P hP _ => ?_
  have h1 : 1 ≤ bM := by unfold bM; decide
  obtain ⟨NN, un, hu0, hus, hNN, hcall⟩ := run_lsolved (n := n) (z := z) (m := m) (r := r) (B := bM) (Q := fun j => C (s j)) (C := C) (X := X) (dv := dv) hz hm hrm hr hB (fun k i => hB _ i) h1 (fun i hi => minors11 (by omega)) I.ind I.nz I.rel
  refine p_set (.lst [tabD r m NN, .int un]) (ev_callE (d := d__law_solved) rfl (evs_consE (ev_lcR (k := r) (c := fun j => .int (s j)) (g := fun j => .tup (rowL z (C (s j)))) (by rfl) fun j hj => lcI_ok rfl (ev_ixE rfl rfl (ix_rngL _ (I.lt j hj)))) (evs_consE rfl rfl)) hcall) ?_
  refine p_if false (ev_cisE rfl rfl) (fun z => nomatch z) fun _ => ?_
  let S := ([some (lnD z m C), some (rowD m W), some (tdD r s), some (.lst [tabD r m NN, .int un]), none, none, none, none] : Env)
  refine p_for (α := Unit) r (fun (j : Nat) => .int j) (fun _ => S) (fun _ => []) (fun _ _ => True) (fun _ => False) (fun _ _ => False) ()
    (fun j _ => S.set 4 (some (.int j))) (evi_rngN (ev_biE rfl (by rw [len_tup, rng_len])) (by omega)) rfl rfl trivial (fun i hi a ha => rfl) (fun j hj a ha P' hn _ _ => ?_) (fun a ha => ?_) (fun _ z => z.elim) (fun _ _ z => z.elim)
  · refine p_for (α := Unit) m (fun (i : Nat) => .int i) (fun _ => S.set 4 (some (.int j))) (fun _ => []) (fun _ _ => True) (fun _ => False) (fun _ _ => False) ()
      (fun i _ => (S.set 4 (some (.int j))).set 5 (some (.int i))) (evi_rngN (ev_biE rfl (by rw [len_lst, rng_len])) (by omega)) rfl rfl trivial (fun i hi a ha => rfl) (fun i hi a ha P'' hn' _ _ => ?_) (fun a ha => p_nil (hn _ _ () rfl rfl trivial)) (fun _ z => z.elim) (fun _ _ z => z.elim)
    obtain ⟨hq, hsn⟩ := hNN j hj i hi
    have sj := I.lt j hj
    refine p_set (.int (NN j i)) (ev_ixE (ev_ixE (ev_ixE rfl rfl (ix0 _ _)) rfl (ix_rngL _ hj)) rfl (ix_rngL _ hi)) ?_
    have s1 : Sm (W i * NN j i).natAbs 40500 := by rw [Int.natAbs_mul]; exact sm_mono (sm_mul (hW i hi) hsn) (by decide)
    have s2 : Sm (2 * W (s j)).natAbs 600 := by rw [Int.natAbs_mul]; exact sm_mono (sm_mul (show Sm (2 : Int).natAbs 3 by unfold Sm; decide) (hW _ sj)) (by decide)
    have s3 : Sm (2 * W (s j) * un).natAbs 30600 := by rw [Int.natAbs_mul]; exact sm_mono (sm_mul s2 hus) (by decide)
    -- what the law asks
    have hle : W i * NN j i * NN j i ≤ 2 * W (s j) * un * un := by
      have g1 := I.gain i hi j hj
      have hd2 : 0 < dv * dv := by
        rcases Int.lt_or_gt_of_ne I.nz with y | y
        · exact Int.mul_pos_of_neg_of_neg y y
        · exact Int.mul_pos y y
      have g2 := Int.mul_le_mul_of_nonneg_left g1 (show 0 ≤ un * un from Int.mul_nonneg (by omega) (by omega))
      have e1 : un * un * (W i * X j i * X j i) = dv * dv * (W i * NN j i * NN j i) := by
        have : un * un * (W i * X j i * X j i) = W i * (un * X j i) * (un * X j i) := by ac_rfl
        rw [this, ← hq]; ac_rfl
      have e2 : un * un * (2 * W (s j) * dv * dv) = dv * dv * (2 * W (s j) * un * un) := by ac_rfl
      rw [e1, e2] at g2
      exact Int.le_of_mul_le_mul_left g2 hd2
    refine p_if false (ev_cmpE (ev_binE (ev_binE (ev_ixE rfl rfl (ix_rngL _ hi)) rfl (op_mul (sm_mulOk (hW i hi) hsn (by decide)))) rfl (op_mul (sm_mulOk s1 hsn (by decide)))) (ev_binE (ev_binE (ev_binE rfl (ev_ixE rfl (ev_ixE rfl rfl (ix_rngT _ hj)) (ix_rngL _ sj)) (op_mul (sm_mulOk (show Sm (2 : Int).natAbs 3 by unfold Sm; decide) (hW _ sj) (by decide)))) (ev_ixE rfl rfl (ix1 _ _ _)) (op_mul (sm_mulOk s2 hus (by decide)))) (ev_ixE rfl rfl (ix1 _ _ _)) (op_mul (sm_mulOk s3 hus (by decide)))) (by rw [cmp_gt_int, decide_eq_false (by omega)])) (fun z => nomatch z) fun _ => p_nil (hn' _ _ () rfl rfl trivial)
  · exact p_ret (.bl true) rfl (hP _ rfl)
/-! two bases have as many rows -/
theorem bas_len {C : Nat → Nat → Int} {W W' : Nat → Int} {z m r r' : Nat} {s s' : Nat → Nat} {X X' : Nat → Nat → Int} {dv dv' : Int} (I : Bas C W z m r s X dv) {C' : Nat → Nat → Int} (I' : Bas C' W' z m r' s' X' dv') (h : ∀ k, k < m → ∃ k', k' < m ∧ C' k' = C k) (h' : ∀ k, k < m → ∃ k', k' < m ∧ C k' = C' k) : r = r' := by
  have a1 : r ≤ r' := steinitz I.ind fun i hi => by
    obtain ⟨k', hk, e⟩ := h (s i) (I.lt i hi)
    exact ⟨dv', fun p => X' p k', I'.nz, fun c hc => by
      have := I'.rel k' hk c hc
      rw [e] at this; exact this⟩
  have a2 : r' ≤ r := steinitz I'.ind fun i hi => by
    obtain ⟨k', hk, e⟩ := h' (s' i) (I'.lt i hi)
    exact ⟨dv, fun p => X p k', I.nz, fun c hc => by
      have := I.rel k' hk c hc
      rw [e] at this; exact this⟩
  omega
theorem bas_rank {C : Nat → Nat → Int} {W : Nat → Int} {z m r ρ B : Nat} {s : Nat → Nat} {X : Nat → Nat → Int} {dv : Int} {K : Nat → Nat → Int} {l : Nat → Nat} {V : Nat → Nat → Int} (I : Bas C W z m r s X dv) (J : KInv C z B m ρ K l V) : ρ = r := by
  have a1 : r ≤ ρ := steinitz I.ind fun i hi => J.gen (s i) (I.lt i hi)
  have a2 : ρ ≤ r := steinitz (kinv_ind J) fun p hp => by
    obtain ⟨e, he⟩ := J.sp p hp
    refine ⟨dv, fun q => sumN m fun j => e j * X q j, I.nz, fun c hc => ?_⟩
    have h1 : dv * K p c = sumN m fun j => sumN r fun q => C (s q) c * (e j * X q j) := by
      rw [he c, ← sumN_mul]
      refine sumN_congr fun j hj => ?_
      rw [Int.mul_left_comm, I.rel j hj c hc, ← sumN_mul]
      exact sumN_congr fun q _ => by ac_rfl
    rw [h1, sumN_swap]
    exact sumN_congr fun q _ => by rw [sumN_mul, Int.mul_comm]
  omega
end Fc

set_option Elab.async false
set_option linter.all false
set_option maxRecDepth 100000
set_option maxHeartbeats 4000000
namespace Fc
section
variable {T : Tab} {F : Nat → List D → R D} {P : R Fl → Prop} {r : Ss} {s : Env} {o : Ow}
theorem p_ifK {t : E} {a b : Ss} (Inv : Env → Ow → Prop) (v : Bool) (h : evE T F t s = .ok (.bl v)) (ht : v = true → ∀ P' : R Fl → Prop, (∀ s o, Inv s o → P' (.ok (.nx s o))) → P' (exSs T F a s o)) (hf : v = false → ∀ P' : R Fl → Prop, (∀ s o, Inv s o → P' (.ok (.nx s o))) → P' (exSs T F b s o)) (hp : ∀ s o, Inv s o → P (exSs T F r s o)) : P (exSs T F (.cons (.if_ t a b) r) s o) := by
  rw [exs_cons, ex_if, h, bind_ok]
  cases v with
  | true => rw [ifR_true]; exact ht rfl (fun x => P (nxS (exSs T F r) x)) fun s o hi => hp s o hi
  | false => rw [ifR_false]; exact hf rfl (fun x => P (nxS (exSs T F r) x)) fun s o hi => hp s o hi
theorem ev_varE {i : Nat} {d : D} (h : s[i]? = some (some d)) : evE T F (.var i) s = .ok d := by rw [ev_var, h]; rfl
end
theorem bas_le {C : Nat → Nat → Int} {W : Nat → Int} {z m r : Nat} {s : Nat → Nat} {X : Nat → Nat → Int} {dv : Int} (I : Bas C W z m r s X dv) : r ≤ m :=
  pigeon s I.lt fun i j hij hj => by have := I.asc i j hij hj; omega
theorem run_law2 {n : Nat} {ns : List Int} : call T (n + 7) 100 [.scr ns] = .ok (.bl true) := by
  refine call_P (Q := fun x => x = .ok (.bl true)) (d := d_law_v2) rfl rfl rfl fun P hP _ => ?_
  obtain ⟨z, m, Rw, W, b, hz, hm, hB, hW, hb, hbs, hdc⟩ := run_drawlist2 (n := n + 2) (ns := ns)
  have h1 : 1 ≤ bM := by unfold bM; decide
  have hBs : Sm bM 1000 := sm_mono bM_sm (by decide)
  -- a basis of a list that is made
  have bas : ∀ (C : Nat → Nat → Int) (W : Nat → Int) (b : Int), (∀ k i, (C k i).natAbs ≤ bM) → (∀ k, k < m → 1 ≤ W k) → (∀ k, k < m → Sm (W k).natAbs 500) → 0 < b → ∃ (r : Nat) (s : Nat → Nat) (X : Nat → Nat → Int) (dv : Int), r ≤ z ∧ Bas C W z m r s X dv ∧ call T (n + 6) 93 [mkR z m C W b] = .ok (tdD r s) := fun C W b hB hW1 hW2 hb => by
    obtain ⟨r, s, X, dv, hr, I, hc⟩ := run_basisof (n := n + 3) (z := z) (m := m) (Rw := C) (W := lwW m W b) (b0 := lwB m W b) (fm := frD z (wm m C (lwW m W b)) (lwB m W b)) (fr_noL ..) hz (by omega) hB h1 (fun r h1 h2 => sm_mono (minors11 (by omega)) (by decide)) hBs (fun k hk => lwW_pos hb hk (hW1 k hk)) fun k hk => lwW_sm hb hk (hW2 k hk)
    refine ⟨r, s, X, dv, hr, I.scale (gcdL_pos (ns := wL m W) hb) fun k hk => ?_, hc⟩
    exact (Int.mul_ediv_cancel' (lw_dvd hk)).symm
  have hW1 : ∀ k, k < m → 1 ≤ W k := fun k hk => (hW k hk).1
  have hW5 : ∀ k, k < m → Sm (W k).natAbs 500 := fun k hk => (hW k hk).2
  have hW2 : ∀ k, k < m → Sm (W k).natAbs 8000 := fun k hk => sm_mono (hW k hk).2 (by decide)
  have hbs2 : Sm b.natAbs 8000 := sm_mono hbs (by decide)
  have hrows := run_rowinit (n := n + 1) (z := z) (m := m) (Rw := Rw) (W := W) (b := b) true false false (by omega) hB hBs hW1 hW2 (by omega) hbs2
  have hsame := run_rowinit (n := n + 1) (z := z) (m := m) (Rw := Rw) (W := fun k => 6 * W k) (b := 6 * b) true true true (by omega) hB hBs (fun k hk => by have := hW1 k hk; omega) (fun k hk => by rw [Int.natAbs_mul]; exact sm_mono (sm_mul (show Sm (6 : Int).natAbs 3 by unfold Sm; decide) (hW k hk).2) (by decide)) (by omega) (by rw [Int.natAbs_mul]; exact sm_mono (sm_mul (show Sm (6 : Int).natAbs 3 by unfold Sm; decide) hbs) (by decide))
  rw [mkR_six] at hsame
  have hturn := run_rowinit (n := n + 1) (z := z) (m := m) (Rw := Rw) (W := fun k => W (m - 1 - k)) (b := 1) true true true (by omega) hB hBs (fun k hk => hW1 _ (by omega)) (fun k hk => hW2 _ (by omega)) (by decide) (by unfold Sm; decide)
  have hpick := run_pickedG (n := n) (z := z) (m := m) (q := m) (Rw := Rw) (W := lwW m W b) (b := lwB m W b) (fm := frD z (wm m Rw (lwW m W b)) (lwB m W b)) (fun k => m - 1 - k) (by omega) hB hBs (fun k hk => lwW_pos (by omega) hk (hW1 k hk)) (fun k hk => lwW_sm (by omega) hk (hW2 k hk)) (lwB_pos (by omega)) (lwB_sm (by omega) hbs2) (fun k hk => by omega)
  have heq := run_rowseq (n := n + 5) (z := z) (m := m) (Rw := Rw) (W := lwW m W b) (b := lwB m W b) (fm := frD z (wm m Rw (lwW m W b)) (lwB m W b))
  obtain ⟨r, s, X, dv, hr, I, hc⟩ := bas Rw W b hB hW1 hW5 (by omega)
  obtain ⟨r2, s2, X2, dv2, hr2, I2, hc2⟩ := bas Rw (fun k => W (m - 1 - k)) 1 hB (fun k hk => hW1 _ (by omega)) (fun k hk => hW5 _ (by omega)) (by decide)
  obtain ⟨r3, s3, X3, dv3, hr3, I3', hc3⟩ := bas (fun k => Rw (m - 1 - k)) (fun k => lwW m W b (m - 1 - k)) (lwB m W b) (fun k i => hB _ i) (fun k hk => lwW_pos (by omega) (by omega) (hW1 _ (by omega))) (fun k hk => lwW_sm (by omega) (by omega) (hW5 _ (by omega))) (lwB_pos (by omega))
  have I3 : Bas (fun k => Rw (m - 1 - k)) (fun k => W (m - 1 - k)) z m r3 s3 X3 dv3 := I3'.scale (gcdL_pos (b := b) (ns := wL m W) (by omega)) fun k hk => (Int.mul_ediv_cancel' (lw_dvd (b := b) (W := W) (show m - 1 - k < m by omega))).symm
  obtain ⟨ρ, hρ, _, K, l, V, J⟩ := rank_lines (n := n + 2) (z := z) (m := m) (C := Rw) hz (by omega) hB
  have eρ : ρ = r := bas_rank I J
  have e2 : r2 = r := (bas_len I I2 (fun k hk => ⟨k, hk, rfl⟩) fun k hk => ⟨k, hk, rfl⟩).symm
  have e3 : r3 = r := (bas_len I I3 (fun k hk => ⟨m - 1 - k, by omega, by show Rw (m - 1 - (m - 1 - k)) = Rw k; rw [show m - 1 - (m - 1 - k) = k by omega]⟩) fun k hk => ⟨m - 1 - k, by omega, rfl⟩).symm
  subst eρ
  subst e2
  subst e3
  have hib := run_isbasis (n := n + 1) (C := Rw) (s := s) hz hr hB I.asc I.lt I.ind
  have hib2 := run_isbasis (n := n + 1) (C := Rw) (s := s2) hz hr2 hB I2.asc I2.lt I2.ind
  have hib3 := run_isbasis (n := n + 1) (C := fun k => Rw (m - 1 - k)) (s := s3) hz hr3 (fun k i => hB _ i) I3.asc I3.lt I3.ind
  have hgl := run_gainslittle (n := n + 1) hz (by omega) hr (bas_le I) hB hW5 I
  have hgl2 := run_gainslittle (n := n + 1) hz (by omega) hr2 (bas_le I2) hB (fun k hk => hW5 _ (by omega)) I2
  have hgl3 := run_gainslittle (n := n + 1) hz (by omega) hr3 (bas_le I3) (fun k i => hB _ i) (fun k hk => hW5 _ (by omega)) I3
  let dr : D := .lst [.int z, .lst ((List.range m).map fun k => .tup [.tup (rowL z (Rw k)), .int (W k)]), .int b]
  refine p_set dr (ev_callE (d := d__law_draw_list_v2) rfl (by rfl) hdc) ?_
  refine p_set (lnD z m Rw) (ev_lcR (k := m) (c := fun k => .tup [.tup (rowL z (Rw k)), .int (W k)]) (g := fun k => .tup (rowL z (Rw k))) (by rfl) fun k hk => lcI_ok rfl (ev_ixE rfl rfl (ix_tup (i := 0) rfl))) ?_
  refine p_set (rowD m W) (ev_lcR (k := m) (c := fun k => .tup [.tup (rowL z (Rw k)), .int (W k)]) (g := fun k => .int (W k)) (by rfl) fun k hk => lcI_ok rfl (ev_ixE rfl rfl (ix_tup (i := 1) rfl))) ?_
  refine p_set (mkR z m Rw W b) (ev_mkE (f := 31) (d := .int 1) (k := .int b) rfl (evs_consE (ev_ixE rfl rfl (ix0 _ _)) (evs_consE (ev_ixE rfl rfl (ix1 _ _ _)) rfl)) (ev_ixE rfl rfl (ix_lst (i := 2) rfl)) hrows) ?_
  refine p_set (tdD r3 s) (ev_callE (d := d_basis_of) rfl (by rfl) hc) ?_
  have hlen : bfD T (call T (n + 6)) .len [lnD z m Rw] = .ok (.int m) := by rw [len_lst, rng_len]
  refine p_if false (ev_orF (ev_notE (b := true) (ev_callE (d := d__law_is_basis_v1) rfl (evs_consE rfl (evs_consE rfl (evs_consE (ev_callE (d := d__law_rank) rfl (by rfl) hρ) rfl))) hib)) (ev_notE (b := true) (ev_callE (d := d__law_gains_little) rfl (by rfl) hgl))) (fun z => nomatch z) fun _ => ?_
  refine p_set (.lst ((List.range m).map fun k => .lst [.lst (rowL z (Rw k)), .int (W (m - 1 - k))])) (ev_lcR (k := m) (c := fun (i : Nat) => .int i) (g := fun k => .lst [.lst (rowL z (Rw k)), .int (W (m - 1 - k))]) (evi_rngN (ev_biE rfl hlen) (by omega)) fun k hk => lcI_ok rfl (ev_lstE (evs_consE (ev_biE (evs_consE (ev_ixE rfl rfl (ix_rngL _ hk)) rfl) (list_tup _)) (evs_consE (ev_ixE rfl (ev_binE (ev_binE (ev_biE rfl hlen) rfl (op_sub _ _)) rfl (op_sub _ _)) (ix_rngI (j := m - 1 - k) (fun k => D.int (W k)) (by omega) (by omega))) rfl)))) ?_
  refine p_set (tdD r3 s2) (ev_callE (d := d_basis_of) rfl (evs_consE (ev_mkN (f := 31) (d := .int 1) rfl (evs_consE (ev_ixE rfl rfl (ix0 _ _)) (evs_consE rfl rfl)) hturn) rfl) hc2) ?_
  refine p_set (rowD m fun k => W (m - 1 - k)) (ev_lcR (k := m) (c := fun k => .lst [.lst (rowL z (Rw k)), .int (W (m - 1 - k))]) (g := fun k => .int (W (m - 1 - k))) (by rfl) fun k hk => lcI_ok rfl (ev_ixE rfl rfl (ix1 _ _ _))) ?_
  have hlt : ∀ s : Nat → Nat, bfD T (call T (n + 6)) .len [tdD r3 s] = .ok (.int r3) := fun s => by rw [len_tup, rng_len]
  refine p_if false (ev_orF (ev_notE (b := true) (ev_callE (d := d__law_is_basis_v1) rfl (evs_consE rfl (evs_consE rfl (evs_consE (ev_biE rfl (hlt s)) rfl))) hib2)) (ev_notE (b := true) (ev_callE (d := d__law_gains_little) rfl (by rfl) hgl2))) (fun z => nomatch z) fun _ => ?_
  refine p_ifK (fun s' o' => o' = [] ∧ s'.length = 13 ∧ s'[1]? = some (some dr) ∧ s'[4]? = some (some (mkR z m Rw W b)) ∧ s'[5]? = some (some (tdD r3 s))) (decide ((m : Int) ≤ 30)) (ev_cmpE (ev_biE rfl hlen) rfl rfl) (fun _ P' hn => ?_) (fun _ P' hn => p_nil (hn _ _ ⟨rfl, rfl, rfl, rfl, rfl⟩)) fun s' o' hI => ?_
  · refine p_set (.lst ((List.range m).map fun k => .int ((m - 1 - k : Nat) : Int))) (ev_lcR (k := m) (c := fun (i : Nat) => .int i) (g := fun k => .int ((m - 1 - k : Nat) : Int)) (evi_rngN (ev_biE rfl hlen) (by omega)) fun k hk => lcI_ok rfl (ev_binE (ev_binE (ev_biE rfl hlen) rfl (op_sub _ _)) rfl (by rw [op_sub]; congr 2; omega))) ?_
    refine p_set (tdD r3 s3) (ev_callE (d := d_basis_of) rfl (evs_consE (ev_methE (c := 8) (f := 37) (ks := [5, 8, 7, 9]) (ds := [.int z, prD z m Rw (lwW m W b), .int (lwB m W b), frD z (wm m Rw (lwW m W b)) (lwB m W b)]) rfl rfl (by rfl) hpick) rfl) hc3) ?_
    refine p_set (lnD z m fun k => Rw (m - 1 - k)) (ev_lcR (k := m) (c := fun k => .int ((m - 1 - k : Nat) : Int)) (g := fun k => .tup (rowL z (Rw (m - 1 - k)))) (by rfl) fun k hk => lcI_ok rfl (ev_ixE rfl rfl (ix_rngL (i := m - 1 - k) _ (by omega)))) ?_
    refine p_if false (ev_orF (ev_notE (b := true) (ev_callE (d := d__law_is_basis_v1) rfl (evs_consE rfl (evs_consE rfl (evs_consE (ev_biE rfl (hlt s)) rfl))) hib3)) (ev_notE (b := true) (ev_callE (d := d__law_gains_little) rfl (evs_consE rfl (evs_consE (ev_lcR (k := m) (c := fun k => .int ((m - 1 - k : Nat) : Int)) (g := fun k => .int (W (m - 1 - k))) (by rfl) fun k hk => lcI_ok rfl (ev_ixE rfl rfl (ix_rngL (i := m - 1 - k) _ (by omega)))) (evs_consE rfl rfl))) hgl3))) (fun z => nomatch z) fun _ => ?_
    exact p_nil (hn _ _ ⟨rfl, rfl, rfl, rfl, rfl⟩)
  · obtain ⟨rfl, hl, v1, v4, v5⟩ := hI
    have hm6 : ∀ k, k < m → opD T (call T (n + 6)) .mul (.int 6) (.int (W k)) = .ok (.int (6 * W k)) := fun k hk => op_mul (sm_mulOk (show Sm (6 : Int).natAbs 3 by unfold Sm; decide) (hW2 k hk) (by decide))
    have hmb : opD T (call T (n + 6)) .mul (.int 6) (.int b) = .ok (.int (6 * b)) := op_mul (sm_mulOk (show Sm (6 : Int).natAbs 3 by unfold Sm; decide) hbs2 (by decide))
    have g11 : ∀ d : D, evE T (call T (n + 6)) (.var 11) ((wp [11] s').set 11 (some d)) = .ok d := fun d => ev_varE (by
      rw [List.getElem?_set_self (by rw [wp_length]; omega)])
    refine p_set (mkR z m Rw W b) (ev_mkE (f := 31) (d := .int 1) (k := .int (6 * b)) rfl (evs_consE (ev_ixE (ev_varE v1) rfl (ix0 _ _)) (evs_consE (ev_lcR (k := m) (c := fun k => .tup [.tup (rowL z (Rw k)), .int (W k)]) (g := fun k => .lst [.lst (rowL z (Rw k)), .int (6 * W k)]) (by rw [evi_seq, ev_ixE (ev_varE v1) rfl (ix1 _ _ _)]; rfl) fun k hk => lcI_ok (asg_nm ..) (ev_lstE (evs_consE (ev_biE (evs_consE (ev_ixE (g11 _) rfl (ix_tup (i := 0) rfl)) rfl) (list_tup _)) (evs_consE (ev_binE rfl (ev_ixE (g11 _) rfl (ix_tup (i := 1) rfl)) (hm6 k hk)) rfl)))) rfl)) (ev_binE rfl (ev_ixE (ev_varE v1) rfl (ix_lst (i := 2) rfl)) hmb) hsame) ?_
    have w4 : (s'.set 9 (some (mkR z m Rw W b)))[4]? = some (some (mkR z m Rw W b)) := by rw [List.getElem?_set_ne (by decide)]; exact v4
    have w5 : (s'.set 9 (some (mkR z m Rw W b)))[5]? = some (some (tdD r3 s)) := by rw [List.getElem?_set_ne (by decide)]; exact v5
    have w9 : (s'.set 9 (some (mkR z m Rw W b)))[9]? = some (some (mkR z m Rw W b)) := List.getElem?_set_self (by omega)
    exact p_ret (.bl true) (ev_andT (ev_cisE (x := .bl true) (ev_cmpE (x := mkR z m Rw W b) (y := mkR z m Rw W b) (ev_varE w4) (ev_varE w9) (cmp_eq_obj (f := 35) rfl heq)) rfl) (ev_cmpE (ev_callE (d := d_basis_of) rfl (evs_consE (ev_varE w9) rfl) hc) (ev_varE w5) (cmp_eq_tup (toP_row (n := 7) fun j => (s j : Int))))) (hP _ rfl)
end Fc

set_option Elab.async false
set_option linter.all false
set_option maxRecDepth 100000
set_option maxHeartbeats 0
namespace Fc
theorem hrun : ∀ ns : List Int, ns.length ≤ 63 → call L.tab 31 100 [.scr ns] = .ok (.bl true) := fun ns _ => run_law2 (n := 24)
end Fc
open PySem PySem.W PySem.Calls PyProof.Rows
theorem PySem.Challenge.cw_fourcords_k11_basis_exchange_holds : PySem.Challenge.rw_fourcords_k11_basis_exchange.Holds := by
  w_on; o_law
  refine HandSHeadRun.head_imp (r := OpenLaw.row PySem.Challenge.rw_fourcords_k11_basis_exchange) (q := view (OpenLaw.row PySem.Challenge.rw_fourcords_k11_basis_exchange).prog [0, 53]) (H := Fc.hk) (ob := Fc.ob) (M := 8000) (loose := Fc.loose) (d := HandSHeadRun.topDef (OpenLaw.row PySem.Challenge.rw_fourcords_k11_basis_exchange).prog 53) (kwd := []) Fc.ob_eq
    Fc.run (by kernel_rfl) (by kernel_rfl) (by kernel_rfl) (by rfl) (by first | assumption | decide +kernel) (by decide +kernel) ⟨rfl, rfl, rfl, rfl, rfl, by decide +kernel⟩ ?hw ?hc
  case hw => w_witness2
  case hc => exact Fc.walk_mine (l := PySem.Challenge.rw_fourcords_k11_basis_exchange) (m := 63) (n := 30) (f := 100) (i := 0) (dd := Fc.t_law_v2) rfl (by decide) (by kernel_rfl) (by kernel_rfl) (by decide) (fun K c => Fc.text c) rfl rfl rfl rfl (fun _ _ _ _ _ _ us hl => match us, hl with | [_], _ => rfl) rfl rfl Fc.o_law_v2 rfl rfl rfl Fc.hrun

